import PyProof.Rows.All
import HandS.ExcCtx
import HandS.HotCalls
import HandS.ForMost
import HandS.ForExc
import HandS.Iter
import HandS.IsInst
import HandS.Gcd
import HandS.Wide
import HandS.ExcInit
import HandS.ExcField
import HandS.Small
import HandS.TupAny
import HandS.Deep
import HandS.Conv
import HandS.Lambda
import HandS.TupLe
import HandS.Style
import HandS.TupMul
import HandS.ExcIs
import HandS.List
import HandS.TryMany
import HandS.CallSlots
import HandS.OwnEq
import HandS.Zip
import KE.DatumOrd
import HandS.Defaults
import KE.GoesEnum
import KE.KTupSum
import KE.DataFind
import HandS.Dict
import KE.KExcSuper
import HandS.ExcSuper
import HandS.FStr
import KE.KOpsOwn
import KE.GoesZip
import KE.GoesMore
import PyProof.SeqIndex
import HandS.MakeKw
import HandS.More
import HandS.SetFor
import HandS.EndOwn
import PyProof.ReprRoads
import PyProof.ReprBulk
import PyProof.CallFns
import PyProof.Rows.FactsT3
import HandS.SortInts
import KE.DataMinMax
import KE.GoesComp
import HandS.Text
import KE.KIndexOf
import KE.DatumIndex
import HandS.ExcValue
import KE.OsRunLaw
import HandS.Star
import PyProof.InstNe
import HandS.Property
import KE.SortData
import PySem.Challenge.RW_untoldgaps_k02_things_that_are_no_ratios
set_option Elab.async false
set_option linter.all false
set_option maxRecDepth 100000
set_option maxHeartbeats 4000000
set_option exponentiation.threshold 10000
namespace L2
open PySem PySem.Spec PyProof.Rows
/-- around a body nothing is let out -/
theorem takes0N {X : Cx} : L2N.Takes X (fun _ _ _ _ => False) := fun _ _ x => by
  obtain ⟨_, _, _, _, _, _, _, _, _, _, _, _, _, _, _, _, z⟩ := x
  exact z.elim
/-- a def that may raise, contexts None -/
theorem Fun.okN {P : Program} {w : World} {K : PySem.W.Frag} {mg : Str → Option Value} {base : Heap} {x qual : Str} {st : Stmt} {f : Addr} {fd : FuncData} {N ps : List Str} {k : Nat} {sp : Sp} (F : Fun K x qual st f fd) (S : FnScope N ps (defScope st)) (len : ∀ vs H Q E, sp vs H Q E → vs.length = ps.length)
    (hbody : ∀ (cdv : Value) (A : Around) (outer : List Env) (s : Shared) (H : Hp) (vs : List V) (Q : VK) (E : XK), Room k (A.deeper (envOfC qual (defScope st) s.heap.objs.size f cdv)) → sp vs H Q E →
      ∃ t, PSs (cxOf (L2N.CX P w) P w K mg base N qual (defScope st) f cdv A outer s H E) (defBody st) t ∧ t { nx := fun _ H' => Q .non H', rt := Q } (start N vs) H) : FnOk P w K mg base (L2N.CX P w) (k + 1) f fd ps sp := by
  obtain ⟨oc, od, kV, doc, pm, an, cdv, ct, osl, rfl, lk, hcd⟩ := F.ex
  exact fn_of lk hcd S len fun A outer s H vs Q E hr hsp => hbody cdv A outer s H vs Q E hr hsp
end L2
namespace DL
open PySem PySem.Spec PyProof.Rows L2

/-- what a value is worth, whole -/
inductive D where
  | non | bl (b : Bool) | int (i : Int) | str (x : Str) | ty (n : String)
  | tup (xs : List D) | lst (xs : List D) | rol (xs : List D)
  | obj (c : Nat) (fs : List (Str × D)) | cls (c : Nat) | tok (n : Nat) | dic
  /-- a tuple whose object is known whole: it has no dict, so its methods can be called -/
  | tpx (xs : List D)
  /-- a dict whose keys are texts -/
  | dct (fs : List (Str × D))
  /-- an error, made and kept, with its fields -/
  | xob (c : Nat) (fs : List (Str × D))

/-- what is fixed: the written part, the addresses of the text's own classes -/
structure Glb where
  K : PySem.W.Frag
  cl : Nat → Addr
  /-- tables of code objects that lambdas are written into, with the lambdas' name -/
  tb : List (Addr × Str) := []

/-- a tuple: tracked, or of the written part -/
def TupAt (K : PySem.W.Frag) (S : Hp) (a : Addr) (vs : List V) : Prop :=
  S a = some (.tup vs) ∨ (∃ (o : Obj) (its : Array Value) (n : Nat), K.lookup a = some o ∧ o.cls = .type "tuple" ∧ o.data = .seq its n ∧ its.size ≤ sizeLine ∧ Vals vs its.toList) ∨ ∃ (o : Obj) (ns : List Int), vs = ns.map V.int ∧ S a = some (.frz o (.tup vs))
theorem TupAt.sqT {K : PySem.W.Frag} {S : Hp} {a : Addr} {vs : List V} (h : TupAt K S a vs) : SqT K S a vs := h.elim (fun z => .inl (.inl z)) fun z => z.elim .inr fun ⟨o, _, _, y⟩ => .inl (.inr ⟨o, y⟩)
theorem TupAt.mono {K : PySem.W.Frag} {S S' : Hp} {a : Addr} {vs : List V} (e : Same S S') (h : TupAt K S a vs) : TupAt K S' a vs := h.imp (e _ _) fun z => z.imp (fun y => y) fun ⟨o, ns, q, y⟩ => ⟨o, ns, q, e _ _ y⟩
mutual
inductive Rep (G : Glb) (ad : List Addr) (S : Hp) : V → D → Prop
  | non : Rep G ad S .non .non
  | bl (b : Bool) : Rep G ad S (.bl b) (.bl b)
  | int (i : Int) : Rep G ad S (.int i) (.int i)
  | str (x : Str) : Rep G ad S (.str x) (.str x)
  | ty (n : String) : Rep G ad S (.ty n) (.ty n)
  | tup {a : Addr} {vs : List V} {ds : List D} : TupAt G.K S a vs → Reps G ad S vs ds → Rep G ad S (.ref a) (.tup ds)
  | lst {a : Addr} {vs : List V} {ds : List D} : S a = some (.lst vs) → Reps G ad S vs ds → Rep G ad S (.ref a) (.lst ds)
  | rol {a : Addr} {vs : List V} {ds : List D} : SqL G.K S a vs → Reps G ad S vs ds → Rep G ad S (.ref a) (.rol ds)
  | obj {a dx : Addr} {c : Nat} {vs : List (Str × V)} {fs : List (Str × D)} : S a = some (.ins (G.cl c) dx vs) → RepF G ad S vs fs → Rep G ad S (.ref a) (.obj c fs)
  | cls (c : Nat) : Rep G ad S (.ref (G.cl c)) (.cls c)
  | tok {a : Addr} {n : Nat} : ad[n]? = some a → Rep G ad S (.ref a) (.tok n)
  | dic {a : Addr} {kvs : List (Key × V)} : S a = some (.dK kvs) → Rep G ad S (.ref a) .dic
  | dct {a : Addr} {vs : List (Str × V)} {fs : List (Str × D)} : S a = some (.dK (vs.map fun p => (Sum.inr p.1, p.2))) → RepF G ad S vs fs → Rep G ad S (.ref a) (.dct fs)
  | xob {a : Addr} {c : Nat} : S a = some (exo a (G.cl c) Option.none) → Rep G ad S (.ref a) (.xob c [])
  | xobF {a dx : Addr} {c : Nat} {vs : List (Str × V)} {fs : List (Str × D)} : S a = some (exo a (G.cl c) (some dx)) → S dx = some (exd dx vs) → RepF G ad S vs fs → Rep G ad S (.ref a) (.xob c fs)
  | tpx {a : Addr} {o : Obj} {ns : List Int} {vs : List V} {ds : List D} : vs = ns.map V.int → S a = some (.frz o (.tup vs)) → o.dict = Option.none → Reps G ad S vs ds → Rep G ad S (.ref a) (.tpx ds)
inductive Reps (G : Glb) (ad : List Addr) (S : Hp) : List V → List D → Prop
  | nil : Reps G ad S [] []
  | cons {v : V} {d : D} {vs : List V} {ds : List D} : Rep G ad S v d → Reps G ad S vs ds → Reps G ad S (v :: vs) (d :: ds)
inductive RepF (G : Glb) (ad : List Addr) (S : Hp) : List (Str × V) → List (Str × D) → Prop
  | nil : RepF G ad S [] []
  | cons {f : Str} {v : V} {d : D} {vs : List (Str × V)} {ds : List (Str × D)} : Rep G ad S v d → RepF G ad S vs ds → RepF G ad S ((f, v) :: vs) ((f, d) :: ds)
end

theorem Same.sqT {K : PySem.W.Frag} {H H' : Hp} {a : Addr} {xs : List V} (e : Same H H') (h : SqT K H a xs) : SqT K H' a xs := by
  rcases h with (h | ⟨o, h⟩) | h
  · exact .inl (.inl (e _ _ h))
  · exact .inl (.inr ⟨o, e _ _ h⟩)
  · exact .inr h

section
variable {G : Glb} {ad : List Addr} {S S' : Hp}
mutual
theorem Rep.mono (e : Same S S') : ∀ {v : V} {d : D}, Rep G ad S v d → Rep G ad S' v d
  | _, _, .non => .non
  | _, _, .bl b => .bl b
  | _, _, .int i => .int i
  | _, _, .str x => .str x
  | _, _, .ty n => .ty n
  | _, _, .tup h r => .tup (TupAt.mono e h) (Reps.mono e r)
  | _, _, .lst h r => .lst (e _ _ h) (Reps.mono e r)
  | _, _, .rol h r => .rol (e.seq h) (Reps.mono e r)
  | _, _, .obj h r => .obj (e _ _ h) (RepF.mono e r)
  | _, _, .cls c => .cls c
  | _, _, .tok h => .tok h
  | _, _, .dic h => .dic (e _ _ h)
  | _, _, .tpx q h n r => .tpx q (e _ _ h) n (Reps.mono e r)
  | _, _, .dct h r => .dct (e _ _ h) (RepF.mono e r)
  | _, _, .xob h => .xob (e _ _ h)
  | _, _, .xobF h h2 r => .xobF (e _ _ h) (e _ _ h2) (RepF.mono e r)
theorem Reps.mono (e : Same S S') : ∀ {vs : List V} {ds : List D}, Reps G ad S vs ds → Reps G ad S' vs ds
  | _, _, .nil => .nil
  | _, _, .cons h r => .cons (Rep.mono e h) (Reps.mono e r)
theorem RepF.mono (e : Same S S') : ∀ {vs : List (Str × V)} {ds : List (Str × D)}, RepF G ad S vs ds → RepF G ad S' vs ds
  | _, _, .nil => .nil
  | _, _, .cons h r => .cons (Rep.mono e h) (RepF.mono e r)
end
theorem Reps.len : ∀ {vs : List V} {ds : List D}, Reps G ad S vs ds → vs.length = ds.length
  | _, _, .nil => rfl
  | _, _, .cons _ r => congrArg (· + 1) (Reps.len r)
theorem Reps.get : ∀ {vs : List V} {ds : List D} {i : Nat} {d : D}, Reps G ad S vs ds → ds[i]? = some d → ∃ v, vs[i]? = some v ∧ Rep G ad S v d
  | _, _, 0, _, .cons h _, e => ⟨_, rfl, by cases e; exact h⟩
  | _, _, i + 1, _, .cons _ r, e => Reps.get (i := i) r e
theorem Reps.append : ∀ {vs : List V} {ds : List D} {ws : List V} {es : List D}, Reps G ad S vs ds → Reps G ad S ws es → Reps G ad S (vs ++ ws) (ds ++ es)
  | _, _, _, _, .nil, s => s
  | _, _, _, _, .cons h r, s => .cons h (Reps.append r s)
theorem Reps.set : ∀ {vs : List V} {ds : List D} {v : V} {d : D} (i : Nat), Reps G ad S vs ds → Rep G ad S v d → Reps G ad S (vs.set i v) (ds.set i d)
  | _, _, _, _, _, .nil, _ => .nil
  | _, _, _, _, 0, .cons _ r, h => .cons h r
  | _, _, _, _, i + 1, .cons h r, k => .cons h (Reps.set i r k)
theorem Reps.take : ∀ {vs : List V} {ds : List D} (n : Nat), Reps G ad S vs ds → Reps G ad S (vs.take n) (ds.take n)
  | _, _, 0, _ => .nil
  | _, _, _ + 1, .nil => .nil
  | _, _, n + 1, .cons h r => .cons h (Reps.take n r)
theorem Reps.drop : ∀ {vs : List V} {ds : List D} (n : Nat), Reps G ad S vs ds → Reps G ad S (vs.drop n) (ds.drop n)
  | _, _, 0, r => r
  | _, _, _ + 1, .nil => .nil
  | _, _, n + 1, .cons _ r => Reps.drop n r
theorem RepF.look : ∀ {vs : List (Str × V)} {ds : List (Str × D)} {f : Str} {d : D}, RepF G ad S vs ds → ds.lookup f = some d → ∃ v, vs.lookup f = some v ∧ Rep G ad S v d
  | _, _, f, d, .cons (f := g) (v := v) (d := d') h r, e => by
    rw [List.lookup_cons] at e ⊢
    split at e
    · cases e; exact ⟨_, rfl, h⟩
    · exact RepF.look r e
theorem RepF.none : ∀ {vs : List (Str × V)} {ds : List (Str × D)} {f : Str}, RepF G ad S vs ds → ds.lookup f = Option.none → vs.lookup f = Option.none
  | _, _, f, .nil, e => rfl
  | _, _, f, .cons (f := g) (v := v) (d := d') h r, e => by
    rw [List.lookup_cons] at e ⊢
    split at e
    · cases e
    · exact RepF.none r e
end

structure Ex where
  c : Nat
  fs : Option (List (Str × D))
inductive Res (α : Type) where
  | ok (a : α) (st : List D)
  | err (x : Ex) (st : List D)
  | bad
abbrev M (α : Type) := List D → Res α
def Res.bind {α β : Type} (r : Res α) (f : α → M β) : Res β := match r with
  | .ok a st => f a st
  | .err x st => .err x st
  | .bad => .bad
abbrev Env' := List (Option D)
/-- an expression, an argument list, a test -/
abbrev ME := Env' → M D
abbrev MA := Env' → M (List D)
abbrev MT := Env' → M Bool
inductive Fl0 where
  | nx (e : Env') | rt (d : D) | bk (e : Env') | ct (e : Env')


def RepX (G : Glb) (ad : List Addr) (S : Hp) (cls : Value) (d : Option Addr) (x : Ex) : Prop :=
  cls = .ref (G.cl x.c) ∧ match x.fs with
    | none => d = none
    | some fs => ∃ a vs, d = some a ∧ S a = some (.xd vs) ∧ RepF G ad S vs fs
theorem RepX.mono {G : Glb} {ad : List Addr} {S S' : Hp} {cls : Value} {d : Option Addr} {x : Ex} (e : Same S S') (h : RepX G ad S cls d x) : RepX G ad S' cls d x := by
  obtain ⟨c, fs⟩ := x
  cases fs with
  | none => exact h
  | some fs =>
    obtain ⟨h1, a, vs, h2, h3, h4⟩ := h
    exact ⟨h1, a, vs, h2, e _ _ h3, h4.mono e⟩

/-- a table's facts stay where all but lists stay -/
def TabO (o : HO) : Prop := (∃ ps, o = .tbl ps) ∨ (∃ c q, o = LamX.CodeO c q) ∨ ∃ x, o = .own x
theorem TabO.lst {vs : List V} (h : TabO (.lst vs)) : False := by
  rcases h with ⟨_, z⟩ | ⟨_, _, z⟩ | ⟨_, z⟩
  · cases z
  · unfold LamX.CodeO at z; cases z
  · cases z
theorem TabO.ins {C : Addr} {dx : Addr} {fs : List (Str × V)} (h : TabO (.ins C dx fs)) : False := by
  rcases h with ⟨_, z⟩ | ⟨_, _, z⟩ | ⟨_, z⟩
  · cases z
  · unfold LamX.CodeO at z; cases z
  · cases z
theorem TabO.dT {kvs : List (List Key × V)} (h : TabO (.dT kvs)) : False := by
  rcases h with ⟨_, z⟩ | ⟨_, _, z⟩ | ⟨_, z⟩
  · cases z
  · unfold LamX.CodeO at z; cases z
  · cases z
theorem tab_keep {H H' : Hp} {P : Addr} {q : Str} (t : LamX.TabS H P q) (e : ∀ b o, H b = some o → TabO o → H' b = some o) : LamX.TabS H' P q := by
  obtain ⟨ps, h1, h2, h3⟩ := t
  refine ⟨ps, e _ _ h1 (.inl ⟨_, rfl⟩), h2, fun pos cv hc => ?_⟩
  obtain ⟨c, e1, e2⟩ := h3 pos cv hc
  exact ⟨c, e1, e _ _ e2 (.inr (.inl ⟨_, _, rfl⟩))⟩
/-- the tables: each a table, none of the still part -/
def TabN (G : Glb) (S H : Hp) : Prop := ∀ p ∈ G.tb, LamX.TabS H p.1 p.2 ∧ S p.1 = none
theorem TabN.keep {G : Glb} {S H H' : Hp} (t : TabN G S H) (e : ∀ b o, H b = some o → TabO o → H' b = some o) : TabN G S H' := fun p hp => ⟨tab_keep (t p hp).1 e, (t p hp).2⟩
theorem TabN.known {G : Glb} {S S' H : Hp} (t : TabN G S H) (e : ∀ a, (∃ ps, H a = some (.tbl ps)) → S a = none → S' a = none) : TabN G S' H := fun p hp => ⟨(t p hp).1, e p.1 (let ⟨ps, h, _⟩ := (t p hp).1; ⟨ps, h⟩) (t p hp).2⟩
theorem TabN.new {G : Glb} {S H : Hp} {p : Addr} {o : HO} (t : TabN G S H) (hp : H p = none) : TabN G (upd S p o) (upd H p o) := fun q hq => by
  obtain ⟨⟨ps, h, h2⟩, h3⟩ := t q hq
  have ne : q.1 ≠ p := ne_of_none h hp
  exact ⟨tab_keep ⟨ps, h, h2⟩ fun b u hb _ => by rw [upd_ne (ne_of_none hb hp)]; exact hb, by rw [upd_ne ne]; exact h3⟩
def keyD : Key → D
  | .inl i => .int i
  | .inr x => .str x
/-- a dict's pairs as data -/
def pairsD (ks : List (List Key)) (ds : List D) : List D := List.zipWith (fun k d => .tup [.tup (k.map keyD), d]) ks ds
/-- what stands in a cell: a list, a dict whose keys are flat tuples, an object of an own class -/
inductive CellAt (G : Glb) (ad : List Addr) (S H : Hp) (a : Addr) : D → Prop
  | lst {vs : List V} {ds : List D} : H a = some (HO.lst vs) → Reps G ad S vs ds → CellAt G ad S H a (.lst ds)
  | dct {kvs : List (List Key × V)} {ds : List D} : H a = some (HO.dT kvs) → Reps G ad S (kvs.map (·.2)) ds → CellAt G ad S H a (.rol (pairsD (kvs.map (·.1)) ds))
  | ins {dx : Addr} {c : Nat} {vs : List (Str × V)} {fs : List (Str × D)} : H a = some (HO.ins (G.cl c) dx vs) → H dx = some (HO.own a) → RepF G ad S vs fs → CellAt G ad S H a (.obj c fs)
section
variable {G : Glb} {ad : List Addr} {S S' H H' : Hp} {a : Addr} {d : D}
theorem CellAt.some_ (h : CellAt G ad S H a d) : ∃ o, H a = some o := by
  cases h with
  | lst h1 _ => exact ⟨_, h1⟩
  | dct h1 _ => exact ⟨_, h1⟩
  | ins h1 _ _ => exact ⟨_, h1⟩
theorem CellAt.mono (e : Same S S') (h : CellAt G ad S H a d) : CellAt G ad S' H a d := by
  cases h with
  | lst h1 r => exact .lst h1 (r.mono e)
  | dct h1 r => exact .dct h1 (r.mono e)
  | ins h1 h2 r => exact .ins h1 h2 (r.mono e)
theorem CellAt.on (h : CellAt G ad S H a d) (k : ∀ b o, (b = a ∨ ∃ x, o = HO.own x) → H b = some o → H' b = some o) : CellAt G ad S H' a d := by
  cases h with
  | lst h1 r => exact .lst (k _ _ (.inl rfl) h1) r
  | dct h1 r => exact .dct (k _ _ (.inl rfl) h1) r
  | ins h1 h2 r => exact .ins (k _ _ (.inl rfl) h1) (k _ _ (.inr ⟨_, rfl⟩) h2) r
/-- another list of the heap changes -/
theorem CellAt.updL (h : CellAt G ad S H a d) {D : Addr} {ws : List V} {o' : HO} (hD : H D = some (.lst ws)) (ne : a ≠ D) : CellAt G ad S (upd H D o') a d :=
  h.on fun b o hb hh => by
    have : b ≠ D := fun z => by
      rcases hb with e | ⟨x, rfl⟩
      · exact ne (e.symm.trans z)
      · rw [z, hD] at hh; cases hh
    rw [upd_ne this]; exact hh
/-- a new object of the heap -/
theorem CellAt.fresh (h : CellAt G ad S H a d) {D : Addr} {o' : HO} (hD : H D = none) : CellAt G ad S (upd H D o') a d :=
  h.on fun b o _ hh => by rw [upd_ne (ne_of_none hh hD)]; exact hh
theorem CellAt.asL {ds : List D} (h : CellAt G ad S H a (.lst ds)) : ∃ vs, H a = some (HO.lst vs) ∧ Reps G ad S vs ds := by
  cases h with
  | lst h1 r => exact ⟨_, h1, r⟩
end
/-- the cells that may change -/
structure StoOk (G : Glb) (ad : List Addr) (S : Hp) (st : List D) (H : Hp) : Prop where
  len : ad.length = st.length
  nd : ad.Nodup
  at_ : ∀ (n : Nat) (a : Addr), ad[n]? = some a → S a = none ∧ ∃ d : D, st[n]? = some d ∧ CellAt G ad S H a d
  tab : TabN G S H
theorem StoOk.has {G : Glb} {ad : List Addr} {S : Hp} {st : List D} {H : Hp} (s : StoOk G ad S st H) {a : Addr} (h : a ∈ ad) : S a = none ∧ ∃ o : HO, H a = some o := by
  obtain ⟨n, hn, e⟩ := List.mem_iff_getElem.mp h
  obtain ⟨h1, d, _, h2⟩ := s.at_ n a (by rw [List.getElem?_eq_getElem hn, e])
  exact ⟨h1, h2.some_⟩

/-- an object stays; a table may be written on -/
def KeepO (H' : Hp) (a : Addr) (o : HO) : Prop := ∃ o', H' a = some o' ∧ (o' = o ∨ ∃ ps qs, o = .tbl ps ∧ o' = .tbl qs)
theorem KeepO.refl {H' : Hp} {a : Addr} {o : HO} (h : H' a = some o) : KeepO H' a o := ⟨o, h, .inl rfl⟩
theorem KeepO.of {H' : Hp} {a : Addr} {o : HO} (h : KeepO H' a o) (n : ∀ ps, o ≠ .tbl ps) : H' a = some o := by
  obtain ⟨o', h1, h2 | ⟨ps, _, h2, _⟩⟩ := h
  · rw [h1, h2]
  · exact absurd h2 (n ps)
theorem KeepO.lst {H' : Hp} {a : Addr} {xs : List V} (h : KeepO H' a (.lst xs)) : H' a = some (.lst xs) := h.of fun _ z => by cases z
theorem KeepO.trans {H1 H2 : Hp} {a : Addr} {o : HO} (h : KeepO H1 a o) (k : ∀ o', H1 a = some o' → KeepO H2 a o') : KeepO H2 a o := by
  obtain ⟨o1, h1, h2⟩ := h
  obtain ⟨o2, k1, k2⟩ := k o1 h1
  refine ⟨o2, k1, ?_⟩
  rcases h2 with rfl | ⟨ps, qs, e1, e2⟩
  · exact k2
  · rcases k2 with rfl | ⟨ps', qs', e3, e4⟩
    · exact .inr ⟨ps, qs, e1, e2⟩
    · exact .inr ⟨ps, qs', e1, e4⟩
theorem KeepO.map {H1 H2 : Hp} {a : Addr} {o : HO} (h : KeepO H1 a o) (k : ∀ o', H1 a = some o' → H2 a = some o') : KeepO H2 a o := h.trans fun o' e => .refl (k o' e)
theorem KeepO.no {H' : Hp} {a : Addr} {o : HO} (h : KeepO H' a o) (n : H' a = none) : False := by
  obtain ⟨_, h1, _⟩ := h
  rw [n] at h1; cases h1
/-- from one heap to the next: the still part grows by new objects alone, all but the cells is as it was -/
structure Ext (ad : List Addr) (S H S' H' : Hp) : Prop where
  same : Same S S'
  new : ∀ a o, S' a = some o → S a = some o ∨ H a = none
  keep : ∀ a o, H a = some o → a ∉ ad → KeepO H' a o
theorem Ext.refl (ad : List Addr) (S H : Hp) : Ext ad S H S H := ⟨Same.refl _, fun _ _ h => .inl h, fun _ _ h _ => .refl h⟩
theorem Ext.trans {G : Glb} {ad : List Addr} {S H S1 H1 S2 H2 : Hp} {st : List D} (a : Ext ad S H S1 H1) (s : StoOk G ad S1 st H1) (b : Ext ad S1 H1 S2 H2) : Ext ad S H S2 H2 := by
  refine ⟨a.same.trans b.same, fun c o h => ?_, fun c o h hc => (a.keep c o h hc).trans fun o' h' => b.keep c o' h' hc⟩
  rcases b.new c o h with h1 | h1
  · exact a.new c o h1
  · by_cases hc : c ∈ ad
    · obtain ⟨_, vs, hv⟩ := s.has hc
      rw [h1] at hv; cases hv
    · cases e : H c with
      | none => exact .inr rfl
      | some u => exact ((a.keep c u e hc).no h1).elim

/-- an activation: the still part and the heap at its entry, the cells -/
structure Act where
  S : Hp
  H : Hp
  ad : List Addr

/-- a caught error as an object: without fields of its own, with such (behind a mark) -/
def exObj (x : Ex) : D := match x.fs with
  | none => .obj x.c []
  | some fs => .obj x.c (("", .non) :: fs)
/-- the slots that own a list; the slot of a caught error, the error's object, its class, its dict -/
structure Ow where
  own : List Nat := []
  exi : Option Nat := none
  exv : Addr × Value × Option Addr := (0, .none, none)
  slf : Option Nat := none
  slv : Addr × Addr := (0, 0)
def Ow.has (O : Ow) (i : Nat) : Bool := O.own.elem i || O.exi == some i || O.slf == some i
/-- the object that is being made: it and its dict are nobody else's -/
def SelfAt (G : Glb) (b : Act) (p : Addr × Addr) (S H : Hp) (o : Option (Option D)) (u : Option (Option V)) : Prop :=
  ∃ (c : Nat) (vs : List (Str × V)) (fs : List (Str × D)), o = some (some (.obj c fs)) ∧ u = some (some (.ref p.1)) ∧ H p.1 = some (.ins (G.cl c) p.2 vs) ∧ H p.2 = some (.own p.1) ∧
    S p.1 = none ∧ S p.2 = none ∧ b.H p.1 = none ∧ b.H p.2 = none ∧ p.1 ∉ b.ad ∧ p.2 ∉ b.ad ∧ RepF G b.ad S vs fs

structure DI (G : Glb) (b : Act) (O : Ow) (S : Hp) (env : Env') (st : List D) (σ : L2.St) (H : Hp) : Prop where
  len : σ.length = env.length
  sub : Same S H
  s0 : Same b.S S
  new : ∀ a o, S a = some o → b.S a = some o ∨ b.H a = none
  keep : ∀ a o, b.H a = some o → a ∉ b.ad → KeepO H a o
  slot : ∀ (i : Nat) (d : D), env[i]? = some (some d) → O.has i = false → ∃ v, σ[i]? = some (some v) ∧ Rep G b.ad S v d
  own : ∀ (i : Nat) (d : D), i ∈ O.own → env[i]? = some (some d) → ∃ (a : Addr) (vs : List V) (ds : List D), d = D.lst ds ∧ σ[i]? = some (some (V.ref a)) ∧ H a = some (HO.lst vs) ∧ S a = none ∧ b.H a = none ∧ a ∉ b.ad ∧ Reps G b.ad S vs ds
  dist : ∀ (i j : Nat) (a : Addr), i ∈ O.own → j ∈ O.own → (∃ d : D, env[i]? = some (some d)) → (∃ d : D, env[j]? = some (some d)) → σ[i]? = some (some (V.ref a)) → σ[j]? = some (some (V.ref a)) → i = j
  sto : StoOk G b.ad S st H
  exc : ∀ (i : Nat) (d : D), O.exi = some i → env[i]? = some (some d) → ∃ x, d = exObj x ∧ σ[i]? = some (some (V.ref O.exv.1)) ∧ RepX G b.ad S O.exv.2.1 O.exv.2.2 x
  self_ : ∀ i : Nat, O.slf = some i → SelfAt G b O.slv S H env[i]? σ[i]?

/-- behind an expression: the frame as it was -/
theorem DI.ext {G : Glb} {b : Act} {O : Ow} {S : Hp} {env : Env'} {st st' : List D} {σ : L2.St} {H S' H' : Hp} (I : DI G b O S env st σ H) (x : Ext b.ad S H S' H') (su : Same S' H') (s : StoOk G b.ad S' st' H') : DI G b O S' env st' σ H' := by
  have hn : ∀ a o, S' a = some o → S a = some o ∨ (b.H a = none ∧ H a = none) := fun a o h => by
    rcases x.new a o h with h1 | h1
    · exact .inl h1
    · refine .inr ⟨?_, h1⟩
      cases e : b.H a with
      | none => rfl
      | some u =>
        by_cases ha : a ∈ b.ad
        · obtain ⟨_, vs, hv⟩ := I.sto.has ha
          rw [h1] at hv; cases hv
        · exact ((I.keep a u e ha).no h1).elim
  have nad : ∀ a, S a = none → (∃ vs : List V, H a = some (HO.lst vs)) → S' a = none := fun a h1 ⟨vs, h2⟩ => by
    cases e : S' a with
    | none => rfl
    | some o =>
      rcases hn a o e with q | ⟨_, q⟩
      · rw [h1] at q; cases q
      · rw [h2] at q; cases q
  have nad2 : ∀ a o, S a = none → H a = some o → S' a = none := fun a o h1 h2 => by
    cases e : S' a with
    | none => rfl
    | some o' =>
      rcases hn a o' e with q | ⟨_, q⟩
      · rw [h1] at q; cases q
      · rw [h2] at q; cases q
  refine ⟨I.len, su, I.s0.trans x.same, fun a o h => ?_, fun a o h ha => (I.keep a o h ha).trans fun o' h' => x.keep a o' h' ha, fun i d h ho => ?_, fun i d hi h => ?_, I.dist, s, fun i d hi h => ?_, fun i hi => ?_⟩
  · rcases hn a o h with q | ⟨q, _⟩
    · exact I.new a o q
    · exact .inr q
  · obtain ⟨v, h1, h2⟩ := I.slot i d h ho
    exact ⟨v, h1, h2.mono x.same⟩
  · obtain ⟨a, vs, ds, h1, h2, h3, h4, h5, ha, h6⟩ := I.own i d hi h
    exact ⟨a, vs, ds, h1, h2, (x.keep a _ h3 ha).lst, nad a h4 ⟨vs, h3⟩, h5, ha, h6.mono x.same⟩
  · obtain ⟨y, h1, h2, h3⟩ := I.exc i d hi h
    exact ⟨y, h1, h2, h3.mono x.same⟩
  · obtain ⟨c, vs, fs, h1, h2, h3, h4, h5, h6, h7, h8, h9, h10, h11⟩ := I.self_ i hi
    exact ⟨c, vs, fs, h1, h2, (x.keep _ _ h3 h9).of (fun _ z => by cases z), (x.keep _ _ h4 h10).of (fun _ z => by cases z), nad2 _ _ h5 h3, nad2 _ _ h6 h4, h7, h8, h9, h10, h11.mono x.same⟩

def wpR {α : Type} (r : Res α) (ok : α → List D → Prop) (err : Ex → List D → Prop) : Prop := match r with
  | .ok a st => ok a st
  | .err x st => err x st
  | .bad => False
theorem wpR_bind {α β : Type} {r : Res α} {f : α → M β} {ok : β → List D → Prop} {err : Ex → List D → Prop} (h : wpR (r.bind f) ok err) : wpR r (fun a st => wpR (f a st) ok err) err := by
  cases r <;> exact h
theorem wpR_imp {α : Type} {r : Res α} {ok ok' : α → List D → Prop} {err err' : Ex → List D → Prop} (h : wpR r ok err) (h1 : ∀ a st, ok a st → ok' a st) (h2 : ∀ x st, err x st → err' x st) : wpR r ok' err' := by
  cases r with
  | ok a st => exact h1 _ _ h
  | err x st => exact h2 _ _ h
  | bad => exact h

def Post (G : Glb) (ad : List Addr) (S H : Hp) (d : D) (st : List D) (Q : VK) : Prop := ∀ v S' H', Ext ad S H S' H' → Same S' H' → StoOk G ad S' st H' → Rep G ad S' v d → Q v H'
def PostA (G : Glb) (ad : List Addr) (S H : Hp) (ds : List D) (st : List D) (Q : List V → Hp → Prop) : Prop := ∀ vs S' H', Ext ad S H S' H' → Same S' H' → StoOk G ad S' st H' → Reps G ad S' vs ds → Q vs H'
def PostB (G : Glb) (ad : List Addr) (S H : Hp) (k : Bool) (st : List D) (Q : Bool → Hp → Prop) : Prop := ∀ S' H', Ext ad S H S' H' → Same S' H' → StoOk G ad S' st H' → Q k H'
def PostX (G : Glb) (ad : List Addr) (S H : Hp) (x : Ex) (st : List D) (R : Value → Option Addr → Hp → Prop) : Prop := ∀ cls dd S' H', Ext ad S H S' H' → Same S' H' → StoOk G ad S' st H' → RepX G ad S' cls dd x → R cls dd H'
section
variable {G : Glb} {ad : List Addr} {S H S1 H1 : Hp} {st st1 : List D}
theorem Post.from_ {d : D} {Q : VK} (x : Ext ad S H S1 H1) (s : StoOk G ad S1 st1 H1) (h : Post G ad S H d st Q) : Post G ad S1 H1 d st Q := fun v S' H' x' => h v S' H' (x.trans s x')
theorem PostA.from_ {ds : List D} {Q : List V → Hp → Prop} (x : Ext ad S H S1 H1) (s : StoOk G ad S1 st1 H1) (h : PostA G ad S H ds st Q) : PostA G ad S1 H1 ds st Q := fun v S' H' x' => h v S' H' (x.trans s x')
theorem PostB.from_ {k : Bool} {Q : Bool → Hp → Prop} (x : Ext ad S H S1 H1) (s : StoOk G ad S1 st1 H1) (h : PostB G ad S H k st Q) : PostB G ad S1 H1 k st Q := fun S' H' x' => h S' H' (x.trans s x')
theorem PostX.from_ {e : Ex} {R : Value → Option Addr → Hp → Prop} (x : Ext ad S H S1 H1) (s : StoOk G ad S1 st1 H1) (h : PostX G ad S H e st R) : PostX G ad S1 H1 e st R := fun c dd S' H' x' => h c dd S' H' (x.trans s x')
end

structure DE (G : Glb) (X : Cx) (W : WX) (O : Ow) (e : Expr) (m : ME) : Prop where
  ex : ∃ t, PE X e t ∧ ∀ (b : Act) S env st σ H Q, DI G b O S env st σ H → wpR (m env st) (fun d st' => Post G b.ad S H d st' Q) (fun x st' => PostX G b.ad S H x st' fun c dd H' => W c dd σ H') → t σ H Q
structure DT (G : Glb) (X : Cx) (W : WX) (O : Ow) (e : Expr) (m : MT) : Prop where
  ex : ∃ t, PT X e t ∧ ∀ (b : Act) S env st σ H Q, DI G b O S env st σ H → wpR (m env st) (fun k st' => PostB G b.ad S H k st' Q) (fun x st' => PostX G b.ad S H x st' fun c dd H' => W c dd σ H') → t σ H Q
structure DW (G : Glb) (X : Cx) (W : WX) (O : Ow) (e : Expr) (m : MT) : Prop where
  ex : ∃ t, PW X e t ∧ ∀ (b : Act) S env st σ H Q, DI G b O S env st σ H → wpR (m env st) (fun k st' => PostB G b.ad S H k st' Q) (fun x st' => PostX G b.ad S H x st' fun c dd H' => W c dd σ H') → t σ H Q
structure DA (G : Glb) (X : Cx) (W : WX) (O : Ow) (es : List Expr) (m : MA) : Prop where
  ex : ∃ t, PA X es t ∧ ∀ (b : Act) S env st σ H Q, DI G b O S env st σ H → wpR (m env st) (fun ds st' => PostA G b.ad S H ds st' Q) (fun x st' => PostX G b.ad S H x st' fun c dd H' => W c dd σ H') → t σ H Q

/-- how a block ends -/
inductive Out where
  | nx (env : Env') (st : List D)
  | rt (d : D) (st : List D)
  | bk (env : Env') (st : List D)
  | ct (env : Env') (st : List D)
  | er (x : Ex) (env : Env') (st : List D)
  | bad
abbrev MS := Env' → List D → Out
/-- Ob: what is owned where the loop is left or turned; OE: what may be owned where an error flies -/
def PostS (G : Glb) (b : Act) (Ob : Ow) (OE : Ow → Prop) (W : WX) (O : Ow) (D : Ends) (S : Hp) : Out → Prop
  | .nx env st => ∀ S' σ H, Same S S' → DI G b O S' env st σ H → D.nx σ H
  | .rt d st => ∀ v S' H, Ext b.ad b.S b.H S' H → Same S' H → StoOk G b.ad S' st H → Rep G b.ad S' v d → D.rt v H
  | .bk env st => ∀ S' σ H, Same S S' → DI G b Ob S' env st σ H → D.bk σ H
  | .ct env st => ∀ S' σ H, Same S S' → DI G b Ob S' env st σ H → D.ct σ H
  | .er x env st => ∀ cls dd O' S' σ H, OE O' → Same S S' → DI G b O' S' env st σ H → RepX G b.ad S' cls dd x → W cls dd σ H
  | .bad => False
theorem PostS.from_ {G : Glb} {b : Act} {Ob : Ow} {OE : Ow → Prop} {W : WX} {O : Ow} {D : Ends} {S S1 : Hp} {o : Out} (e : Same S S1) (h : PostS G b Ob OE W O D S o) : PostS G b Ob OE W O D S1 o := by
  cases o with
  | nx env st => exact fun S' σ H x => h S' σ H (e.trans x)
  | rt d st => exact h
  | bk env st => exact fun S' σ H x => h S' σ H (e.trans x)
  | ct env st => exact fun S' σ H x => h S' σ H (e.trans x)
  | er x env st => exact fun cls dd O' S' σ H q x => h cls dd O' S' σ H q (e.trans x)
  | bad => exact h
structure DS (G : Glb) (X : Cx) (W : WX) (Ob : Ow) (OE : Ow → Prop) (O : Ow) (s : Stmt) (O' : Ow) (m : MS) : Prop where
  ex : ∃ t, PS X s t ∧ ∀ (b : Act) S env st σ H D, DI G b O S env st σ H → PostS G b Ob OE W O' D S (m env st) → t D σ H
structure DSs (G : Glb) (X : Cx) (W : WX) (Ob : Ow) (OE : Ow → Prop) (O : Ow) (s : List Stmt) (O' : Ow) (m : MS) : Prop where
  ex : ∃ t, PSs X s t ∧ ∀ (b : Act) S env st σ H D, DI G b O S env st σ H → PostS G b Ob OE W O' D S (m env st) → t D σ H

/-- what an activation has made so far -/
theorem DI.fin {G : Glb} {b : Act} {O : Ow} {S : Hp} {env : Env'} {st : List D} {σ : L2.St} {H : Hp} (I : DI G b O S env st σ H) : Ext b.ad b.S b.H S H := ⟨I.s0, I.new, I.keep⟩
/-- where an activation begins -/
theorem DI.start {G : Glb} {b : Act} {n : Nat} {vs : List V} {ds : List D} {st : List D} (hs : Same b.S b.H) (so : StoOk G b.ad b.S st b.H) (r : Reps G b.ad b.S vs ds) :
    DI G b {} b.S (ds.map some ++ List.replicate n none) st (vs.map some ++ List.replicate n none) b.H := by
  refine ⟨by simp [r.len], hs, Same.refl _, fun _ _ h => .inl h, fun _ _ h _ => .refl h, fun i d h _ => ?_, fun i d hi => by simp at hi, fun i j a hi => by simp at hi, so, fun i d hi => (by cases hi), fun i hi => (by cases hi)⟩
  by_cases hi : i < ds.length
  · rw [List.getElem?_append_left (by simpa using hi), List.getElem?_map] at h
    cases e : ds[i]? with
    | none => rw [e] at h; cases h
    | some d' =>
      rw [e] at h
      have e2 : d' = d := by simpa using h
      subst e2
      obtain ⟨v, h1, h2⟩ := r.get e
      refine ⟨v, ?_, h2⟩
      rw [List.getElem?_append_left (by simpa [r.len] using hi), List.getElem?_map, h1]
      rfl
  · rw [List.getElem?_append_right (by simpa using Nat.le_of_not_lt hi)] at h
    rw [List.getElem?_replicate] at h
    split at h <;> cases h
end DL

namespace DL
open PySem PySem.Spec PyProof.Rows L2

section
variable {G : Glb} {ad : List Addr} {S H : Hp} {st : List D}
/-- a new object, still from now on -/
theorem new_still {p : Addr} {o : HO} (su : Same S H) (so : StoOk G ad S st H) (hp : H p = none) :
    Ext ad S H (upd S p o) (upd H p o) ∧ Same (upd S p o) (upd H p o) ∧ StoOk G ad (upd S p o) st (upd H p o) := by
  have hs : S p = none := su.free hp
  have e : Same S (upd S p o) := fun b u h => by
    rw [upd_ne (ne_of_none h hs)]; exact h
  refine ⟨⟨e, fun b u h => ?_, fun b u h _ => ?_⟩, fun b u h => ?_, so.len, so.nd, fun n a hn => ?_, so.tab.new hp⟩
  · by_cases hb : b = p
    · subst hb; exact .inr hp
    · rw [upd_ne hb] at h; exact .inl h
  · exact .refl (by rw [upd_ne (ne_of_none h hp)]; exact h)
  · by_cases hb : b = p
    · subst hb; rw [upd_same] at h ⊢; exact h
    · rw [upd_ne hb] at h ⊢; exact su _ _ h
  · obtain ⟨h1, d, h2, h3⟩ := so.at_ n a hn
    obtain ⟨u, hu⟩ := h3.some_
    have ne : a ≠ p := ne_of_none hu hp
    exact ⟨by rw [upd_ne ne]; exact h1, d, h2, (h3.mono e).on fun b o _ hb => by rw [upd_ne (ne_of_none hb hp)]; exact hb⟩
theorem Post.here {v : V} {d : D} {Q : VK} (su : Same S H) (so : StoOk G ad S st H) (r : Rep G ad S v d) (h : Post G ad S H d st Q) : Q v H := h v S H (.refl _ _ _) su so r
theorem Post.new {p : Addr} {o : HO} {d : D} {Q : VK} (su : Same S H) (so : StoOk G ad S st H) (hp : H p = none) (r : Rep G ad (upd S p o) (.ref p) d) (h : Post G ad S H d st Q) : Q (.ref p) (upd H p o) := by
  obtain ⟨x, y, z⟩ := new_still (o := o) su so hp
  exact h _ _ _ x y z r
theorem Rep.tupNew {p : Addr} {vs : List V} {ds : List D} (su : Same S H) (hp : H p = none) (r : Reps G ad S vs ds) : Rep G ad (upd S p (.tup vs)) (.ref p) (.tup ds) :=
  .tup (.inl upd_same) (r.mono fun b u h => by rw [upd_ne (ne_of_none h (su.free hp))]; exact h)
theorem Rep.lstNew {p : Addr} {vs : List V} {ds : List D} (su : Same S H) (hp : H p = none) (r : Reps G ad S vs ds) : Rep G ad (upd S p (.lst vs)) (.ref p) (.lst ds) :=
  .lst upd_same (r.mono fun b u h => by rw [upd_ne (ne_of_none h (su.free hp))]; exact h)
theorem Post.tup {p : Addr} {vs : List V} {ds : List D} {Q : VK} (su : Same S H) (so : StoOk G ad S st H) (hp : H p = none) (r : Reps G ad S vs ds) (h : Post G ad S H (.tup ds) st Q) : Q (.ref p) (upd H p (.tup vs)) := h.new su so hp (.tupNew su hp r)
theorem Post.lst {p : Addr} {vs : List V} {ds : List D} {Q : VK} (su : Same S H) (so : StoOk G ad S st H) (hp : H p = none) (r : Reps G ad S vs ds) (h : Post G ad S H (.lst ds) st Q) : Q (.ref p) (upd H p (.lst vs)) := h.new su so hp (.lstNew su hp r)
end

structure OpD (G : Glb) (r : R2) (f : D → D → Option D) : Prop where
  go : ∀ ad S H st x y dx dy d Q, Same S H → StoOk G ad S st H → Rep G ad S x dx → Rep G ad S y dy → f dx dy = some d → Post G ad S H d st Q → r x y H Q
structure UnD (G : Glb) (r : V → Hp → VK → Prop) (f : D → Option D) : Prop where
  go : ∀ ad S H st x dx d Q, Same S H → StoOk G ad S st H → Rep G ad S x dx → f dx = some d → Post G ad S H d st Q → r x H Q
structure CallD (G : Glb) (r : List V → Hp → VK → Prop) (f : List D → Option D) : Prop where
  go : ∀ ad S H st xs ds d Q, Same S H → StoOk G ad S st H → Reps G ad S xs ds → f ds = some d → Post G ad S H d st Q → r xs H Q

def ret? (o : Option D) : M D := fun st => match o with
  | some d => .ok d st
  | none => .bad
def mVar (i : Nat) : ME := fun env st => match env[i]? with
  | some (some d) => .ok d st
  | _ => .bad
def mC (d : D) : ME := fun _ st => .ok d st
def mOp (f : D → D → Option D) (ma mb : ME) : ME := fun env st => (ma env st).bind fun x st1 => (mb env st1).bind fun y => ret? (f x y)
def mUn (f : D → Option D) (ma : ME) : ME := fun env st => (ma env st).bind fun x => ret? (f x)
def mNil : MA := fun _ st => .ok [] st
def mCons (ma : ME) (mr : MA) : MA := fun env st => (ma env st).bind fun x st1 => (mr env st1).bind fun xs st2 => .ok (x :: xs) st2
def mCall1 (f : List D → Option D) (ma : MA) : ME := fun env st => (ma env st).bind fun xs => ret? (f xs)
/-- a value that is a truth -/
def bool? : D → M Bool
  | .bl b => fun st => .ok b st
  | _ => fun _ => .bad
def mTest (ma : ME) : MT := fun env st => (ma env st).bind bool?
def mNot (t : MT) : MT := fun env st => (t env st).bind fun k st1 => .ok (!k) st1
def mAnd (t u : MT) : MT := fun env st => (t env st).bind fun k st1 => if k = true then u env st1 else .ok false st1
def mOr (t u : MT) : MT := fun env st => (t env st).bind fun k st1 => if k = true then .ok true st1 else u env st1
def mNotV (ma : ME) : ME := fun env st => (ma env st).bind fun x st1 => (bool? x st1).bind fun k st2 => .ok (.bl (!k)) st2
def mAndV (ma mb : ME) : ME := fun env st => (ma env st).bind fun x st1 => (bool? x st1).bind fun k st2 => if k = true then mb env st2 else .ok (.bl false) st2
def mOrV (ma mb : ME) : ME := fun env st => (ma env st).bind fun x st1 => (bool? x st1).bind fun k st2 => if k = true then .ok (.bl true) st2 else mb env st2
def mIf (t : MT) (ma mb : ME) : ME := fun env st => (t env st).bind fun k st1 => if k = true then ma env st1 else mb env st1
def tupOk (ds : List D) : M D := fun st => if ds.length ≤ sizeLine then .ok (.tup ds) st else .bad
def lstOk (ds : List D) : M D := fun st => if ds.length ≤ sizeLine then .ok (.lst ds) st else .bad
def mTup (ma : MA) : ME := fun env st => (ma env st).bind tupOk
def mLst (ma : MA) : ME := fun env st => (ma env st).bind lstOk

section
variable {G : Glb} {X : Cx} {W : WX} {O : Ow} {pos : Pos}
theorem de_var (i : Nat) {x : Str} (hN : X.N[i]? = some x := by rfl) (ho : O.has i = false := by rfl) (hv : Vis X.env.scope x := by first | exact Or.inl rfl | exact Or.inr (Or.inl rfl) | exact Or.inr (Or.inr rfl))
    (hd : (x == ("__debug__" : Str)) = false := by decide) (hcd : (x == ("__classdict__" : Str)) = false := by decide) : DE G X W O (.Name x pos) (mVar i) := by
  refine ⟨tVar i, pe_var hN hv hd hcd, fun b S env st σ H Q I h => ?_⟩
  unfold mVar at h
  split at h
  · rename_i d e
    obtain ⟨v, h1, h2⟩ := I.slot i d e ho
    exact ⟨v, h1, Post.here I.sub I.sto h2 h⟩
  · exact h.elim
theorem de_const {e : Expr} {v : V} {d : D} (h : PE X e (tC v)) (r : ∀ ad S, Rep G ad S v d) : DE G X W O e (mC d) :=
  ⟨_, h, fun b S env st σ H Q I q => Post.here I.sub I.sto (r _ _) q⟩
theorem de_int {i : Int} {j} : DE G X W O (.Constant (.int i) j pos) (mC (.int i)) := de_const pe_int fun _ _ => .int i
theorem de_bl {b : Bool} {j} : DE G X W O (.Constant (.bool b) j pos) (mC (.bl b)) := de_const pe_bl fun _ _ => .bl b
theorem de_non {j} : DE G X W O (.Constant .none j pos) (mC .non) := de_const pe_non fun _ _ => .non
theorem de_str {x : Str} {j} : DE G X W O (.Constant (.str x) j pos) (mC (.str x)) := de_const pe_str fun _ _ => .str x
/-- an own class as a value -/
theorem de_globC {x : Str} (c : Nat) (hm : X.mg x = some (.ref (G.cl c))) (hg : Gl X x := by rfl) (hd : (x == ("__debug__" : Str)) = false := by decide) : DE G X W O (.Name x pos) (mC (.cls c)) := de_const (v := .ref (G.cl c)) (pe_glob hg hm rfl hd) fun _ _ => .cls c
/-- a built-in class as a value -/
theorem de_globT {x : Str} (n : String) (hm : X.mg x = none) (hv : bootBuiltins x = some (.type n)) (hg : Gl X x := by rfl) (hn : x ≠ "__name__" := by decide) (hd : (x == ("__debug__" : Str)) = false := by decide) : DE G X W O (.Name x pos) (mC (.ty n)) := de_const (v := .ty n) (pe_bltn hg hm hv rfl hn hd) fun _ _ => .ty n

/-- the two parts of an operator -/
theorem two_parts {a b : Expr} {ma mb : ME} {β : Type} {k : D → D → M β} (ha : DE G X W O a ma) (hb : DE G X W O b mb) : ∃ ta tb, PE X a ta ∧ PE X b tb ∧
    ∀ (b : Act) S env st σ H (ok : β → List D → Prop) (R : V → V → Hp → Prop), DI G b O S env st σ H →
      wpR ((ma env st).bind fun x st1 => (mb env st1).bind fun y => k x y) ok (fun x st' => PostX G b.ad S H x st' fun c dd H' => W c dd σ H') →
      (∀ x y dx dy S' H' st', Ext b.ad S H S' H' → DI G b O S' env st' σ H' → Rep G b.ad S' x dx → Rep G b.ad S' y dy → wpR (k dx dy st') ok (fun x st' => PostX G b.ad S H x st' fun c dd H' => W c dd σ H') → R x y H') →
      ta σ H fun x H1 => tb σ H1 fun y H2 => R x y H2 := by
  obtain ⟨ta, pa, wa⟩ := ha.ex
  obtain ⟨tb, pb, wb⟩ := hb.ex
  refine ⟨ta, tb, pa, pb, fun b S env st σ H ok R I h q => ?_⟩
  refine wa b S env st σ H _ I (wpR_imp (wpR_bind h) (fun dx st1 h1 => ?_) fun _ _ z => z)
  intro x S1 H1 x1 su1 so1 r1
  have I1 := I.ext x1 su1 so1
  refine wb b S1 env st1 σ H1 _ I1 (wpR_imp (wpR_bind h1) (fun dy st2 h2 => ?_) fun _ _ z => z.from_ x1 so1)
  intro y S2 H2 x2 su2 so2 r2
  exact q x y dx dy S2 H2 st2 (x1.trans so1 x2) (I1.ext x2 su2 so2) (r1.mono x2.same) r2 h2

theorem wp_ret {o : Option D} {st : List D} {ok : D → List D → Prop} {er : Ex → List D → Prop} (h : wpR (ret? o st) ok er) : ∃ d, o = some d ∧ ok d st := by
  cases o with
  | none => exact h.elim
  | some d => exact ⟨d, rfl, h⟩
theorem de_op {op : Operator} {a b : Expr} {ma mb : ME} {r : R2} {f : D → D → Option D} (ho : OpR X (binaryOp op) r) (hf : OpD G r f) (ha : DE G X W O a ma) (hb : DE G X W O b mb) : DE G X W O (.BinOp a op b pos) (mOp f ma mb) := by
  obtain ⟨ta, tb, pa, pb, w⟩ := two_parts (k := fun x y => ret? (f x y)) ha hb
  refine ⟨_, pe_op ho pa pb, fun b S env st σ H Q I h => w b S env st σ H _ (fun x y H2 => r x y H2 Q) I h fun x y dx dy S' H' st' e I' rx ry hk => ?_⟩
  obtain ⟨d, e1, q⟩ := wp_ret hk
  exact hf.go b.ad S' H' st' x y dx dy d Q I'.sub I'.sto rx ry e1 (Post.from_ e I'.sto q)
theorem de_cmp {op : CmpOp} {a b : Expr} {ma mb : ME} {r : R2} {f : D → D → Option D} (ho : OpR X (compareOp op) r) (hf : OpD G r f) (ha : DE G X W O a ma) (hb : DE G X W O b mb) (hm : behindInMarks op b = false := by first | exact nomark _ | rfl) : DE G X W O (.Compare a [op] [b] pos) (mOp f ma mb) := by
  obtain ⟨ta, tb, pa, pb, w⟩ := two_parts (k := fun x y => ret? (f x y)) ha hb
  refine ⟨_, pe_cmpR ho pa pb hm, fun b S env st σ H Q I h => w b S env st σ H _ (fun x y H2 => r x y H2 Q) I h fun x y dx dy S' H' st' e I' rx ry hk => ?_⟩
  obtain ⟨d, e1, q⟩ := wp_ret hk
  exact hf.go b.ad S' H' st' x y dx dy d Q I'.sub I'.sto rx ry e1 (Post.from_ e I'.sto q)
theorem de_un {op : UnaryOp} {a : Expr} {ma : ME} {r : V → Hp → VK → Prop} {f : D → Option D} (ho : UnR X (unaryOp op) r) (hf : UnD G r f) (ha : DE G X W O a ma) : DE G X W O (.UnaryOp op a pos) (mUn f ma) := by
  obtain ⟨ta, pa, wa⟩ := ha.ex
  refine ⟨_, pe_un ho pa, fun b S env st σ H Q I h => wa b S env st σ H _ I (wpR_imp (wpR_bind h) (fun dx st1 h1 => ?_) fun _ _ z => z)⟩
  intro x S1 H1 x1 su1 so1 r1
  obtain ⟨d, e1, q⟩ := wp_ret h1
  exact hf.go b.ad S1 H1 st1 x dx d Q su1 so1 r1 e1 (Post.from_ x1 so1 q)
theorem dt_cmp {op : CmpOp} {a b : Expr} {ma mb : ME} {r : R2} {f : D → D → Option D} (ho : OpR X (compareOp op) r) (hf : OpD G r f) (ha : DE G X W O a ma) (hb : DE G X W O b mb) (hm : behindInMarks op b = false := by first | exact nomark _ | rfl) : DT G X W O (.Compare a [op] [b] pos) (mTest (mOp f ma mb)) := by
  obtain ⟨ta, pa, wa⟩ := ha.ex
  obtain ⟨tb, pb, wb⟩ := hb.ex
  refine ⟨_, pt_cmpR ho pa pb hm, fun b S env st σ H Q I h => ?_⟩
  have w := (de_cmp (pos := pos) (W := W) ho hf ha hb hm).ex
  have h' := wpR_bind h
  refine wa b S env st σ H _ I (wpR_imp (wpR_bind h') (fun dx st1 h1 => ?_) fun _ _ z => z)
  intro x S1 H1 x1 su1 so1 r1
  have I1 := I.ext x1 su1 so1
  refine wb b S1 env st1 σ H1 _ I1 (wpR_imp (wpR_bind h1) (fun dy st2 h2 => ?_) fun _ _ z => z.from_ x1 so1)
  intro y S2 H2 x2 su2 so2 r2
  obtain ⟨d, e1, q⟩ := wp_ret h2
  refine hf.go b.ad S2 H2 st2 x y dx dy d _ su2 so2 (r1.mono x2.same) r2 e1 fun v S3 H3 x3 su3 so3 r3 => ?_
  cases r3 <;> first | exact q.elim | exact ⟨_, rfl, q _ _ ((x1.trans so1 x2).trans so2 x3) su3 so3⟩

theorem DW.dt {e : Expr} {m : MT} (h : DW G X W O e m) : DT G X W O e m := let ⟨t, p, w⟩ := h.ex; ⟨t, p.pt, w⟩
variable {a b : Expr} {rest : List Expr} {ma mb : ME} {t u : MT}
theorem dw_and1 (ha : DT G X W O a t) : DW G X W O (.BoolOp .And [a] pos) t := let ⟨t, p, w⟩ := ha.ex; ⟨t, pw_and1 p, w⟩
theorem dw_or1 (ha : DT G X W O a t) : DW G X W O (.BoolOp .Or [a] pos) t := let ⟨t, p, w⟩ := ha.ex; ⟨t, pw_or1 p, w⟩
theorem dw_and (ha : DT G X W O a t) (hb : DW G X W O (.BoolOp .And (b :: rest) pos) u) : DW G X W O (.BoolOp .And (a :: b :: rest) pos) (mAnd t u) := by
  obtain ⟨ta, pa, wa⟩ := ha.ex
  obtain ⟨tb, pb, wb⟩ := hb.ex
  refine ⟨_, pw_and pa pb, fun b S env st σ H Q I h => wa b S env st σ H _ I (wpR_imp (wpR_bind h) (fun k st1 h1 => ?_) fun _ _ z => z)⟩
  intro S1 H1 x1 su1 so1
  cases k with
  | true => exact wb b S1 env st1 σ H1 Q (I.ext x1 su1 so1) (wpR_imp h1 (fun _ _ z => z.from_ x1 so1) fun _ _ z => z.from_ x1 so1)
  | false => exact h1 _ _ x1 su1 so1
theorem dw_or (ha : DT G X W O a t) (hb : DW G X W O (.BoolOp .Or (b :: rest) pos) u) : DW G X W O (.BoolOp .Or (a :: b :: rest) pos) (mOr t u) := by
  obtain ⟨ta, pa, wa⟩ := ha.ex
  obtain ⟨tb, pb, wb⟩ := hb.ex
  refine ⟨_, pw_or pa pb, fun b S env st σ H Q I h => wa b S env st σ H _ I (wpR_imp (wpR_bind h) (fun k st1 h1 => ?_) fun _ _ z => z)⟩
  intro S1 H1 x1 su1 so1
  cases k with
  | false => exact wb b S1 env st1 σ H1 Q (I.ext x1 su1 so1) (wpR_imp h1 (fun _ _ z => z.from_ x1 so1) fun _ _ z => z.from_ x1 so1)
  | true => exact h1 _ _ x1 su1 so1
theorem dt_not (ha : DT G X W O a t) : DT G X W O (.UnaryOp .Not a pos) (mNot t) := by
  obtain ⟨ta, pa, wa⟩ := ha.ex
  refine ⟨_, pt_not pa, fun b S env st σ H Q I h => wa b S env st σ H _ I (wpR_imp (wpR_bind h) (fun k st1 h1 => ?_) fun _ _ z => z)⟩
  exact h1
theorem de_one {op} (h : DE G X W O a ma) : DE G X W O (.BoolOp op [a] pos) ma := let ⟨t, p, w⟩ := h.ex; ⟨t, pe_one p, w⟩
theorem bool_of {x : V} {dx : D} {ad : List Addr} {S : Hp} {st : List D} {β : Type} {k : Bool → M β} {ok : β → List D → Prop} {er : Ex → List D → Prop} (r : Rep G ad S x dx) (h : wpR ((bool? dx st).bind k) ok er) : ∃ c, x = .bl c ∧ dx = .bl c ∧ wpR (k c st) ok er := by
  cases r <;> first | exact h.elim | exact ⟨_, rfl, rfl, h⟩
theorem de_and (ha : DE G X W O a ma) (hb : DE G X W O (.BoolOp .And (b :: rest) pos) mb) : DE G X W O (.BoolOp .And (a :: b :: rest) pos) (mAndV ma mb) := by
  obtain ⟨ta, pa, wa⟩ := ha.ex
  obtain ⟨tb, pb, wb⟩ := hb.ex
  refine ⟨_, pe_and pa pb, fun b S env st σ H Q I h => wa b S env st σ H _ I (wpR_imp (wpR_bind h) (fun dx st1 h1 => ?_) fun _ _ z => z)⟩
  intro x S1 H1 x1 su1 so1 r1
  obtain ⟨c, e, e2, h2⟩ := bool_of r1 h1
  refine ⟨c, e, ?_⟩
  cases c with
  | true => exact wb b S1 env st1 σ H1 Q (I.ext x1 su1 so1) (wpR_imp h2 (fun _ _ z => z.from_ x1 so1) fun _ _ z => z.from_ x1 so1)
  | false => exact h2 _ _ _ x1 su1 so1 (.bl false)
theorem de_not (ha : DE G X W O a ma) : DE G X W O (.UnaryOp .Not a pos) (mNotV ma) := by
  obtain ⟨ta, pa, wa⟩ := ha.ex
  refine ⟨_, pe_not pa, fun b S env st σ H Q I h => wa b S env st σ H _ I (wpR_imp (wpR_bind h) (fun dx st1 h1 => ?_) fun _ _ z => z)⟩
  intro x S1 H1 x1 su1 so1 r1
  obtain ⟨c, e, e2, h2⟩ := bool_of r1 h1
  exact ⟨c, e, h2 _ _ _ x1 su1 so1 (.bl _)⟩
theorem de_if {c : Expr} (hc : DT G X W O c t) (ha : DE G X W O a ma) (hb : DE G X W O b mb) : DE G X W O (.IfExp c a b pos) (mIf t ma mb) := by
  obtain ⟨tc, pc, wc⟩ := hc.ex
  obtain ⟨ta, pa, wa⟩ := ha.ex
  obtain ⟨tb, pb, wb⟩ := hb.ex
  refine ⟨_, pe_ifExp pc pa pb, fun b S env st σ H Q I h => wc b S env st σ H _ I (wpR_imp (wpR_bind h) (fun k st1 h1 => ?_) fun _ _ z => z)⟩
  intro S1 H1 x1 su1 so1
  cases k with
  | true => exact wa b S1 env st1 σ H1 Q (I.ext x1 su1 so1) (wpR_imp h1 (fun _ _ z => z.from_ x1 so1) fun _ _ z => z.from_ x1 so1)
  | false => exact wb b S1 env st1 σ H1 Q (I.ext x1 su1 so1) (wpR_imp h1 (fun _ _ z => z.from_ x1 so1) fun _ _ z => z.from_ x1 so1)

theorem da_nil : DA G X W O [] mNil := ⟨_, pa_nil, fun b S env st σ H Q I h => h _ _ _ (.refl _ _ _) I.sub I.sto .nil⟩
theorem da_cons {e : Expr} {es : List Expr} {mr : MA} (ha : DE G X W O e ma) (hr : DA G X W O es mr) (hs : starEach (e :: es) X.env = (false, eval e X.env) :: starEach es X.env := by rfl) : DA G X W O (e :: es) (mCons ma mr) := by
  obtain ⟨ta, pa, wa⟩ := ha.ex
  obtain ⟨tb, pb, wb⟩ := hr.ex
  refine ⟨_, pa_cons pa pb hs, fun b S env st σ H Q I h => wa b S env st σ H _ I (wpR_imp (wpR_bind h) (fun dx st1 h1 => ?_) fun _ _ z => z)⟩
  intro x S1 H1 x1 su1 so1 r1
  refine wb b S1 env st1 σ H1 _ (I.ext x1 su1 so1) (wpR_imp (wpR_bind h1) (fun ds st2 h2 => ?_) fun _ _ z => z.from_ x1 so1)
  intro xs S2 H2 x2 su2 so2 r2
  exact h2 _ _ _ (x1.trans so1 x2) su2 so2 (.cons (r1.mono x2.same) r2)
variable {es : List Expr} {mr : MA}
theorem de_tup {k} (h : DA G X W O es mr) : DE G X W O (.Tuple es k pos) (mTup mr) := by
  obtain ⟨t, p, w⟩ := h.ex
  refine ⟨_, pe_tup p, fun b S env st σ H Q I h => w b S env st σ H _ I (wpR_imp (wpR_bind h) (fun ds st1 h1 => ?_) fun _ _ z => z)⟩
  intro xs S1 H1 x1 su1 so1 r1
  unfold tupOk at h1
  split at h1
  · rename_i hz
    exact ⟨by rw [r1.len]; exact hz, fun p hp => Post.tup su1 so1 hp r1 (Post.from_ x1 so1 h1)⟩
  · exact h1.elim
theorem de_lst (h : DA G X W O es mr) : DE G X W O (.List es pos) (mLst mr) := by
  obtain ⟨t, p, w⟩ := h.ex
  refine ⟨_, pe_lst p, fun b S env st σ H Q I h => w b S env st σ H _ I (wpR_imp (wpR_bind h) (fun ds st1 h1 => ?_) fun _ _ z => z)⟩
  intro xs S1 H1 x1 su1 so1 r1
  unfold lstOk at h1
  split at h1
  · rename_i hz
    exact ⟨by rw [r1.len]; exact hz, fun p hp => Post.lst su1 so1 hp r1 (Post.from_ x1 so1 h1)⟩
  · exact h1.elim
theorem args_then {ta : TA} {ma : MA} {f : List D → Option D} {r : List V → Hp → VK → Prop} (hf : CallD G r f) {b : Act} {S : Hp} {env : Env'} {st : List D} {σ : L2.St} {H : Hp} {Q : VK}
    (w : ∀ (b : Act) S env st σ H Q, DI G b O S env st σ H → wpR (ma env st) (fun ds st' => PostA G b.ad S H ds st' Q) (fun x st' => PostX G b.ad S H x st' fun c dd H' => W c dd σ H') → ta σ H Q) (I : DI G b O S env st σ H)
    (h : wpR (mCall1 f ma env st) (fun d st' => Post G b.ad S H d st' Q) (fun x st' => PostX G b.ad S H x st' fun c dd H' => W c dd σ H')) : ta σ H fun xs H1 => r xs H1 Q := by
  refine w b S env st σ H _ I (wpR_imp (wpR_bind h) (fun ds st1 h1 => ?_) fun _ _ z => z)
  intro xs S1 H1 x1 su1 so1 r1
  obtain ⟨d, e1, q⟩ := wp_ret h1
  exact hf.go b.ad S1 H1 st1 xs ds d Q su1 so1 r1 e1 (Post.from_ x1 so1 q)
variable {x : Str} {p : Pos} {e : Expr} {ma' : MA}
theorem de_callB {id : String} {r : List V → Hp → VK → Prop} {f : List D → Option D} (hc : CallR X (.builtin id) r) (hf : CallD G r f) (hm : X.mg x = none) (hv : bootBuiltins x = some (.builtin id)) (ha : DA G X W O (e :: es) ma') (hg : Gl X x := by rfl)
    (hn : x ≠ "__name__" := by decide) (hdb : (x == ("__debug__" : Str)) = false := by decide)
    (he : starEach (e :: es) X.env = (false, eval e X.env) :: starEach es X.env := by rfl) (hpl : (backTo pos (starEach es X.env)).any (·.1) = false := by rfl) : DE G X W O (.Call (.Name x p) (e :: es) [] pos) (mCall1 f ma') := by
  obtain ⟨t, pa, w⟩ := ha.ex
  exact ⟨_, pe_callB hc hg hm hv pa hn hdb he hpl, fun b S env st σ H Q I h => args_then hf w I h⟩
theorem de_callTy {T : String} {r : List V → Hp → VK → Prop} {f : List D → Option D} (hc : CallR X (.type T) r) (hf : CallD G r f) (hm : X.mg x = none) (hv : bootBuiltins x = some (.type T)) (ha : DA G X W O (e :: es) ma') (hg : Gl X x := by rfl)
    (hn : x ≠ "__name__" := by decide) (hdb : (x == ("__debug__" : Str)) = false := by decide)
    (he : starEach (e :: es) X.env = (false, eval e X.env) :: starEach es X.env := by rfl) (hpl : (backTo pos (starEach es X.env)).any (·.1) = false := by rfl) : DE G X W O (.Call (.Name x p) (e :: es) [] pos) (mCall1 f ma') := by
  obtain ⟨t, pa, w⟩ := ha.ex
  exact ⟨_, pe_callTy hc hg hm hv pa hn hdb he hpl, fun b S env st σ H Q I h => args_then hf w I h⟩
/-- a built-in function that stands in the module under a name -/
theorem de_callG {id : String} {r : List V → Hp → VK → Prop} {f : List D → Option D} (hc : CallR X (.builtin id) r) (hf : CallD G r f) (hm : X.mg x = some (.builtin id)) (ha : DA G X W O (e :: es) ma') (hg : Gl X x := by rfl)
    (hdb : (x == ("__debug__" : Str)) = false := by decide)
    (he : starEach (e :: es) X.env = (false, eval e X.env) :: starEach es X.env := by rfl) (hpl : (backTo pos (starEach es X.env)).any (·.1) = false := by rfl) : DE G X W O (.Call (.Name x p) (e :: es) [] pos) (mCall1 f ma') := by
  obtain ⟨t, pa, w⟩ := ha.ex
  exact ⟨_, pe_callBfun hc hg hm pa hdb he hpl, fun b S env st σ H Q I h => args_then hf w I h⟩
end
end DL

namespace DL
open PySem PySem.Spec PyProof.Rows L2

section
variable {G : Glb} {b : Act} {O : Ow} {S H : Hp} {env : Env'} {st : List D} {σ : L2.St}
theorem DI.set {i : Nat} {v : V} {d : D} (I : DI G b O S env st σ H) (r : Rep G b.ad S v d) (hi : O.has i = false) : DI G b O S (env.set i (some d)) st (σ.set i (some v)) H := by
  have h1 : i ∉ O.own := fun z => by
    unfold Ow.has at hi
    rw [List.elem_eq_true_of_mem z] at hi; cases hi
  have h2 : O.exi ≠ some i := fun z => by
    unfold Ow.has at hi
    rw [z] at hi; simp at hi
  have h3 : O.slf ≠ some i := fun z => by
    unfold Ow.has at hi
    rw [z] at hi; simp at hi
  have other : ∀ {j : Nat} {d' : D}, j ≠ i → (env.set i (some d))[j]? = some (some d') → env[j]? = some (some d') := fun {j d'} hj h => by
    rw [List.getElem?_set_ne (Ne.symm hj)] at h; exact h
  refine ⟨by rw [List.length_set, List.length_set]; exact I.len, I.sub, I.s0, I.new, I.keep, fun j d' h ho => ?_, fun j d' hj h => ?_, fun j k a hj hk e1 e2 q1 q2 => ?_, I.sto, fun j d' hj h => ?_, fun j hj => ?_⟩
  · by_cases hj : j = i
    · subst hj
      by_cases hl : j < env.length
      · rw [List.getElem?_set_self hl] at h
        have e : d = d' := by simpa using h
        subst e
        exact ⟨v, by rw [List.getElem?_set_self (by rw [I.len]; exact hl)], r⟩
      · rw [List.getElem?_eq_none_iff.mpr (by rw [List.length_set]; exact Nat.le_of_not_lt hl)] at h; cases h
    · obtain ⟨w, q1, q2⟩ := I.slot j d' (other hj h) ho
      exact ⟨w, by rw [List.getElem?_set_ne (Ne.symm hj)]; exact q1, q2⟩
  · have hne : j ≠ i := fun z => h1 (z ▸ hj)
    obtain ⟨a, vs, ds, q1, q2, q3⟩ := I.own j d' hj (other hne h)
    exact ⟨a, vs, ds, q1, by rw [List.getElem?_set_ne (Ne.symm hne)]; exact q2, q3⟩
  · have hne1 : j ≠ i := fun z => h1 (z ▸ hj)
    have hne2 : k ≠ i := fun z => h1 (z ▸ hk)
    rw [List.getElem?_set_ne (Ne.symm hne1)] at q1
    rw [List.getElem?_set_ne (Ne.symm hne2)] at q2
    obtain ⟨d1, e1⟩ := e1
    obtain ⟨d2, e2⟩ := e2
    exact I.dist j k a hj hk ⟨d1, other hne1 e1⟩ ⟨d2, other hne2 e2⟩ q1 q2
  · have hne : j ≠ i := fun z => h2 (z ▸ hj)
    obtain ⟨y, q1, q2, q3⟩ := I.exc j d' hj (other hne h)
    exact ⟨y, q1, by rw [List.getElem?_set_ne (Ne.symm hne)]; exact q2, q3⟩
  · have hne : j ≠ i := fun z => h3 (z ▸ hj)
    rw [List.getElem?_set_ne (Ne.symm hne), List.getElem?_set_ne (Ne.symm hne)]
    exact I.self_ j hj
/-- a slot forgotten -/
theorem DI.forget {i : Nat} (I : DI G b O S env st σ H) (hi : O.has i = false) : DI G b O S (env.set i none) st (σ.set i none) H := by
  have other : ∀ {j : Nat} {d' : D}, (env.set i none)[j]? = some (some d') → j ≠ i ∧ env[j]? = some (some d') := fun {j d'} h => by
    by_cases hj : j = i
    · subst hj
      by_cases hl : j < env.length
      · rw [List.getElem?_set_self hl] at h; cases h
      · rw [List.getElem?_eq_none_iff.mpr (by rw [List.length_set]; exact Nat.le_of_not_lt hl)] at h; cases h
    · rw [List.getElem?_set_ne (Ne.symm hj)] at h; exact ⟨hj, h⟩
  refine ⟨by rw [List.length_set, List.length_set]; exact I.len, I.sub, I.s0, I.new, I.keep, fun j d' h ho => ?_, fun j d' hj h => ?_, fun j k a hj hk e1 e2 q1 q2 => ?_, I.sto, fun j d' hj h => ?_, fun j hj => ?_⟩
  · obtain ⟨hne, h⟩ := other h
    obtain ⟨w, q1, q2⟩ := I.slot j d' h ho
    exact ⟨w, by rw [List.getElem?_set_ne (Ne.symm hne)]; exact q1, q2⟩
  · obtain ⟨hne, h⟩ := other h
    obtain ⟨a, vs, ds, q1, q2, q3⟩ := I.own j d' hj h
    exact ⟨a, vs, ds, q1, by rw [List.getElem?_set_ne (Ne.symm hne)]; exact q2, q3⟩
  · obtain ⟨d1, e1⟩ := e1
    obtain ⟨d2, e2⟩ := e2
    obtain ⟨hne1, e1⟩ := other e1
    obtain ⟨hne2, e2⟩ := other e2
    rw [List.getElem?_set_ne (Ne.symm hne1)] at q1
    rw [List.getElem?_set_ne (Ne.symm hne2)] at q2
    exact I.dist j k a hj hk ⟨d1, e1⟩ ⟨d2, e2⟩ q1 q2
  · obtain ⟨hne, h⟩ := other h
    obtain ⟨y, q1, q2, q3⟩ := I.exc j d' hj h
    exact ⟨y, q1, by rw [List.getElem?_set_ne (Ne.symm hne)]; exact q2, q3⟩
  · have hne : j ≠ i := fun z => by
      subst z
      unfold Ow.has at hi
      rw [hj] at hi; simp at hi
    rw [List.getElem?_set_ne (Ne.symm hne), List.getElem?_set_ne (Ne.symm hne)]
    exact I.self_ j hj
end

/-- from an expression to a statement -/
def mDo (m : ME) (k : D → MS) : MS := fun env st => match m env st with
  | .ok d st1 => k d env st1
  | .err x st1 => .er x env st1
  | .bad => .bad
def mSeq (m n : MS) : MS := fun env st => match m env st with
  | .nx env1 st1 => n env1 st1
  | o => o
def mNx : MS := fun env st => .nx env st
def mBrk : MS := fun env st => .bk env st
def mCnt : MS := fun env st => .ct env st
def mSet (i : Nat) (m : ME) : MS := mDo m fun d env st => .nx (env.set i (some d)) st
def mRet (m : ME) : MS := mDo m fun d _ st => .rt d st
def mRetN : MS := fun _ st => .rt .non st
def mDrop (m : ME) : MS := mDo m fun _ env st => .nx env st
def mIfS (t : MT) (m n : MS) : MS := fun env st => match t env st with
  | .ok k st1 => if k = true then m env st1 else n env st1
  | .err x st1 => .er x env st1
  | .bad => .bad
/-- a target -/
abbrev MG := D → Env' → Option Env'
def gNm (i : Nat) : MG := fun d env => some (env.set i (some d))
def gsNil : List D → Env' → Option Env' := fun ds env => match ds with
  | [] => some env
  | _ => none
def gsCons (g : MG) (r : List D → Env' → Option Env') : List D → Env' → Option Env' := fun ds env => match ds with
  | d :: ds => (g d env).bind (r ds)
  | [] => none
def gTp (r : List D → Env' → Option Env') : MG := fun d env => match d with
  | .tup ds => r ds env
  | _ => none
def mAsg (m : ME) (g : MG) : MS := mDo m fun d env st => match g d env with
  | some env1 => .nx env1 st
  | none => .bad

section
variable {G : Glb} {X : Cx} {W : WX} {Ob : Ow} {OE : Ow → Prop} {O O1 O2 : Ow} {pos : Pos} {s : Stmt} {rest : List Stmt} {m n : MS} {e : Expr} {me : ME}
theorem dss_nil : DSs G X W Ob OE O [] O mNx := ⟨_, pss_nil, fun b S env st σ H D I h => h S σ H (.refl _) I⟩
theorem dss_cons (h1 : DS G X W Ob OE O s O1 m) (h2 : DSs G X W Ob OE O1 rest O2 n) : DSs G X W Ob OE O (s :: rest) O2 (mSeq m n) := by
  obtain ⟨t, p, w⟩ := h1.ex
  obtain ⟨u, q, w2⟩ := h2.ex
  refine ⟨_, pss_cons p q, fun b S env st σ H D I h => w b S env st σ H _ I ?_⟩
  unfold mSeq at h
  cases e : m env st with
  | nx env1 st1 =>
    rw [e] at h
    intro S1 σ1 H1 x1 I1
    exact w2 b S1 env1 st1 σ1 H1 D I1 (h.from_ x1)
  | rt d st1 => rw [e] at h; exact h
  | bk env1 st1 => rw [e] at h; exact h
  | ct env1 st1 => rw [e] at h; exact h
  | er x env1 st1 => rw [e] at h; exact h
  | bad => rw [e] at h; exact h
theorem dss_one (h1 : DS G X W Ob OE O s O1 m) : DSs G X W Ob OE O [s] O1 m := let ⟨t, p, w⟩ := h1.ex; ⟨t, pss_one p, w⟩
/-- an expression first -/
theorem do_part {k : D → MS} {t : TE} {b : Act} {S : Hp} {env : Env'} {st : List D} {σ : L2.St} {H : Hp} {D : Ends} {Q : VK} (hO : OE O)
    (w : ∀ (b : Act) S env st σ H Q, DI G b O S env st σ H → wpR (me env st) (fun d st' => Post G b.ad S H d st' Q) (fun x st' => PostX G b.ad S H x st' fun c dd H' => W c dd σ H') → t σ H Q) (I : DI G b O S env st σ H)
    (h : PostS G b Ob OE W O1 D S (mDo me k env st))
    (q : ∀ v d S' H' st', DI G b O S' env st' σ H' → Rep G b.ad S' v d → PostS G b Ob OE W O1 D S' (k d env st') → Q v H') : t σ H Q := by
  refine w b S env st σ H Q I ?_
  unfold mDo at h
  cases e : me env st with
  | ok d st1 =>
    rw [e] at h
    intro v S' H' x su so r
    exact q v d S' H' st1 (I.ext x su so) r (h.from_ x.same)
  | err x st1 =>
    rw [e] at h
    intro cls dd S' H' x su so r
    exact h cls dd O S' σ H' hO x.same (I.ext x su so) r
  | bad => rw [e] at h; exact h.elim
theorem ds_set (i : Nat) {x : Str} {pos' : Pos} (hN : X.N.Nodup) (he : DE G X W O e me) (hO : OE O := by first | trivial | rfl) (hi : X.N[i]? = some x := by rfl) (ho : O.has i = false := by rfl) (hx : Loc X.env.scope x := by first | exact Or.inl rfl | exact Or.inr rfl)
    (hs : swapsWith e (some (.Name x pos')) pos.line X.env = pure false := by rfl) (hf : X.fn x = true ∨ X.env.scope.names.lookup x = some .local := by first | exact .inl rfl | exact .inr rfl) : DS G X W Ob OE O (.Assign [.Name x pos'] e pos) O (mSet i me) := by
  obtain ⟨t, p, w⟩ := he.ex
  exact ⟨_, ps_set hN hi hx p hs hf, fun b S env st σ H D I h => do_part hO w I h fun v d S' H' st' I' r q => q _ _ _ (.refl _) (I'.set r ho)⟩
theorem ds_ret (he : DE G X W O e me) (hO : OE O := by first | trivial | rfl) : DS G X W Ob OE O (.Return (some e) pos) O1 (mRet me) := by
  obtain ⟨t, p, w⟩ := he.ex
  exact ⟨_, ps_ret p, fun b S env st σ H D I h => do_part hO w I h fun v d S' H' st' I' r q => q v S' H' I'.fin I'.sub I'.sto r⟩
theorem ds_expr (he : DE G X W O e me) (hO : OE O := by first | trivial | rfl) (hs : swapsWith e none pos.line X.env = pure false := by rfl) : DS G X W Ob OE O (.Expr e pos) O (mDrop me) := by
  obtain ⟨t, p, w⟩ := he.ex
  exact ⟨_, ps_expr p hs, fun b S env st σ H D I h => do_part hO w I h fun v d S' H' st' I' r q => q S' σ H' (.refl _) I'⟩
theorem ds_if {c : Expr} {a b : List Stmt} {t : MT} (hc : DT G X W O c t) (ha : DSs G X W Ob OE O a O1 m) (hb : DSs G X W Ob OE O b O1 n) (hO : OE O := by first | trivial | rfl) : DS G X W Ob OE O (.If c a b pos) O1 (mIfS t m n) := by
  obtain ⟨tc, pc, wc⟩ := hc.ex
  obtain ⟨ta, pa, wa⟩ := ha.ex
  obtain ⟨tb, pb, wb⟩ := hb.ex
  refine ⟨_, ps_if pc pa pb, fun b S env st σ H D I h => wc b S env st σ H _ I ?_⟩
  unfold mIfS at h
  cases e : t env st with
  | ok k st1 =>
    rw [e] at h
    intro S' H' x su so
    cases k with
    | true => exact wa b S' env st1 σ H' D (I.ext x su so) (h.from_ x.same)
    | false => exact wb b S' env st1 σ H' D (I.ext x su so) (h.from_ x.same)
  | err x st1 =>
    rw [e] at h
    intro cls dd S' H' x su so r
    exact h cls dd O S' σ H' hO x.same (I.ext x su so) r
  | bad => rw [e] at h; exact h.elim

/-- the slots out of ix stay -/
def Stay (ix : List Nat) (σ σ' : L2.St) : Prop := σ'.length = σ.length ∧ ∀ j, j ∉ ix → σ'[j]? = σ[j]?
structure DG (G : Glb) (X : Cx) (O : Ow) (ix : List Nat) (tg : Expr) (g : MG) : Prop where
  ex : ∃ t, PG X tg t ∧ ∀ (b : Act) S env env' st σ H v d Q, DI G b O S env st σ H → Rep G b.ad S v d → g d env = some env' → (∀ σ', Stay ix σ σ' → DI G b O S env' st σ' H → Q σ' H) → t v σ H Q
structure DGs (G : Glb) (X : Cx) (O : Ow) (ix : List Nat) (ts : List Expr) (g : List D → Env' → Option Env') : Prop where
  ex : ∃ t, PGs X ts t ∧ ∀ (b : Act) S env env' st σ H vs ds Q, DI G b O S env st σ H → Reps G b.ad S vs ds → g ds env = some env' → (∀ σ', Stay ix σ σ' → DI G b O S env' st σ' H → Q σ' H) → t vs σ H Q
theorem dg_name (i : Nat) {x : Str} (hN : X.N.Nodup) (hi : X.N[i]? = some x := by rfl) (ho : O.has i = false := by rfl) (hx : Loc X.env.scope x := by first | exact Or.inl rfl | exact Or.inr rfl) (hf : X.fn x = true ∨ X.env.scope.names.lookup x = some .local := by first | exact .inl rfl | exact .inr rfl) : DG G X O [i] (.Name x pos) (gNm i) := by
  refine ⟨_, pg_name hN hi hx hf, fun b S env env' st σ H v d Q I r e q => ?_⟩
  cases e
  exact q _ ⟨List.length_set, fun j hj => List.getElem?_set_ne (fun z => hj (by rw [z]; exact List.mem_singleton.mpr rfl))⟩ (I.set r ho)
theorem dgs_nil : DGs G X O [] [] gsNil := by
  refine ⟨_, pgs_nil, fun b S env env' st σ H vs ds Q I r e q => ?_⟩
  cases r with
  | nil => cases e; exact ⟨rfl, q σ ⟨rfl, fun _ _ => rfl⟩ I⟩
  | cons _ _ => cases e
theorem dgs_cons {ix jx : List Nat} {t : Expr} {ts : List Expr} {g : MG} {gs : List D → Env' → Option Env'} (h1 : DG G X O ix t g) (h2 : DGs G X O jx ts gs) (hs : (assignEach (t :: ts) X.env).map (·.2) = assign t X.env :: (assignEach ts X.env).map (·.2) := by rfl) : DGs G X O (ix ++ jx) (t :: ts) (gsCons g gs) := by
  obtain ⟨t1, p1, w1⟩ := h1.ex
  obtain ⟨t2, p2, w2⟩ := h2.ex
  refine ⟨_, pgs_cons p1 p2 hs, fun b S env env' st σ H vs ds Q I r e q => ?_⟩
  cases r with
  | nil => cases e
  | cons r rr =>
    rename_i v d vs ds
    have e' : (g d env).bind (gs ds) = some env' := e
    cases e1 : g d env with
    | none => rw [e1] at e'; cases e'
    | some env1 =>
      rw [e1] at e'
      exact ⟨_, _, rfl, w1 b S env env1 st σ H v d _ I r e1 fun σ1 y1 I1 => w2 b S env1 env' st σ1 H _ ds Q I1 rr e' fun σ2 y2 I2 => q σ2 ⟨y2.1.trans y1.1, fun j hj => (y2.2 j fun z => hj (List.mem_append_right _ z)).trans (y1.2 j fun z => hj (List.mem_append_left _ z))⟩ I2⟩
theorem dg_tup {ix : List Nat} {es : List Expr} {k : Nat} {gs : List D → Env' → Option Env'} {l : Nat} (hc : X.calm = true) (hK : X.K = G.K) (h : DGs G X O ix es gs) (hlen : ∀ ds env env', gs ds env = some env' → ds.length = l) (hn : (assignEach es X.env).length = l := by rfl) (hst : (assignEach es X.env).findIdx? (·.1) = none := by rfl) : DG G X O ix (.Tuple es k pos) (gTp gs) := by
  obtain ⟨t, p, w⟩ := h.ex
  refine ⟨_, pg_tup hc p hn hst, fun b S env env' st σ H v d Q I rv e q => ?_⟩
  cases rv <;> try cases e
  rename_i a vs ds h1 h2
  have e' : gs ds env = some env' := e
  refine ⟨a, vs, rfl, hK ▸ Same.sqT I.sub h1.sqT, ?_, w b S env env' st σ H vs ds Q I h2 e' q⟩
  rw [h2.len]
  exact hlen _ _ _ e'
theorem gsNil_len : ∀ ds env env', gsNil ds env = some env' → ds.length = 0 := fun ds env env' h => by
  cases ds with
  | nil => rfl
  | cons _ _ => cases h
theorem gsCons_len {g : MG} {r : List D → Env' → Option Env'} {l : Nat} (h : ∀ ds env env', r ds env = some env' → ds.length = l) : ∀ ds env env', gsCons g r ds env = some env' → ds.length = l + 1 := fun ds env env' e => by
  cases ds with
  | nil => cases e
  | cons d ds =>
    have e' : (g d env).bind (r ds) = some env' := e
    cases e1 : g d env with
    | none => rw [e1] at e'; cases e'
    | some env1 =>
      rw [e1] at e'
      exact congrArg (· + 1) (h _ _ _ e')
theorem ds_asg {ix : List Nat} {tg : Expr} {g : MG} (he : DE G X W O e me) (hg : DG G X O ix tg g) (hO : OE O := by first | trivial | rfl) (hs : swapsWithSole [tg] e pos.line X.env = pure false := by rfl) (hw : swappedStores [tg] e X.env = pure none := by rfl)
    (h1 : (assignEach [tg] X.env).map (·.2) = [assign tg X.env] := by rfl) : DS G X W Ob OE O (.Assign [tg] e pos) O (mAsg me g) := by
  obtain ⟨t, p, w⟩ := he.ex
  obtain ⟨tg', pg, wg⟩ := hg.ex
  refine ⟨_, ps_asg p pg hs hw h1, fun b S env st σ H D I h => do_part hO w I h fun v d S' H' st' I' r q => ?_⟩
  cases e1 : g d env with
  | none => rw [e1] at q; exact q.elim
  | some env1 =>
    rw [e1] at q
    exact wg b S' env env1 st' σ H' v d _ I' r e1 fun σ' _ I1 => q _ _ _ (.refl _) I1
/-- a, b = x, y, plain local names -/
def mPar (i j : Nat) (ma : MA) : MS := fun env st => match ma env st with
  | .ok [d, e] st1 => .nx ((env.set i (some d)).set j (some e)) st1
  | .err x st1 => .er x env st1
  | _ => .bad
theorem ds_par (i j : Nat) {x y : Str} {a b : Expr} {ma : MA} {px py pt : Pos} {kt k2 pt2} (hc : X.calm = true) (hN : X.N.Nodup) (ha : DA G X W O [a, b] ma) (hO : OE O := by first | trivial | rfl) (hi : X.N[i]? = some x := by rfl) (hj : X.N[j]? = some y := by rfl) (hij : i ≠ j := by decide)
    (hoi : O.has i = false := by rfl) (hoj : O.has j = false := by rfl)
    (hx : X.env.scope.names.lookup x = some .local := by rfl) (hy : X.env.scope.names.lookup y = some .local := by rfl)
    (hw : swappedStores [.Tuple [.Name x px, .Name y py] kt pt] (.Tuple [a, b] k2 pt2) X.env = pure (some [x, y]) := by rfl)
    (hs : swapsWithSole [.Tuple [.Name x px, .Name y py] kt pt] (.Tuple [a, b] k2 pt2) pos.line X.env = pure false := by rfl) :
    DS G X W Ob OE O (.Assign [.Tuple [.Name x px, .Name y py] kt pt] (.Tuple [a, b] k2 pt2) pos) O (mPar i j ma) := by
  obtain ⟨t, p, w⟩ := ha.ex
  refine ⟨_, ps_par hc hN hi hj hij hx hy p hw hs, fun b S env st σ H D I h => w b S env st σ H _ I ?_⟩
  unfold mPar at h
  cases e : ma env st with
  | ok ds st1 =>
    rw [e] at h
    intro vs S' H' x su so r
    match ds, r, h with
    | [d1, d2], .cons r1 (.cons r2 .nil), h =>
      refine ⟨_, _, rfl, h _ _ _ x.same (DI.set (DI.set (I.ext x su so) r1 hoi) r2 hoj)⟩
    | [], _, h => exact h.elim
    | [_], _, h => exact h.elim
    | _ :: _ :: _ :: _, _, h => exact h.elim
  | err x st1 =>
    rw [e] at h
    intro cls dd S' H' x su so r
    exact h cls dd O S' σ H' hO x.same (I.ext x su so) r
  | bad => rw [e] at h; exact h.elim
end

/-- a body as a function of the arguments' data -/
def fnM (n : Nat) (m : MS) (ds : List D) : M D := fun st => match m (ds.map some ++ List.replicate (n - ds.length) none) st with
  | .nx _ st1 => .ok .non st1
  | .rt d st1 => .ok d st1
  | .er x _ st1 => .err x st1
  | _ => .bad
/-- a def's promise -/
def spD (G : Glb) (n : Nat) (m : List D → M D) : Sp := fun vs H Q E => ∃ (b : Act) (ds : List D) (st : List D), b.H = H ∧ vs.length = n ∧ Same b.S b.H ∧ StoOk G b.ad b.S st b.H ∧ Reps G b.ad b.S vs ds ∧
  wpR (m ds st) (fun d st' => Post G b.ad b.S b.H d st' Q) (fun x st' => PostX G b.ad b.S b.H x st' E)
/-- what holds in a body (or in a part of it) -/
structure XC (k : Nat) (G : Glb) (X : Cx) (W : WX) : Prop where
  tk : L2N.Takes X W
  po : PassesOwn (model X.prog X.w) X.A X.env X.xe
  calm : X.calm = true
  hr : Room k X.A
  K : X.K = G.K
/-- .. of a whole body, for a try -/
structure XT (X : Cx) : Prop where
  stk : X.stack = X.env :: X.outer
  fr : X.env.frame = some X.env.locals

section
variable {P : Program} {w : World} {K : PySem.W.Frag} {mg : Str → Option Value} {base : Heap}
theorem fnD {G : Glb} {x qual : Str} {st : Stmt} {f : Addr} {fd : FuncData} {N ps : List Str} {k : Nat} {m : MS} {O' : Ow} (F : Fun K x qual st f fd) (S : FnScope N ps (defScope st)) (hK : K = G.K)
    (hbody : ∀ (cdv : Value) (A : Around) (outer : List Env) (s : Shared) (H : Hp) (E : XK), XC k G (cxOf (L2N.CX P w) P w K mg base N qual (defScope st) f cdv A outer s H E) (fun cls d _ H' => E cls d H') → XT (cxOf (L2N.CX P w) P w K mg base N qual (defScope st) f cdv A outer s H E) →
      DSs G (cxOf (L2N.CX P w) P w K mg base N qual (defScope st) f cdv A outer s H E) (fun cls d _ H' => E cls d H') {} (fun _ => True) {} (defBody st) O' m) :
    FnOk P w K mg base (L2N.CX P w) (k + 1) f fd ps (spD G ps.length (fnM N.length m)) := by
  refine F.okN S (fun vs H Q E h => ?_) fun cdv A outer s H vs Q E hr h => ?_
  · obtain ⟨_, _, _, _, hl, _⟩ := h
    exact hl
  · obtain ⟨b, ds, st0, rfl, hl, hs, so, r, h⟩ := h
    have xc : XC k G (cxOf (L2N.CX P w) P w K mg base N qual (defScope st) f cdv A outer s b.H E) (fun cls d _ H' => E cls d H') :=
      { tk := L2N.takes_of rfl rfl rfl rfl, po := passes_of rfl, calm := rfl, hr := hr, K := hK }
    obtain ⟨t, p, wt⟩ := (hbody cdv A outer s b.H E xc ⟨rfl, rfl⟩).ex
    refine ⟨t, p, ?_⟩
    have I := DI.start (n := N.length - vs.length) hs so r
    refine wt b b.S _ st0 _ b.H _ I ?_
    have hn : N.length - vs.length = N.length - ds.length := by rw [r.len]
    rw [hn]
    unfold fnM at h
    cases e : m (ds.map some ++ List.replicate (N.length - ds.length) none) st0 with
    | nx env st1 =>
      rw [e] at h
      intro S1 σ1 H1 _ I1
      exact h .non S1 H1 I1.fin I1.sub I1.sto .non
    | rt d st1 =>
      rw [e] at h
      intro v S1 H1 x1 su1 so1 r1
      exact h v S1 H1 x1 su1 so1 r1
    | bk env st1 => rw [e] at h; exact h.elim
    | ct env st1 => rw [e] at h; exact h.elim
    | er x env st1 =>
      rw [e] at h
      intro cls dd O' S1 σ1 H1 _ _ I1 rx
      exact h cls dd S1 H1 I1.fin I1.sub I1.sto rx
    | bad => rw [e] at h; exact h.elim
end

def Len (ma : MA) (n : Nat) : Prop := ∀ env st ds st', ma env st = .ok ds st' → ds.length = n
theorem len_nil : Len mNil 0 := fun env st ds st' h => by cases h; rfl
theorem len_cons {me : ME} {ma : MA} {n : Nat} (h : Len ma n) : Len (mCons me ma) (n + 1) := fun env st ds st' e => by
  unfold mCons at e
  cases e1 : me env st with
  | ok d st1 =>
    rw [e1] at e
    have e' : (ma env st1).bind (fun xs st2 => Res.ok (d :: xs) st2) = .ok ds st' := e
    cases e2 : ma env st1 with
    | ok ds2 st2 =>
      rw [e2] at e'
      have e3 : Res.ok (d :: ds2) st2 = .ok ds st' := e'
      cases e3
      exact congrArg (· + 1) (h _ _ _ _ e2)
    | err x s => rw [e2] at e'; cases e'
    | bad => rw [e2] at e'; cases e'
  | err x s => rw [e1] at e; cases e
  | bad => rw [e1] at e; cases e
def mCall (f : List D → M D) (ma : MA) : ME := fun env st => (ma env st).bind f
section
variable {G : Glb} {X : Cx} {W : WX} {O : Ow} {pos p : Pos} {x : Str} {e : Expr} {es : List Expr} {ma : MA} {k j n : Nat} {f : Addr} {fd : FuncData} {ps : List Str} {m : List D → M D}
theorem de_call (c : XC k G X W) (F : FnOk X.prog X.w X.K X.mg X.base (L2N.CX X.prog X.w) j f fd ps (spD G n m)) (hm : X.mg x = some (.ref f)) (hk : PySem.W.keepIn X.K (.ref f) = true) (hb : Binds X.K fd ps []) (ha : DA G X W O (e :: es) ma)
    (hjk : j ≤ k := by decide) (hln : Len ma n) (hg : Gl X x := by rfl) (hdb : (x == ("__debug__" : Str)) = false := by decide) (he : starEach (e :: es) X.env = (false, eval e X.env) :: starEach es X.env := by rfl) (hpl : (backTo pos (starEach es X.env)).any (·.1) = false := by rfl) :
    DE G X W O (.Call (.Name x p) (e :: es) [] pos) (mCall m ma) := by
  obtain ⟨t, pa, w⟩ := ha.ex
  refine ⟨_, pe_callS F (c.hr.mono hjk) hg hm hk hb (fun σ => L2N.passAt c.tk σ) pa hdb he hpl, fun b S env st σ H Q I h => w b S env st σ H _ I ?_⟩
  have h' := wpR_bind h
  cases ea : ma env st with
  | ok ds st1 =>
    rw [ea] at h'
    intro vs S1 H1 x1 su1 so1 r1
    exact ⟨⟨S1, H1, b.ad⟩, ds, st1, rfl, by rw [r1.len]; exact hln env st ds st1 ea, su1, so1, r1, wpR_imp h' (fun _ _ z => z.from_ x1 so1) fun _ _ z => z.from_ x1 so1⟩
  | err x st1 => rw [ea] at h'; exact h'
  | bad => rw [ea] at h'; exact h'.elim
end
end DL

namespace DL
open PySem PySem.Spec PyProof.Rows L2

/-- an own class without __init__, called without arguments -/
theorem pmk_none {X : Cx} {C : Addr} {bmB : List Value} {B newId initId : String} {x : Str} {p pos : Pos} (F : ExcBaseFacts B newId initId bmB) (q : PySem.W.excIn X.K C bmB newId = true) (gC : X.mg x = some (.ref C))
    (kC : PySem.W.keepIn X.K (.ref C) = true) (r : Raises X (.ref C)) (hg : Gl X x) (hdb : (x == ("__debug__" : Str)) = false := by decide) : L2N.PMk X (.Call (.Name x p) [] [] pos) (fun _ H Q => Q (.ref C) none H) := by
  intro pins s σ H Q I h
  refine wpAny_Call_Name_kw (ld_glob I hg gC ?_ hdb)
  refine PySem.W.callWith_K0 I.kIn kC ?_
  show wpAny _ _ (call (.ref C) []) _ _ _
  obtain ⟨bm, N, nm, qn, bs, hdct, sn, sub, ab, col, dd, k0, k1, k2, k3, k5, mN, hC, hN, hni, T⟩ := exc_obj I.kIn q
  exact wpAny_call_exc_subT F T hC hN hni (fun h' e hm => L2N.mk_of I hm r h (I.hok.gone hm.new)) (Nat.zero_le _)
/-- what an own error class without __init__ must have -/
structure ErrC (G : Glb) (mg : Str → Option Value) (x : Str) (c : Nat) : Prop where
  g : mg x = some (.ref (G.cl c))
  ex : PySem.W.excIn G.K (G.cl c) [.type "ValueError", .type "Exception", .type "BaseException", .type "object"] "ValueError.__new__" = true
  kp : PySem.W.keepIn G.K (.ref (G.cl c)) = true
  sub : PySem.W.subIn G.K (.ref (G.cl c)) (.type "BaseException") = some true
  ty : PySem.W.typeIn G.K (.ref (G.cl c)) = some (.type "type")
def mRaise0 (c : Nat) : MS := fun env st => .er ⟨c, none⟩ env st
section
variable {G : Glb} {X : Cx} {W : WX} {Ob : Ow} {OE : Ow → Prop} {O O1 : Ow} {pos : Pos} {k : Nat}
theorem ds_raise0 {x : Str} {c : Nat} {p pos' : Pos} (xc : XC k G X W) (T : ErrC G X.mg x c) (hO : OE O := by first | trivial | rfl) (hg : Gl X x := by rfl) (hdb : (x == ("__debug__" : Str)) = false := by decide) :
    DS G X W Ob OE O (.Raise (some (.Call (.Name x p) [] [] pos')) none pos) O1 (mRaise0 c) := by
  refine ⟨_, L2N.ps_raise xc.calm xc.tk (pmk_none PySem.F.excBase_ValueError (by rw [xc.K]; exact T.ex) T.g (by rw [xc.K]; exact T.kp) (raises_own (by rw [xc.K]; exact T.sub) (by rw [xc.K]; exact T.ty)) hg hdb), fun b S env st σ H D I h => ?_⟩
  exact h _ _ O S σ H hO (.refl _) I ⟨rfl, rfl⟩
end

def IterOK (G : Glb) (ad : List Addr) (S : Hp) (J : It) (ds : List D) : Prop :=
  ∀ (i : Nat) (S' H' : Hp), Same S S' → Same S' H' → (i = ds.length → J.stop i H') ∧ ∀ d, ds[i]? = some d → J.go i H' ∧
    ∀ x H'', J.yld i H' x H'' → ∃ S'', Ext ad S' H' S'' H'' ∧ Same S'' H'' ∧ (∀ st, StoOk G ad S' st H' → StoOk G ad S'' st H'') ∧ Rep G ad S'' x d
structure DIt (G : Glb) (X : Cx) (W : WX) (O : Ow) (tg iter : Expr) (m : MA) : Prop where
  ex : ∃ wi, PI X tg iter wi ∧ ∀ (b : Act) S env st σ H R, DI G b O S env st σ H →
    wpR (m env st) (fun ds st' => ∀ J S' H', Ext b.ad S H S' H' → Same S' H' → StoOk G b.ad S' st' H' → IterOK G b.ad S' J ds → R J H') (fun x st' => PostX G b.ad S H x st' fun c dd H' => W c dd σ H') → wi σ H R

/-- a list or a tuple -/
def items? : D → M (List D) := fun d st => match d with
  | .lst ds => .ok ds st
  | .rol ds => .ok ds st
  | .tup ds => .ok ds st
  | _ => .bad
def mItems (m : ME) : MA := fun env st => (m env st).bind items?
def rangeD (lo : Int) (n : Nat) : List D := (List.range n).map fun i => .int (lo + (i : Nat))
noncomputable def rng1? : List D → M (List D) := fun ds st => match ds with
  | [.int j] => @ite _ (-(2 ^ 62) ≤ j ∧ j < 2 ^ 62) (Classical.propDecidable _) (.ok (rangeD 0 j.toNat) st) .bad
  | _ => .bad
def mThenA (m : MA) (f : List D → M (List D)) : MA := fun env st => (m env st).bind f
def numbered (ds : List D) : List D := ds.mapIdx fun i d => .tup [.int (i : Nat), d]
def enum? : List D → M (List D) := fun ds st => match ds with
  | [.lst ds] => .ok (numbered ds) st
  | [.rol ds] => .ok (numbered ds) st
  | _ => .bad
/-- a value walked: a list or a tuple -/
def iSeq (K : PySem.W.Frag) (tl : TE) : TI := fun σ H R => tl σ H fun x H1 => ∃ a, x = .ref a ∧ ((∃ xs, SqL K H1 a xs ∧ R (Itl K a) H1) ∨ (∃ xs, SqT K H1 a xs ∧ R (Itt K a) H1))
theorem pi_seq {X : Cx} {tg l : Expr} {tl : TE} (hl : PE X l tl) : PI X tg l (iSeq X.K tl) := by
  refine ⟨fun pins s σ H R I h => ?_⟩
  refine thn (hl.run pins s σ H _ I h) fun v s1 ⟨x, H1, I1, r1, q1⟩ => ?_
  obtain ⟨a, e, q1⟩ := q1
  subst e
  cases r1
  rcases q1 with ⟨xs, hq, q⟩ | ⟨xs, hq, q⟩
  · obtain ⟨its, rv, p, hz⟩ := I1.list hq
    refine wpAny_pyIter_list p.isList ?_
    exact pi_one (tk := s1.toks) I1 _ (turn_list a _) ⟨_, Heap.get?_push_size _ rfl, rfl, rfl⟩ q
  · obtain ⟨its, rv, p, hz⟩ := I1.tuple hq
    refine wpAny_pyIter_tuple (show s1.heap.IsTuple a its.toArray from p) ?_
    exact pi_one (tk := s1.toks) I1 _ (turn_tuple a _) ⟨_, Heap.get?_push_size _ rfl, rfl, rfl⟩ q

section
variable {G : Glb} {ad : List Addr} {S : Hp}
/-- no new object -/
theorem still {H' : Hp} {S' : Hp} {x : V} {d : D} (su : Same S' H') (r : Rep G ad S' x d) : ∃ S'', Ext ad S' H' S'' H' ∧ Same S'' H' ∧ (∀ st, StoOk G ad S' st H' → StoOk G ad S'' st H') ∧ Rep G ad S'' x d :=
  ⟨S', .refl _ _ _, su, fun _ z => z, r⟩
theorem iter_list {a : Addr} {vs : List V} {ds : List D} (h : SqL G.K S a vs) (r : Reps G ad S vs ds) : IterOK G ad S (Itl G.K a) ds := by
  intro i S' H' e su
  have h' := (e.trans su).seq h
  refine ⟨fun hi => ⟨vs, h', by rw [r.len, hi]; exact Nat.le_refl _⟩, fun d hd => ?_⟩
  obtain ⟨v, hv, rv⟩ := r.get hd
  refine ⟨⟨vs, v, h', hv⟩, fun x H'' ⟨e1, e2⟩ => ?_⟩
  subst e1
  have e3 : v = x := Option.some.inj (hv.symm.trans (e2 vs h'))
  subst e3
  exact still su (rv.mono e)
theorem iter_tup {a : Addr} {vs : List V} {ds : List D} (h : SqT G.K S a vs) (r : Reps G ad S vs ds) : IterOK G ad S (Itt G.K a) ds := by
  intro i S' H' e su
  have h' := Same.sqT (e.trans su) h
  refine ⟨fun hi => ⟨vs, h', by rw [r.len, hi]; exact Nat.le_refl _⟩, fun d hd => ?_⟩
  obtain ⟨v, hv, rv⟩ := r.get hd
  refine ⟨⟨vs, v, h', hv⟩, fun x H'' ⟨e1, e2⟩ => ?_⟩
  subst e1
  have e3 : v = x := Option.some.inj (hv.symm.trans (e2 vs h'))
  subst e3
  exact still su (rv.mono e)
theorem rangeD_len (lo : Int) (n : Nat) : (rangeD lo n).length = n := by simp [rangeD]
theorem rangeD_get {lo : Int} {n i : Nat} {d : D} (h : (rangeD lo n)[i]? = some d) : i < n ∧ d = .int (lo + (i : Nat)) := by
  have hi : i < n := by
    have := (List.getElem?_eq_some_iff.mp h).1
    rwa [rangeD_len] at this
  refine ⟨hi, ?_⟩
  simp [rangeD, List.getElem?_map, List.getElem?_range hi] at h
  exact h.symm
theorem iter_range (lo : Int) (n : Nat) : IterOK G ad S (Itr lo n) (rangeD lo n) := by
  intro i S' H' e su
  refine ⟨fun hi => ?_, fun d hd => ?_⟩
  · rw [rangeD_len] at hi
    exact Nat.le_of_eq hi.symm
  · obtain ⟨hi, rfl⟩ := rangeD_get hd
    exact ⟨hi, fun x H'' ⟨e1, e2⟩ => by subst e1; subst e2; exact still su (.int _)⟩
theorem pair_new {H' S' : Hp} {T : Addr} {u v : V} {d e : D} (su : Same S' H') (hT : H' T = none) (r1 : Rep G ad S' u d) (r2 : Rep G ad S' v e) :
    ∃ S'', Ext ad S' H' S'' (upd H' T (.tup [u, v])) ∧ Same S'' (upd H' T (.tup [u, v])) ∧ (∀ st, StoOk G ad S' st H' → StoOk G ad S'' st (upd H' T (.tup [u, v]))) ∧ Rep G ad S'' (.ref T) (.tup [d, e]) := by
  refine ⟨upd S' T (.tup [u, v]), ?_, ?_, fun st so => (new_still su so hT).2.2, Rep.tupNew su hT (.cons r1 (.cons r2 .nil))⟩
  · have hs : S' T = none := su.free hT
    refine ⟨fun b o h => by rw [upd_ne (ne_of_none h hs)]; exact h, fun b o h => ?_, fun b o h _ => .refl (by rw [upd_ne (ne_of_none h hT)]; exact h)⟩
    by_cases hb : b = T
    · subst hb; exact .inr hT
    · rw [upd_ne hb] at h; exact .inl h
  · intro b o h
    by_cases hb : b = T
    · subst hb; rw [upd_same] at h ⊢; exact h
    · rw [upd_ne hb] at h ⊢; exact su _ _ h
theorem numbered_get {ds : List D} {i : Nat} {d : D} (h : (numbered ds)[i]? = some d) : ∃ e, ds[i]? = some e ∧ d = .tup [.int (i : Nat), e] := by
  unfold numbered at h
  rw [List.getElem?_mapIdx] at h
  cases q : ds[i]? with
  | none => rw [q] at h; cases h
  | some e => rw [q] at h; exact ⟨e, rfl, (Option.some.inj h).symm⟩
theorem iter_enum {a : Addr} {vs : List V} {ds : List D} (h : SqL G.K S a vs) (r : Reps G ad S vs ds) : IterOK G ad S (Ite G.K a) (numbered ds) := by
  intro i S' H' e su
  have h' := (e.trans su).seq h
  refine ⟨fun hi => ⟨vs, h', by rw [r.len, hi]; simp [numbered]⟩, fun d hd => ?_⟩
  obtain ⟨d0, hd0, rfl⟩ := numbered_get hd
  obtain ⟨v, hv, rv⟩ := r.get hd0
  refine ⟨⟨vs, v, h', hv⟩, fun x H'' ⟨T, y, e1, hT, e2, e3⟩ => ?_⟩
  subst e1; subst e2
  have e4 : v = y := Option.some.inj (hv.symm.trans (e3 vs h'))
  subst e4
  exact pair_new su hT (.int _) (rv.mono e)
end
section
variable {G : Glb} {X : Cx} {W : WX} {O : Ow} {tg e : Expr} {m : ME} {p pos : Pos}
theorem di_seq (hK : X.K = G.K) (h : DE G X W O e m) : DIt G X W O tg e (mItems m) := by
  obtain ⟨t, pe, w⟩ := h.ex
  refine ⟨_, pi_seq pe, fun b S env st σ H R I h => w b S env st σ H _ I (wpR_imp (wpR_bind h) (fun d st1 h1 => ?_) fun _ _ z => z)⟩
  intro v S1 H1 x1 su1 so1 r1
  cases r1 <;> try exact h1.elim
  · rename_i a vs ds h2 h3
    exact ⟨a, rfl, .inr ⟨vs, hK ▸ Same.sqT su1 h2.sqT, hK ▸ h1 _ _ _ x1 su1 so1 (iter_tup h2.sqT h3)⟩⟩
  · rename_i a vs ds h2 h3
    exact ⟨a, rfl, .inl ⟨vs, SqL.of (su1 _ _ h2), hK ▸ h1 _ _ _ x1 su1 so1 (iter_list (SqL.of h2) h3)⟩⟩
  · rename_i a vs ds h2 h3
    exact ⟨a, rfl, .inl ⟨vs, hK ▸ su1.seq h2, hK ▸ h1 _ _ _ x1 su1 so1 (iter_list h2 h3)⟩⟩
theorem args_walk {ta : TA} {ma : MA} {f : List D → M (List D)} {es : List Expr} {b : Act} {S : Hp} {env : Env'} {st : List D} {σ : L2.St} {H : Hp} {R : It → Hp → Prop} {q : List V → Hp → Prop}
    (w : ∀ (b : Act) S env st σ H Q, DI G b O S env st σ H → wpR (ma env st) (fun ds st' => PostA G b.ad S H ds st' Q) (fun x st' => PostX G b.ad S H x st' fun c dd H' => W c dd σ H') → ta σ H Q) (I : DI G b O S env st σ H)
    (h : wpR (mThenA ma f env st) (fun ds st' => ∀ J S' H', Ext b.ad S H S' H' → Same S' H' → StoOk G b.ad S' st' H' → IterOK G b.ad S' J ds → R J H') (fun x st' => PostX G b.ad S H x st' fun c dd H' => W c dd σ H'))
    (k : ∀ vs ds S' H' st', Ext b.ad S H S' H' → Same S' H' → StoOk G b.ad S' st' H' → Reps G b.ad S' vs ds →
      wpR (f ds st') (fun ds st' => ∀ J S2 H2, Ext b.ad S H S2 H2 → Same S2 H2 → StoOk G b.ad S2 st' H2 → IterOK G b.ad S2 J ds → R J H2) (fun x st' => PostX G b.ad S H x st' fun c dd H' => W c dd σ H') → q vs H') : ta σ H q := by
  refine w b S env st σ H _ I (wpR_imp (wpR_bind h) (fun ds st1 h1 => ?_) fun _ _ z => z)
  intro vs S1 H1 x1 su1 so1 r1
  exact k vs ds S1 H1 st1 x1 su1 so1 r1 h1
variable {a a2 : Expr} {ma : MA}
theorem di_range1 (hm : X.mg "range" = none) (ha : DA G X W O [a] ma) (hg : Gl X "range" := by rfl) (hs : starEach [a] X.env = [(false, eval a X.env)] := by rfl) : DIt G X W O tg (.Call (.Name "range" p) [a] [] pos) (mThenA ma rng1?) := by
  obtain ⟨t, pa, w⟩ := ha.ex
  refine ⟨_, pi_range1 hg hm pa hs, fun b S env st σ H R I h => args_walk (es := [a]) w I h fun vs ds S1 H1 st1 x1 su1 so1 r1 h1 => ?_⟩
  unfold rng1? at h1
  split at h1
  · rename_i j
    split at h1
    · rename_i hj
      cases r1 with
      | cons r rr => cases r; cases rr; exact ⟨j, rfl, hj.1, hj.2, h1 _ _ _ x1 su1 so1 (iter_range 0 _)⟩
    · exact h1.elim
  · exact h1.elim
theorem di_enum {elts : List Expr} {kk : Nat} {tpos : Pos} (hK : X.K = G.K) (hm : X.mg "enumerate" = none) (ha : DA G X W O [a] ma) (hg : Gl X "enumerate" := by rfl) (hs : starEach [a] X.env = [(false, eval a X.env)] := by rfl) :
    DIt G X W O (.Tuple elts kk tpos) (.Call (.Name "enumerate" p) [a] [] pos) (mThenA ma enum?) := by
  obtain ⟨t, pa, w⟩ := ha.ex
  refine ⟨_, pi_enum hg hm pa hs, fun b S env st σ H R I h => args_walk (es := [a]) w I h fun vs ds S1 H1 st1 x1 su1 so1 r1 h1 => ?_⟩
  unfold enum? at h1
  split at h1
  · cases r1 with
    | cons r rr =>
      cases rr
      cases r with
      | lst h2 h3 => exact ⟨_, _, rfl, SqL.of (su1 _ _ h2), hK ▸ h1 _ _ _ x1 su1 so1 (iter_enum (SqL.of h2) h3)⟩
  · cases r1 with
    | cons r rr =>
      cases rr
      cases r with
      | rol h2 h3 => exact ⟨_, _, rfl, hK ▸ su1.seq h2, hK ▸ h1 _ _ _ x1 su1 so1 (iter_enum h2 h3)⟩
  · exact h1.elim
end

def forD (g : MG) (body : MS) : List D → MS
  | [] => fun env st => .nx env st
  | d :: ds => fun env st => match g d env with
    | none => .bad
    | some env1 => match body env1 st with
      | .nx e s => forD g body ds e s
      | .ct e s => forD g body ds e s
      | .bk e s => .nx e s
      | o => o
def mFor (mi : MA) (g : MG) (body : MS) : MS := fun env st => match mi env st with
  | .ok ds st1 => forD g body ds env st1
  | .err x st1 => .er x env st1
  | .bad => .bad
section
variable {G : Glb} {X : Cx} {W : WX} {Ob : Ow} {OE : Ow → Prop} {O O1 : Ow} {pos : Pos} {k : Nat}
theorem ds_for {ix : List Nat} {tg iter : Expr} {body : List Stmt} {mi : MA} {g : MG} {m : MS} (xc : XC k G X W) (hi : DIt G X W O tg iter mi) (hg : DG G X O ix tg g) (hb : DSs G X W O OE O body O m) (hO : OE O := by first | trivial | rfl)
    (hs : ∀ x, foldedSetIterable iter X.env x = pure x := by intro _; rfl) : DS G X W Ob OE O (.For tg iter body [] pos) O (mFor mi g m) := by
  obtain ⟨wi, pi, wwi⟩ := hi.ex
  obtain ⟨tg', pg, wg⟩ := hg.ex
  obtain ⟨tb, pb, wb⟩ := hb.ex
  refine ⟨_, ps_for xc.po xc.calm pi pg pb hs, fun b S env st σ H D I h => wwi b S env st σ H _ I ?_⟩
  unfold mFor at h
  cases e : mi env st with
  | bad => rw [e] at h; exact h.elim
  | err x st1 =>
    rw [e] at h
    intro cls dd S' H' x su so r
    exact h cls dd O S' σ H' hO x.same (I.ext x su so) r
  | ok ds st1 =>
    rw [e] at h
    intro J S1 H1 x1 su1 so1 it
    refine ⟨fun i n σ' H' => n = ds.length - i ∧ i ≤ ds.length ∧ ∃ S' env' st', Same S1 S' ∧ DI G b O S' env' st' σ' H' ∧ PostS G b Ob OE W O D S' (forD g m (ds.drop i) env' st'), ⟨ds.length, by simp, Nat.zero_le _, S1, env, st1, .refl _, I.ext x1 su1 so1, h.from_ x1.same⟩, ?_⟩
    rintro i n σ' H' ⟨rfl, hi, S', env', st', e1, I', h'⟩
    by_cases hlt : i < ds.length
    · right
      have hd : ds[i]? = some ds[i] := List.getElem?_eq_getElem hlt
      obtain ⟨go, yl⟩ := (it i S' H' e1 I'.sub).2 _ hd
      refine ⟨go, fun σ2 H2 => ds.length - (i + 1) < ds.length - i ∧ ∃ S2 env2 st2, Same S1 S2 ∧ DI G b O S2 env2 st2 σ2 H2 ∧ PostS G b Ob OE W O D S2 (forD g m (ds.drop (i + 1)) env2 st2), fun σ2 H2 ⟨hl, z⟩ => ⟨ds.length - (i + 1), hl, rfl, hlt, z⟩, fun x H'' y => ?_⟩
      obtain ⟨S2, x2, su2, so2, r2⟩ := yl x H'' y
      have I2 : DI G b O S2 env' st' σ' H'' := I'.ext x2 su2 (so2 _ I'.sto)
      rw [List.drop_eq_getElem_cons hlt] at h'
      unfold forD at h'
      cases e2 : g ds[i] env' with
      | none => rw [e2] at h'; exact h'.elim
      | some env1 =>
        rw [e2] at h'
        refine wg b S2 env' env1 st' σ' H'' x ds[i] _ I2 r2 e2 fun σ3 _ I3 => wb b S2 env1 st' σ3 H'' _ I3 ?_
        have lt : ds.length - (i + 1) < ds.length - i := by omega
        dsimp only at h'
        cases e3 : m env1 st' with
        | nx env4 st4 =>
          rw [e3] at h'
          intro S4 σ4 H4 y4 I4
          exact ⟨lt, S4, env4, st4, e1.trans (x2.same.trans y4), I4, h'.from_ (x2.same.trans y4)⟩
        | ct env4 st4 =>
          rw [e3] at h'
          intro S4 σ4 H4 y4 I4
          exact ⟨lt, S4, env4, st4, e1.trans (x2.same.trans y4), I4, h'.from_ (x2.same.trans y4)⟩
        | bk env4 st4 =>
          rw [e3] at h'
          intro S4 σ4 H4 y4 I4
          exact h' S4 σ4 H4 (x2.same.trans y4) I4
        | rt d st4 => rw [e3] at h'; exact h'
        | er x st4 => rw [e3] at h'; exact PostS.from_ x2.same h'
        | bad => rw [e3] at h'; exact h'
    · left
      have hi' : i = ds.length := Nat.le_antisymm hi (Nat.le_of_not_lt hlt)
      refine ⟨(it i S' H' e1 I'.sub).1 hi', ?_⟩
      rw [hi', List.drop_length] at h'
      exact h' S' σ' H' (.refl _) I'
end

def whileN (c : MT) (m : MS) : Nat → MS
  | 0 => fun _ _ => .bad
  | n + 1 => fun env st => match c env st with
    | .ok k st1 => if k = true then (match m env st1 with
        | .nx e s => whileN c m n e s
        | .ct e s => whileN c m n e s
        | .bk e s => .nx e s
        | o => o) else .nx env st1
    | .err x st1 => .er x env st1
    | .bad => .bad
theorem whileN_more {c : MT} {m : MS} : ∀ (n : Nat) (env : Env') (st : List D), whileN c m n env st ≠ .bad → whileN c m (n + 1) env st = whileN c m n env st := by
  intro n
  induction n with
  | zero => intro env st h; exact absurd rfl h
  | succ n ih =>
    intro env st h
    unfold whileN at h ⊢
    cases e : c env st with
    | bad => rfl
    | err x st1 => rfl
    | ok k st1 =>
      rw [e] at h
      dsimp only at h ⊢
      by_cases hk : k = true
      · rw [if_pos hk] at h ⊢
        rw [if_pos hk]
        cases e2 : m env st1 with
        | nx e s => rw [e2] at h; exact ih e s h
        | ct e s => rw [e2] at h; exact ih e s h
        | bk e s => rfl
        | rt d s => rfl
        | er x e s => rfl
        | bad => rfl
      · rw [if_neg hk, if_neg hk]
theorem whileN_le {c : MT} {m : MS} {n k : Nat} {env : Env'} {st : List D} (h : whileN c m n env st ≠ .bad) (hk : n ≤ k) : whileN c m k env st = whileN c m n env st := by
  induction hk with
  | refl => rfl
  | step _ ih => rw [whileN_more _ _ _ (by rw [ih]; exact h), ih]
open Classical in
/-- a while: the end that it has after enough turns -/
noncomputable def mWhile (c : MT) (m : MS) : MS := fun env st => if h : ∃ n, whileN c m n env st ≠ .bad then whileN c m h.choose env st else .bad
theorem mWhile_of {c : MT} {m : MS} {n : Nat} {env : Env'} {st : List D} {o : Out} (h : whileN c m n env st = o) (ho : o ≠ .bad) : mWhile c m env st = o := by
  have hx : ∃ n, whileN c m n env st ≠ .bad := ⟨n, by rw [h]; exact ho⟩
  unfold mWhile
  rw [dif_pos hx]
  rcases Nat.le_total n hx.choose with q | q
  · rw [whileN_le (by rw [h]; exact ho) q, h]
  · rw [← whileN_le hx.choose_spec q, h]
theorem mWhile_bad {c : MT} {m : MS} {env : Env'} {st : List D} (h : ∀ n, whileN c m n env st = .bad) : mWhile c m env st = .bad := by
  unfold mWhile
  rw [dif_neg fun ⟨n, q⟩ => q (h n)]
/-- one turn -/
theorem mWhile_eq (c : MT) (m : MS) (env : Env') (st : List D) : mWhile c m env st = match c env st with
    | .ok k st1 => if k = true then (match m env st1 with
        | .nx e s => mWhile c m e s
        | .ct e s => mWhile c m e s
        | .bk e s => .nx e s
        | o => o) else .nx env st1
    | .err x st1 => .er x env st1
    | .bad => .bad := by
  by_cases hx : ∃ n, whileN c m n env st ≠ .bad
  · obtain ⟨n, hn⟩ := hx
    rw [mWhile_of rfl hn]
    cases n with
    | zero => exact absurd rfl hn
    | succ n =>
      unfold whileN at hn ⊢
      cases e : c env st with
      | bad => rfl
      | err x st1 => rfl
      | ok k st1 =>
        rw [e] at hn
        dsimp only at hn ⊢
        by_cases hk : k = true
        · rw [if_pos hk] at hn ⊢
          rw [if_pos hk]
          cases e2 : m env st1 with
          | nx e s => rw [e2] at hn; exact (mWhile_of rfl hn).symm
          | ct e s => rw [e2] at hn; exact (mWhile_of rfl hn).symm
          | bk e s => rfl
          | rt d s => rfl
          | er x e s => rfl
          | bad => rfl
        · rw [if_neg hk, if_neg hk]
  · have hx' : ∀ n, whileN c m n env st = .bad := fun n => Classical.byContradiction fun q => hx ⟨n, q⟩
    rw [mWhile_bad hx']
    cases e : c env st with
    | bad => rfl
    | err x st1 =>
      have := hx' 1
      unfold whileN at this
      rw [e] at this; cases this
    | ok k st1 =>
      dsimp only
      by_cases hk : k = true
      · rw [if_pos hk]
        have key : ∀ n, (match m env st1 with
            | .nx e s => whileN c m n e s
            | .ct e s => whileN c m n e s
            | .bk e s => .nx e s
            | o => o) = .bad := fun n => by
          have := hx' (n + 1)
          unfold whileN at this
          rw [e] at this
          dsimp only at this
          rw [if_pos hk] at this
          exact this
        cases e2 : m env st1 with
        | nx e s => rw [e2] at key; exact (mWhile_bad key).symm
        | ct e s => rw [e2] at key; exact (mWhile_bad key).symm
        | bk e s => have := key 0; rw [e2] at this; cases this
        | rt d s => have := key 0; rw [e2] at this; cases this
        | er x e s => have := key 0; rw [e2] at this; cases this
        | bad => rfl
      · have := hx' 1
        unfold whileN at this
        rw [e] at this
        dsimp only at this
        rw [if_neg hk] at this; cases this
section
variable {G : Glb} {X : Cx} {W : WX} {Ob : Ow} {OE : Ow → Prop} {O O1 : Ow} {pos : Pos} {k : Nat}
theorem ds_while {c : Expr} {body : List Stmt} {t : MT} {m : MS} (xc : XC k G X W) (hc : DT G X W O c t) (hb : DSs G X W O OE O body O m) (hO : OE O := by first | trivial | rfl) : DS G X W Ob OE O (.While c body [] pos) O (mWhile t m) := by
  obtain ⟨tc, pc, wc⟩ := hc.ex
  obtain ⟨tb, pb, wb⟩ := hb.ex
  refine ⟨_, ps_while xc.po pc pb, fun b S env st σ H D I h => ?_⟩
  by_cases hx : ∃ n, whileN t m n env st ≠ .bad
  · obtain ⟨n, hn⟩ := hx
    rw [mWhile_of rfl hn] at h
    refine ⟨fun n σ' H' => ∃ S' env' st', DI G b O S' env' st' σ' H' ∧ PostS G b Ob OE W O D S' (whileN t m n env' st'), ⟨n, S, env, st, I, h⟩, ?_⟩
    rintro n σ' H' ⟨S', env', st', I', h'⟩
    refine wc b S' env' st' σ' H' _ I' ?_
    cases n with
    | zero => exact h'.elim
    | succ n =>
      unfold whileN at h'
      cases e : t env' st' with
      | bad => rw [e] at h'; exact h'.elim
      | err x st1 =>
        rw [e] at h'
        intro cls dd S1 H1 x1 su so r
        exact h' cls dd O S1 σ' H1 hO x1.same (I'.ext x1 su so) r
      | ok k st1 =>
        rw [e] at h'
        intro S1 H1 x1 su1 so1
        have I1 := I'.ext x1 su1 so1
        dsimp only at h'
        cases k with
        | false =>
          rw [if_neg Bool.false_ne_true] at h'
          rw [if_neg Bool.false_ne_true]
          exact h' S1 σ' H1 x1.same I1
        | true =>
          rw [if_pos rfl] at h'
          rw [if_pos rfl]
          refine ⟨fun σ2 H2 => ∃ S2 env2 st2, DI G b O S2 env2 st2 σ2 H2 ∧ PostS G b Ob OE W O D S2 (whileN t m n env2 st2), fun σ2 H2 z => ⟨n, Nat.lt_succ_self n, z⟩, wb b S1 env' st1 σ' H1 _ I1 ?_⟩
          cases e2 : m env' st1 with
          | nx e s => rw [e2] at h'; exact fun S2 σ2 H2 y2 I2 => ⟨S2, e, s, I2, h'.from_ (x1.same.trans y2)⟩
          | ct e s => rw [e2] at h'; exact fun S2 σ2 H2 y2 I2 => ⟨S2, e, s, I2, h'.from_ (x1.same.trans y2)⟩
          | bk e s => rw [e2] at h'; exact fun S2 σ2 H2 y2 I2 => h' S2 σ2 H2 (x1.same.trans y2) I2
          | rt d s => rw [e2] at h'; exact h'
          | er x e s => rw [e2] at h'; exact PostS.from_ x1.same h'
          | bad => rw [e2] at h'; exact h'
  · exact absurd h (by rw [mWhile_bad fun n => Classical.byContradiction fun q => hx ⟨n, q⟩]; exact id)
end
end DL

namespace DL
open PySem PySem.Spec PyProof.Rows L2

mutual
def toP : D → PyData
  | .non => .none
  | .bl b => .bool b
  | .int i => .int i
  | .str x => .str x
  | .tup xs => .tuple (toPs xs)
  | .lst xs => .list (toPs xs)
  | .rol xs => .list (toPs xs)
  | .ty _ => .dict []
  | .obj _ _ => .dict []
  | .cls _ => .dict []
  | .tok _ => .dict []
  | .dic => .dict []
  | .tpx _ => .dict []
  | .dct _ => .dict []
  | .xob _ _ => .dict []
def toPs : List D → List PyData
  | [] => []
  | x :: xs => toP x :: toPs xs
end
theorem canAll {x : PyData} {xs : List PyData} (h : PyData.canLayAll0 (x :: xs) = true) : x.canLay0 = true ∧ PyData.canLayAll0 xs = true := by
  have h' : (x.canLay0 && PyData.canLayAll0 xs) = true := by simpa [PyData.canLayAll0] using h
  simpa using h'
section
variable {G : Glb} {ad : List Addr} {S H : Hp}
mutual
theorem Rep.dp (su : Same S H) : ∀ {v : V} {d : D}, Rep G ad S v d → (toP d).canLay0 = true → Dp G.K H v (toP d)
  | _, _, .non, _ => .non
  | _, _, .bl b, _ => .bl b
  | _, _, .int i, _ => .int i
  | _, _, .str x, _ => .str x
  | _, _, .tup h r, c => .tup (Same.sqT su h.sqT) (Reps.dp su r (by simpa [toP, PyData.canLay0] using c))
  | _, _, .lst h r, c => .lst (SqL.of (su _ _ h)) (Reps.dp su r (by simpa [toP, PyData.canLay0] using c))
  | _, _, .rol h r, c => .lst (su.seq h) (Reps.dp su r (by simpa [toP, PyData.canLay0] using c))
  | _, _, .ty _, c => by simp [toP, PyData.canLay0] at c
  | _, _, .obj _ _, c => by simp [toP, PyData.canLay0] at c
  | _, _, .cls _, c => by simp [toP, PyData.canLay0] at c
  | _, _, .tok _, c => by simp [toP, PyData.canLay0] at c
  | _, _, .dic _, c => by simp [toP, PyData.canLay0] at c
  | _, _, .tpx _ _ _ _, c => by simp [toP, PyData.canLay0] at c
  | _, _, .dct _ _, c => by simp [toP, PyData.canLay0] at c
  | _, _, .xob _, c => by simp [toP, PyData.canLay0] at c
  | _, _, .xobF _ _ _, c => by simp [toP, PyData.canLay0] at c
theorem Reps.dp (su : Same S H) : ∀ {vs : List V} {ds : List D}, Reps G ad S vs ds → PyData.canLayAll0 (toPs ds) = true → DpAll G.K H vs (toPs ds)
  | _, _, .nil, _ => .nil
  | _, _, .cons h r, c => by
    have c' := canAll c
    exact .cons (Rep.dp su h c'.1) (Reps.dp su r c'.2)
end
end
def eqD (x y : D) : Option Bool := if SeqAt.shaped (toP x) = true ∧ SeqAt.shaped (toP y) = true then some (PyData.eqv (toP x) (toP y)) else none
def dEq (x y : D) : Option D := (eqD x y).map .bl
def dNe (x y : D) : Option D := (eqD x y).map fun b => .bl (!b)
section
variable {G : Glb} {X : Cx}
theorem opd_eq (hK : X.K = G.K) : OpD G (rEqD X.K) dEq := ⟨fun ad S H st x y dx dy d Q su so rx ry e q => by
  unfold dEq eqD at e
  split at e
  · rename_i hs
    have e' : D.bl (PyData.eqv (toP dx) (toP dy)) = d := Option.some.inj e
    subst e'
    exact ⟨_, _, hK ▸ rx.dp su (SeqAt.canLay_of_shaped hs.1), hK ▸ ry.dp su (SeqAt.canLay_of_shaped hs.2), hs.1, hs.2, Post.here su so (.bl _) q⟩
  · cases e⟩
theorem opd_ne (hK : X.K = G.K) : OpD G (rNeD X.K) dNe := ⟨fun ad S H st x y dx dy d Q su so rx ry e q => by
  unfold dNe eqD at e
  split at e
  · rename_i hs
    have e' : D.bl (!PyData.eqv (toP dx) (toP dy)) = d := Option.some.inj e
    subst e'
    exact ⟨_, _, hK ▸ rx.dp su (SeqAt.canLay_of_shaped hs.1), hK ▸ ry.dp su (SeqAt.canLay_of_shaped hs.2), hs.1, hs.2, Post.here su so (.bl _) q⟩
  · cases e⟩
/-- both sides whole numbers -/
def i2 (f : Int → Int → Option D) : D → D → Option D
  | .int i, .int j => f i j
  | _, _ => none
def i1 (f : Int → D) : D → Option D
  | .int i => some (f i)
  | _ => none
theorem opd_i0 {g : Int → Int → V} {h : Int → Int → D} (hg : ∀ ad S i j, Rep G ad S (g i j) (h i j)) : OpD G (rI0 g) (i2 fun i j => some (h i j)) := ⟨fun ad S H st x y dx dy d Q su so rx ry e q => by
  cases rx <;> try cases e
  cases ry <;> cases e
  exact ⟨_, _, rfl, rfl, Post.here su so (hg _ _ _ _) q⟩⟩
theorem opd_iC {C : Int → Int → Prop} [∀ i j, Decidable (C i j)] {g : Int → Int → V} {h : Int → Int → D} (hg : ∀ ad S i j, Rep G ad S (g i j) (h i j)) : OpD G (rI C g) (i2 fun i j => if C i j then some (h i j) else none) := ⟨fun ad S H st x y dx dy d Q su so rx ry e q => by
  cases rx <;> try cases e
  cases ry <;> try cases e
  rename_i i j
  have e : (if C i j then some (h i j) else none) = some d := e
  by_cases hc : C i j
  · rw [if_pos hc] at e
    cases e
    exact ⟨_, _, rfl, rfl, hc, Post.here su so (hg _ _ _ _) q⟩
  · rw [if_neg hc] at e; cases e⟩
theorem und_i {g : Int → V} {h : Int → D} (hg : ∀ ad S i, Rep G ad S (g i) (h i)) : UnD G (rU g) (i1 h) := ⟨fun ad S H st x dx d Q su so rx e q => by
  cases rx <;> cases e
  exact ⟨_, rfl, Post.here su so (hg _ _ _) q⟩⟩
def dSub : D → D → Option D := i2 fun i j => some (.int (i - j))
def dLt : D → D → Option D := i2 fun i j => some (.bl (decide (i < j)))
def dLe : D → D → Option D := i2 fun i j => some (.bl (decide (i ≤ j)))
def dGt : D → D → Option D := i2 fun i j => some (.bl (decide (j < i)))
def dGe : D → D → Option D := i2 fun i j => some (.bl (decide (j ≤ i)))
def dNeg : D → Option D := i1 fun i => .int (-i)
theorem opd_sub : OpD G (rI0 fun i j => .int (i - j)) dSub := opd_i0 fun _ _ _ _ => .int _
theorem opd_lt : OpD G (rI0 fun i j => .bl (decide (i < j))) dLt := opd_i0 fun _ _ _ _ => .bl _
theorem opd_le : OpD G (rI0 fun i j => .bl (decide (i ≤ j))) dLe := opd_i0 fun _ _ _ _ => .bl _
theorem opd_gt : OpD G (rI0 fun i j => .bl (decide (j < i))) dGt := opd_i0 fun _ _ _ _ => .bl _
theorem und_neg : UnD G (rU fun i => .int (-i)) dNeg := und_i fun _ _ _ => .int _
/-- the sizes of a product -/
def MulOk (i j : Int) : Prop := i.natAbs < 2 ^ 64 ∨ j.natAbs < 2 ^ 64 ∨ i.natAbs.log2 + j.natAbs.log2 < 1000000
noncomputable instance (i j : Int) : Decidable (MulOk i j) := Classical.propDecidable _
def DivOk (i j : Int) : Prop := j ≠ 0 ∧ (j.natAbs.log2 < 9000 ∨ i.natAbs.log2 < j.natAbs.log2 + 4400)
noncomputable instance (i j : Int) : Decidable (DivOk i j) := Classical.propDecidable _
theorem noPylong_near {x y : Int} (hy : y ≠ 0) (h : x.natAbs.log2 < y.natAbs.log2 + 4400) : Builtin.divisionGoesByPylong x y = false := by
  have e1 : (if y == 0 then 0 else y.natAbs.log2 / 30 + 1) = y.natAbs.log2 / 30 + 1 := if_neg (by simpa using hy)
  have key : (if x == 0 then 0 else x.natAbs.log2 / 30 + 1) ≤ (if y == 0 then 0 else y.natAbs.log2 / 30 + 1) + 150 := by
    rw [e1]
    by_cases hx : (x == 0) = true
    · rw [if_pos hx]; omega
    · rw [if_neg hx]; omega
  show (_ && decide ((if x == 0 then 0 else x.natAbs.log2 / 30 + 1) > (if y == 0 then 0 else y.natAbs.log2 / 30 + 1) + 150)) = false
  rw [decide_eq_false (Nat.not_lt.mpr key), Bool.and_false]
theorem op_mulD : OpR X (binaryOp .Mult) (rI MulOk fun i j => .int (i * j)) := opI fun i j _ _ _ _ _ hc q => by
  refine mul_int q ?_
  rcases hc with h | h | h
  · exact (CMul.ok (i := i) (j := j) (.inl (by omega)))
  · exact (CMul.ok (i := i) (j := j) (.inr (by omega)))
  · exact CMulW.ok h
theorem op_divD : OpR X (binaryOp .FloorDiv) (rI DivOk fun i j => .int (i.fdiv j)) := opI fun i j _ _ _ _ _ hc q => floordiv_int hc.1 q (.inl (hc.2.elim PyProof.noPylong_of_log2 (noPylong_near hc.1)))
theorem op_modD : OpR X (binaryOp .Mod) (rI (fun _ j => j ≠ 0) fun i j => .int (i.fmod j)) := op_modN
noncomputable def dDiv : D → D → Option D := i2 fun i j => if DivOk i j then some (.int (i.fdiv j)) else none
def dMod : D → D → Option D := i2 fun i j => if j ≠ 0 then some (.int (i.fmod j)) else none
theorem opd_div : OpD G (rI DivOk fun i j => .int (i.fdiv j)) dDiv := opd_iC fun _ _ _ _ => .int _
theorem opd_mod : OpD G (rI (fun _ j => j ≠ 0) fun i j => .int (i.fmod j)) dMod := opd_iC (C := fun _ j => j ≠ 0) fun _ _ _ _ => .int _
instance (i j : Int) : Decidable (CPow i j) := inferInstanceAs (Decidable (_ ∧ _ ∧ _))
def dPow : D → D → Option D := i2 fun i j => if CPow i j then some (.int (i ^ j.toNat)) else none
theorem opd_pow : OpD G (rI CPow fun i j => .int (i ^ j.toNat)) dPow := opd_iC fun _ _ _ _ => .int _
def dAdd : D → D → Option D
  | .int i, .int j => some (.int (i + j))
  | .str x, .str y => if x.length + y.length ≤ sizeLine then some (.str (x ++ y)) else none
  | .tup xs, .tup ys => if xs.length + ys.length ≤ sizeLine then some (.tup (xs ++ ys)) else none
  | .lst xs, .lst ys => if xs.length + ys.length ≤ sizeLine then some (.lst (xs ++ ys)) else none
  | _, _ => none
theorem op_addD : OpR X (binaryOp .Add) (fun x y H Q => rI0 (fun i j => .int (i + j)) x y H Q ∨ ((∃ i j, x = .str i ∧ y = .str j ∧ i.length + j.length ≤ sizeLine ∧ Q (.str (i ++ j)) H) ∨ (rCatA X.K x y H Q ∨ rCat x y H Q))) := op_add.or (op_add_str.or (op_catA.or op_cat))
theorem opd_add (hK : X.K = G.K) : OpD G (fun x y H Q => rI0 (fun i j => .int (i + j)) x y H Q ∨ ((∃ i j, x = .str i ∧ y = .str j ∧ i.length + j.length ≤ sizeLine ∧ Q (.str (i ++ j)) H) ∨ (rCatA X.K x y H Q ∨ rCat x y H Q))) dAdd := ⟨fun ad S H st x y dx dy d Q su so rx ry e q => by
  unfold dAdd at e
  split at e
  · cases e
    cases rx; cases ry
    exact .inl ⟨_, _, rfl, rfl, Post.here su so (.int _) q⟩
  · split at e <;> cases e
    rename_i hl
    cases rx; cases ry
    exact .inr (.inl ⟨_, _, rfl, rfl, hl, Post.here su so (.str _) q⟩)
  · split at e <;> cases e
    rename_i hl
    cases rx with
    | tup h1 r1 =>
      rename_i a vs
      cases ry with
      | tup h2 r2 =>
        rename_i c ws
        refine .inr (.inr (.inl ⟨a, c, vs, ws, rfl, rfl, hK ▸ Same.sqT su h1.sqT, hK ▸ Same.sqT su h2.sqT, by rw [r1.len, r2.len]; exact hl, fun h0 => ?_, fun h0 h0' => ?_, fun h0 h0' p hp => ?_⟩))
        · subst h0
          cases r1
          exact Post.here su so (.tup h2 r2) q
        · subst h0'
          cases r2
          exact Post.here su so (.tup h1 (by rw [List.append_nil]; exact r1)) q
        · exact Post.tup su so hp (r1.append r2) q
  · split at e <;> cases e
    rename_i hl
    cases rx with
    | lst h1 r1 =>
      rename_i a vs
      cases ry with
      | lst h2 r2 =>
        rename_i c ws
        exact .inr (.inr (.inr ⟨a, c, vs, ws, rfl, rfl, su _ _ h1, su _ _ h2, by rw [r1.len, r2.len]; exact hl, fun p hp => Post.lst su so hp (r1.append r2) q⟩))
  · cases e⟩
def repD (k : Nat) (xs : List D) : List D := (List.replicate k xs).flatten
theorem Reps.rep {ad : List Addr} {S : Hp} {vs : List V} {ds : List D} (r : Reps G ad S vs ds) : ∀ k : Nat, Reps G ad S (List.replicate k vs).flatten (repD k ds)
  | 0 => .nil
  | k + 1 => by
    unfold repD
    rw [List.replicate_succ, List.replicate_succ, List.flatten_cons, List.flatten_cons]
    exact r.append (Reps.rep r k)
noncomputable def dMul : D → D → Option D
  | .int i, .int j => if MulOk i j then some (.int (i * j)) else none
  | .lst xs, .int k => @ite _ (-(2 ^ 63) ≤ k ∧ k < 2 ^ 63 ∧ xs.length * k.toNat ≤ sizeLine) (Classical.propDecidable _) (some (.lst (repD k.toNat xs))) none
  | .tup xs, .int k => if xs ≠ [] ∧ 2 ≤ k ∧ k ≤ 1000 ∧ xs.length ≤ 1000 then some (.tup (repD k.toNat xs)) else none
  | _, _ => none
theorem op_mulD3 : OpR X (binaryOp .Mult) (fun x y H Q => rI MulOk (fun i j => .int (i * j)) x y H Q ∨ (rRep x y H Q ∨ rRepT X.K x y H Q)) := op_mulD.or (op_rep.or op_repT)
theorem opd_mul (hK : X.K = G.K) : OpD G (fun x y H Q => rI MulOk (fun i j => .int (i * j)) x y H Q ∨ (rRep x y H Q ∨ rRepT X.K x y H Q)) dMul := ⟨fun ad S H st x y dx dy d Q su so rx ry e q => by
  unfold dMul at e
  split at e
  · split at e <;> cases e
    rename_i hl
    cases rx; cases ry
    exact .inl ⟨_, _, rfl, rfl, hl, Post.here su so (.int _) q⟩
  · split at e <;> cases e
    rename_i hl
    cases rx with
    | lst h1 r1 =>
      cases ry
      exact .inr (.inl ⟨_, _, _, rfl, rfl, su _ _ h1, hl.1, hl.2.1, by rw [r1.len]; exact hl.2.2, fun p hp => Post.lst su so hp (r1.rep _) q⟩)
  · split at e <;> cases e
    rename_i hl
    cases rx with
    | tup h1 r1 =>
      cases ry
      exact .inr (.inr ⟨_, _, _, rfl, rfl, hK ▸ Same.sqT su h1.sqT, fun z => hl.1 (by subst z; cases r1; rfl), hl.2.1, hl.2.2.1, by rw [r1.len]; exact hl.2.2.2, fun p hp => Post.tup su so hp (r1.rep _) q⟩)
  · cases e⟩
def dNotB : D → D → Option D
  | .bl a, .bl b => some (.bl (!decide (a = b)))
  | _, _ => none
theorem opd_notB : OpD G (fun x y H Q => ∃ a b, x = .bl a ∧ y = .bl b ∧ Q (.bl (!decide (a = b))) H) dNotB := ⟨fun ad S H st x y dx dy d Q su so rx ry e q => by
  cases rx <;> try cases e
  cases ry <;> cases e
  exact ⟨_, _, rfl, rfl, Post.here su so (.bl _) q⟩⟩
def dIx : D → D → Option D
  | .lst xs, .int i => atI xs i
  | .rol xs, .int i => atI xs i
  | .tup xs, .int i => atI xs i
  | .str x, .int i => if x.length ≤ sizeLine then (atI x.cps.toList i).map fun c => .str ⟨#[c]⟩ else none
  | _, _ => none
theorem atI_rep {ad : List Addr} {S : Hp} {vs : List V} {ds : List D} {i : Int} {d : D} (r : Reps G ad S vs ds) (h : atI ds i = some d) : ∃ v, atI vs i = some v ∧ Rep G ad S v d := by
  unfold atI at h ⊢
  rw [r.len]
  cases e : ixN ds.length i with
  | none => rw [e] at h; cases h
  | some j =>
    rw [e] at h
    exact r.get (i := j) h
theorem opd_ix (hK : X.K = G.K) : OpD G (rIx X.K) dIx := ⟨fun ad S H st x y dx dy d Q su so rx ry e q => by
  cases ry with
  | int i =>
    cases rx with
    | str z =>
      have e : (if z.length ≤ sizeLine then (atI z.cps.toList i).map fun c => D.str ⟨#[c]⟩ else none) = some d := e
      split at e
      · rename_i hz
        cases ea : atI z.cps.toList i with
        | none => rw [ea] at e; cases e
        | some c =>
          rw [ea] at e
          cases e
          exact .inr (.inr ⟨z, i, c, rfl, rfl, hz, ea, Post.here su so (.str _) q⟩)
      · cases e
    | tup h r =>
      obtain ⟨v, h1, h2⟩ := atI_rep r e
      exact .inr (.inl ⟨_, _, _, _, rfl, rfl, hK ▸ Same.sqT su h.sqT, h1, Post.here su so h2 q⟩)
    | lst h r =>
      obtain ⟨v, h1, h2⟩ := atI_rep r e
      exact .inl ⟨_, _, _, _, rfl, rfl, SqL.of (su _ _ h), h1, Post.here su so h2 q⟩
    | rol h r =>
      obtain ⟨v, h1, h2⟩ := atI_rep r e
      exact .inl ⟨_, _, _, _, rfl, rfl, hK ▸ su.seq h, h1, Post.here su so h2 q⟩
    | _ => cases e
  | _ => cases rx <;> cases e⟩
def c1 (f : D → Option D) : List D → Option D
  | [x] => f x
  | _ => none
theorem reps1 {ad : List Addr} {S : Hp} {vs : List V} {d : D} (r : Reps G ad S vs [d]) : ∃ v, vs = [v] ∧ Rep G ad S v d := by
  cases r with
  | cons h r => cases r; exact ⟨_, rfl, h⟩
theorem reps2 {ad : List Addr} {S : Hp} {vs : List V} {d e : D} (r : Reps G ad S vs [d, e]) : ∃ v w, vs = [v, w] ∧ Rep G ad S v d ∧ Rep G ad S w e := by
  cases r with
  | cons h r =>
    obtain ⟨w, rfl, h2⟩ := reps1 r
    exact ⟨_, _, rfl, h, h2⟩
theorem c1_some {f : D → Option D} {ds : List D} {d : D} (h : c1 f ds = some d) : ∃ x, ds = [x] ∧ f x = some d := by
  match ds, h with
  | [x], h => exact ⟨x, rfl, h⟩
def dAbs : D → Option D := i1 fun i => .int (if i < 0 then -i else i)
theorem cd_abs : CallD G (fun xs H Q => ∃ i, xs = [.int i] ∧ Q (.int (if i < 0 then -i else i)) H) (c1 dAbs) := ⟨fun ad S H st xs ds d Q su so r e q => by
  obtain ⟨x, rfl, e⟩ := c1_some e
  obtain ⟨v, rfl, rv⟩ := reps1 r
  cases rv <;> cases e
  exact ⟨_, rfl, Post.here su so (.int _) q⟩⟩
def dInt1 : D → Option D
  | .int i => some (.int i)
  | .bl b => some (.int (if b then 1 else 0))
  | _ => none
theorem cd_int : CallD G (fun xs H Q => (∃ i, xs = [.int i] ∧ Q (.int i) H) ∨ ∃ k, xs = [.bl k] ∧ Q (.int (if k then 1 else 0)) H) (c1 dInt1) := ⟨fun ad S H st xs ds d Q su so r e q => by
  obtain ⟨x, rfl, e⟩ := c1_some e
  obtain ⟨v, rfl, rv⟩ := reps1 r
  cases rv <;> cases e
  · exact .inr ⟨_, rfl, Post.here su so (.int _) q⟩
  · exact .inl ⟨_, rfl, Post.here su so (.int _) q⟩⟩
def dLen : D → Option D
  | .str x => if x.length ≤ sizeLine then some (.int (x.length : Nat)) else none
  | .lst xs => some (.int (xs.length : Nat))
  | .rol xs => some (.int (xs.length : Nat))
  | .tup xs => some (.int (xs.length : Nat))
  | _ => none
theorem cd_len (hK : X.K = G.K) : CallD G (fun xs H Q => ∃ x n, xs = [x] ∧ LenV X.K x H n ∧ Q (.int n) H) (c1 dLen) := ⟨fun ad S H st xs ds d Q su so r e q => by
  obtain ⟨x, rfl, e⟩ := c1_some e
  obtain ⟨v, rfl, rv⟩ := reps1 r
  cases rv with
  | str z =>
    have e2 : (if z.length ≤ sizeLine then some (D.int (z.length : Nat)) else none) = some d := e
    by_cases hz : z.length ≤ sizeLine
    case neg => rw [if_neg hz] at e2; cases e2
    rw [if_pos hz] at e2
    cases e2
    exact ⟨_, _, rfl, ⟨hz, rfl⟩, Post.here su so (.int _) q⟩
  | tup h r1 => cases e; exact ⟨_, _, rfl, .inr ⟨_, hK ▸ Same.sqT su h.sqT, rfl⟩, by rw [r1.len]; exact Post.here su so (.int _) q⟩
  | lst h r1 => cases e; exact ⟨_, _, rfl, .inl ⟨_, SqL.of (su _ _ h), rfl⟩, by rw [r1.len]; exact Post.here su so (.int _) q⟩
  | rol h r1 => cases e; exact ⟨_, _, rfl, .inl ⟨_, hK ▸ su.seq h, rfl⟩, by rw [r1.len]; exact Post.here su so (.int _) q⟩
  | _ => cases e⟩
def c2i (f : Int → Int → D) : List D → Option D
  | [.int a, .int b] => some (f a b)
  | _ => none
theorem c2i_some {f : Int → Int → D} {ds : List D} {d : D} (h : c2i f ds = some d) : ∃ a b, ds = [.int a, .int b] ∧ d = f a b := by
  match ds, h with
  | [.int a, .int b], h => exact ⟨a, b, rfl, (Option.some.inj h).symm⟩
def dGcd : List D → Option D := c2i fun a b => .int ((Nat.gcd a.natAbs b.natAbs : Nat) : Int)
theorem cd_gcd : CallD G rGcd dGcd := ⟨fun ad S H st xs ds d Q su so r e q => by
  obtain ⟨a, b, rfl, rfl⟩ := c2i_some e
  obtain ⟨v, w, rfl, r1, r2⟩ := reps2 r
  cases r1; cases r2
  exact ⟨a, b, rfl, Post.here su so (.int _) q⟩⟩
/-- list(..), tuple(..) of a list or a tuple -/
def dList : D → Option D
  | .lst xs => some (.lst xs)
  | .rol xs => some (.lst xs)
  | .tup xs => some (.lst xs)
  | _ => none
theorem cd_list (hK : X.K = G.K) : CallD G (fun xs H Q => ∃ p ys, xs = [.ref p] ∧ (SqL X.K H p ys ∨ SqT X.K H p ys) ∧ ∀ l, H l = none → Q (.ref l) (upd H l (.lst ys))) (c1 dList) := ⟨fun ad S H st xs ds d Q su so r e q => by
  obtain ⟨x, rfl, e⟩ := c1_some e
  obtain ⟨v, rfl, rv⟩ := reps1 r
  cases rv with
  | tup h r1 => cases e; exact ⟨_, _, rfl, .inr (hK ▸ Same.sqT su h.sqT), fun l hl => Post.lst su so hl r1 q⟩
  | lst h r1 => cases e; exact ⟨_, _, rfl, .inl (SqL.of (su _ _ h)), fun l hl => Post.lst su so hl r1 q⟩
  | rol h r1 => cases e; exact ⟨_, _, rfl, .inl (hK ▸ su.seq h), fun l hl => Post.lst su so hl r1 q⟩
  | _ => cases e⟩
def dTuple : D → Option D
  | .lst xs => some (.tup xs)
  | .rol xs => some (.tup xs)
  | .tup xs => some (.tup xs)
  | _ => none
theorem cd_tuple (hK : X.K = G.K) : CallD G (fun xs H Q => ∃ p ys, xs = [.ref p] ∧ ((SqL X.K H p ys ∧ ∀ l, H l = none → Q (.ref l) (upd H l (.tup ys))) ∨ (SqT X.K H p ys ∧ Q (.ref p) H))) (c1 dTuple) := ⟨fun ad S H st xs ds d Q su so r e q => by
  obtain ⟨x, rfl, e⟩ := c1_some e
  obtain ⟨v, rfl, rv⟩ := reps1 r
  cases rv with
  | tup h r1 => cases e; exact ⟨_, _, rfl, .inr ⟨hK ▸ Same.sqT su h.sqT, Post.here su so (.tup h r1) q⟩⟩
  | lst h r1 => cases e; exact ⟨_, _, rfl, .inl ⟨SqL.of (su _ _ h), fun l hl => Post.tup su so hl r1 q⟩⟩
  | rol h r1 => cases e; exact ⟨_, _, rfl, .inl ⟨hK ▸ su.seq h, fun l hl => Post.tup su so hl r1 q⟩⟩
  | _ => cases e⟩
/-- the built-in type of a value -/
def tyN : D → Option String
  | .non => some "NoneType"
  | .bl _ => some "bool"
  | .int _ => some "int"
  | .str _ => some "str"
  | .tup _ => some "tuple"
  | .lst _ => some "list"
  | .rol _ => some "list"
  | .dic => some "dict"
  | _ => none
def subTy (a b : String) : Option Bool :=
  if a = b then some true
  else if a = "bool" ∧ b = "int" then some true
  else if (a = "NoneType" ∨ a = "bool" ∨ a = "int" ∨ a = "str" ∨ a = "tuple" ∨ a = "list" ∨ a = "dict") ∧ (b = "bool" ∨ b = "int" ∨ b = "str" ∨ b = "tuple" ∨ b = "list") then some false else none
theorem subTy_ok {K : PySem.W.Frag} {a b : String} {r : Bool} (h : subTy a b = some r) : PySem.W.kitOne K (.type a) (.type b) = some r := by
  refine kit_ty ?_
  unfold subTy at h
  split at h
  · rename_i e; subst e; cases h
    unfold kitB
    simp
  · split at h
    · rename_i e; obtain ⟨rfl, rfl⟩ := e; cases h; decide +kernel
    · split at h
      · rename_i hne hbi e
        cases h
        obtain ⟨ha, hb⟩ := e
        rcases ha with rfl | rfl | rfl | rfl | rfl | rfl | rfl <;> rcases hb with rfl | rfl | rfl | rfl | rfl <;> first | decide +kernel | exact absurd rfl hne | exact absurd (And.intro rfl rfl) hbi
      · cases h
def isiD (x c : D) : Option Bool := match tyN x, c with
  | some a, .ty b => subTy a b
  | _, _ => none
def anyIsi (x : D) : List D → Option Bool
  | [] => some false
  | c :: cs => match isiD x c, anyIsi x cs with
    | some a, some b => some (a || b)
    | _, _ => none
def dIsi : List D → Option D
  | [x, .tup (c :: cs)] => (anyIsi x (c :: cs)).map .bl
  | [x, c] => (isiD x c).map .bl
  | _ => none
theorem tyN_ok {ad : List Addr} {S H : Hp} {v : V} {d : D} {a : String} (su : Same S H) (r : Rep G ad S v d) (ea : tyN d = some a) : TyX G.K H v (.type a) := by
  cases r <;> cases ea
  · exact .base .non
  · exact .base (.bl _)
  · exact .base (.int _)
  · exact .base (.str _)
  · rename_i h r
    rcases h with h | ⟨o, its, n, h1, h2, _⟩ | ⟨o, ns, _, h⟩
    · exact .base (.tup (su _ _ h))
    · exact .kTuple h1 h2
    · exact .fTuple (su _ _ h)
  · rename_i h r
    exact .base (.lst (su _ _ h))
  · rename_i h r
    rcases h with (h | ⟨o, h⟩) | ⟨o, its, n, h1, h2, _⟩
    · exact .base (.lst (su _ _ h))
    · exact .base (.frz (su _ _ h))
    · exact .kList h1 h2
  · rename_i h
    exact .base (.dK (su _ _ h))
theorem isi_cls {ad : List Addr} {S : Hp} {w : V} {d c : D} {k : Bool} (rc : Rep G ad S w c) (h : isiD d c = some k) : ∃ a b, tyN d = some a ∧ ClsV w (.type b) ∧ PySem.W.kitOne G.K (.type a) (.type b) = some k := by
  unfold isiD at h
  split at h
  · rename_i a b ea
    cases rc
    exact ⟨a, b, ea, .ty b, subTy_ok h⟩
  · cases h
theorem any_ok {ad : List Addr} {S : Hp} {d : D} {a : String} (ea : tyN d = some a) : ∀ {ws : List V} {cs : List D} {k : Bool}, Reps G ad S ws cs → anyIsi d cs = some k → ∃ us, Paired ClsV ws us ∧ PySem.W.kitAny G.K (.type a) us = some k
  | _, _, k, .nil, h => ⟨[], .nil, by cases h; rfl⟩
  | _, _, k, .cons (v := w) (d := c) (ds := cs) rc rr, h => by
    unfold anyIsi at h
    split at h
    · rename_i p q e1 e2
      cases h
      obtain ⟨us, hu, hk⟩ := any_ok ea rr e2
      obtain ⟨a', b, ea', hc, h1⟩ := isi_cls rc e1
      rw [ea] at ea'
      cases ea'
      refine ⟨_, .cons hc hu, kitAny_cons h1 (fun z => ?_) (fun z => ?_)⟩
      · rw [z]; exact hk
      · rw [z]; rfl
    · cases h
theorem cd_isi (hK : X.K = G.K) : CallD G (fun xs H Q => rIsi X.K xs H Q ∨ (rIsiT X.K xs H Q ∨ rIsiK X.K xs H Q)) dIsi := ⟨fun ad S H st xs ds d Q su so r e q => by
  unfold dIsi at e
  split at e
  · rename_i x c0 cs0
    obtain ⟨v, w, rfl, r1, r2⟩ := reps2 r
    obtain ⟨cs, hcs⟩ : ∃ cs, cs = c0 :: cs0 := ⟨_, rfl⟩
    rw [← hcs] at e r2
    cases ek : anyIsi x cs with
    | none => rw [ek] at e; cases e
    | some k =>
      rw [ek] at e
      cases e
      cases r2 with
      | tup h2 r2 =>
        obtain ⟨a, ea⟩ : ∃ a, tyN x = some a := by
          rw [hcs] at ek
          unfold anyIsi isiD at ek
          cases et : tyN x with
          | none => rw [et] at ek; cases ek
          | some a => exact ⟨a, rfl⟩
        obtain ⟨us, p, hk⟩ := any_ok ea r2 ek
        rcases h2 with h2 | ⟨o, its, n, h3, h4, h5, h6, h7⟩ | ⟨o, ns, h3, h4⟩
        rotate_left 2
        · exfalso
          subst h3
          rw [hcs] at r2 ek
          cases ns with
          | nil => cases r2
          | cons n ns =>
            cases r2 with
            | cons r3 r4 =>
              cases r3
              unfold anyIsi isiD at ek
              cases et : tyN x with
              | none => rw [et] at ek; cases ek
              | some a => rw [et] at ek; cases ek
        · exact .inr (.inl ⟨v, _, _, .type a, us, k, rfl, su _ _ h2, p, hK ▸ tyN_ok su r1 ea, hK ▸ hk, Post.here su so (.bl _) q⟩)
        · have e3 : its.toList = us := ClsV.all p h7
          obtain ⟨oc, od, dt, sl⟩ := o
          simp only at h4 h5
          subst h4 h5
          refine .inr (.inr ⟨v, _, od, us, n, sl, .type a, k, rfl, ?_, hK ▸ tyN_ok su r1 ea, hK ▸ hk, Post.here su so (.bl _) q⟩)
          rw [hK, h3, ← e3]
  · rename_i x c hne
    obtain ⟨v, w, rfl, r1, r2⟩ := reps2 r
    cases ek : isiD x c with
    | none => rw [ek] at e; cases e
    | some k =>
      rw [ek] at e
      cases e
      obtain ⟨a, b, ea, hc, h1⟩ := isi_cls r2 ek
      exact .inl ⟨v, w, .type a, .type b, k, rfl, hc, hK ▸ tyN_ok su r1 ea, hK ▸ h1, Post.here su so (.bl _) q⟩
  · cases e⟩
end
end DL

namespace DL
open PySem PySem.Spec PyProof.Rows L2

def tru? : D → M Bool
  | .non => fun st => .ok false st
  | .bl b => fun st => .ok b st
  | .int i => fun st => .ok (i != 0) st
  | .str x => fun st => if x.length ≤ sizeLine then .ok ((x.length : Int) != 0) st else .bad
  | .lst xs => fun st => .ok (!xs.isEmpty) st
  | .rol xs => fun st => .ok (!xs.isEmpty) st
  | .tup xs => fun st => .ok (!xs.isEmpty) st
  | _ => fun _ => .bad
def mTru (ma : ME) : MT := fun env st => (ma env st).bind tru?
theorem reps_empty {G : Glb} {ad : List Addr} {S : Hp} {vs : List V} {ds : List D} (r : Reps G ad S vs ds) : vs.isEmpty = ds.isEmpty := by cases r <;> rfl
section
variable {G : Glb} {X : Cx} {W : WX} {O : Ow} {pos : Pos}
theorem dt_tru {e : Expr} {m : ME} (hK : X.K = G.K) (h : DE G X W O e m) (he : ∀ whole, isTrue e X.env whole = (do let v ← whole; standAt e.pos; holding [v] (truthy v)) := by intro _; rfl) : DT G X W O e (mTru m) := by
  obtain ⟨t, p, w⟩ := h.ex
  refine ⟨_, pt_truth p he, fun b S env st σ H Q I h => w b S env st σ H _ I (wpR_imp (wpR_bind h) (fun dx st1 h1 => ?_) fun _ _ z => z)⟩
  intro x S1 H1 x1 su1 so1 r1
  cases r1 with
  | non => exact ⟨_, rfl, h1 _ _ x1 su1 so1⟩
  | bl b => exact ⟨_, rfl, h1 _ _ x1 su1 so1⟩
  | int i => exact ⟨_, rfl, h1 _ _ x1 su1 so1⟩
  | str z =>
    have e0 : tru? (.str z) st1 = if z.length ≤ sizeLine then Res.ok ((z.length : Int) != 0) st1 else .bad := rfl
    rw [e0] at h1
    by_cases hz : z.length ≤ sizeLine
    · rw [if_pos hz] at h1
      exact ⟨_, ⟨hz, rfl⟩, h1 _ _ x1 su1 so1⟩
    · rw [if_neg hz] at h1; exact h1.elim
  | tup h r => exact ⟨_, .inr (.inl ⟨_, hK ▸ Same.sqT su1 h.sqT, rfl⟩), by rw [reps_empty r]; exact h1 _ _ x1 su1 so1⟩
  | lst h r => exact ⟨_, .inl ⟨_, SqL.of (su1 _ _ h), rfl⟩, by rw [reps_empty r]; exact h1 _ _ x1 su1 so1⟩
  | rol h r => exact ⟨_, .inl ⟨_, hK ▸ su1.seq h, rfl⟩, by rw [reps_empty r]; exact h1 _ _ x1 su1 so1⟩
  | _ => exact h1.elim

def ixS (x y : D) : M D := fun st => match x with
  | .tok n => match st[n]?, y with
    | some (.lst ds), .int i => ret? (atI ds i) st
    | _, _ => .bad
  | _ => ret? (dIx x y) st
theorem ixS_other {x y : D} {st : List D} (hn : ∀ n, x ≠ .tok n) : ixS x y st = ret? (dIx x y) st := by
  unfold ixS
  cases x <;> first | rfl | exact absurd rfl (hn _)
theorem ixS_tok {n : Nat} {i : Int} {st ds : List D} (h : st[n]? = some (.lst ds)) : ixS (.tok n) (.int i) st = ret? (atI ds i) st := by
  show (match st[n]?, D.int i with | some (.lst ds), .int i => ret? (atI ds i) st | _, _ => .bad) = _
  rw [h]
/-- o[i], o a cell or any other -/
def mIx (ma mb : ME) : ME := fun env st => (ma env st).bind fun x st1 => (mb env st1).bind fun y => ixS x y
theorem de_get {a b : Expr} {ma mb : ME} (hK : X.K = G.K) (ha : DE G X W O a ma) (hb : DE G X W O b mb) (hs : PlainIx b := by intro _ _; rfl) : DE G X W O (.Subscript a b pos) (mIx ma mb) := by
  obtain ⟨ta, tb, pa, pb, w⟩ := two_parts (k := ixS) ha hb
  refine ⟨_, pe_ix ix_seq pa pb hs, fun b S env st σ H Q I h => w b S env st σ H _ (fun x y H2 => rIx X.K x y H2 Q) I h fun x y dx dy S' H' st' e I' rx ry hk => ?_⟩
  by_cases ht : ∃ n, dx = .tok n
  · obtain ⟨n, rfl⟩ := ht
    cases rx with
    | tok ha =>
      rename_i a
      obtain ⟨h1, dc, h2, hc⟩ := I'.sto.at_ n a ha
      cases ry with
      | int i =>
        have hl : ∃ ds, dc = .lst ds := by
          unfold ixS at hk
          dsimp only at hk
          rw [h2] at hk
          cases dc <;> first | exact ⟨_, rfl⟩ | exact hk.elim
        obtain ⟨ds, rfl⟩ := hl
        obtain ⟨vs, h3, h4⟩ := hc.asL
        rw [ixS_tok h2] at hk
        obtain ⟨d, e1, q⟩ := wp_ret hk
        obtain ⟨v, e2, r2⟩ := atI_rep h4 e1
        exact .inl ⟨_, _, _, _, rfl, rfl, SqL.of h3, e2, Post.here I'.sub I'.sto r2 (Post.from_ e I'.sto q)⟩
      | _ =>
        unfold ixS at hk
        dsimp only at hk
        rw [h2] at hk
        cases dc <;> exact hk.elim
  · rw [ixS_other fun n z => ht ⟨n, z⟩] at hk
    obtain ⟨d, e1, q⟩ := wp_ret hk
    exact (opd_ix hK).go b.ad S' H' st' x y dx dy d Q I'.sub I'.sto rx ry e1 (Post.from_ e I'.sto q)
theorem nodup_inj {α : Type} {l : List α} {i j : Nat} (nd : l.Nodup) (hi : i < l.length) (hj : j < l.length) (e : l[i] = l[j]) : i = j := (List.getElem_inj nd).mp e
theorem StoOk.put {ad : List Addr} {S H : Hp} {st : List D} {n j : Nat} {a : Addr} {ds : List D} {vs : List V} {v : V} {d : D} (so : StoOk G ad S st H) (ha : ad[n]? = some a) (hd : st[n]? = some (.lst ds)) (hv : H a = some (.lst vs)) (r : Rep G ad S v d) : StoOk G ad S (st.set n (.lst (ds.set j d))) (upd H a (.lst (vs.set j v))) := by
  refine ⟨by rw [List.length_set]; exact so.len, so.nd, fun m c hc => ?_, so.tab.keep fun b u h n => by rw [upd_ne (fun z => by rw [z, hv] at h; cases h; exact n.lst)]; exact h⟩
  obtain ⟨h1, dc, h2, h3⟩ := so.at_ m c hc
  by_cases hm : m = n
  · subst hm
    have e1 : a = c := Option.some.inj (ha.symm.trans hc)
    subst e1
    rw [hd] at h2; cases h2
    obtain ⟨ws, h3, h4⟩ := h3.asL
    rw [hv] at h3; cases h3
    have hl : m < st.length := (List.getElem?_eq_some_iff.mp hd).1
    exact ⟨h1, _, List.getElem?_set_self hl, .lst upd_same (h4.set j r)⟩
  · have hne : c ≠ a := fun z => hm (by
      subst z
      have i1 := (List.getElem?_eq_some_iff.mp hc)
      have i2 := (List.getElem?_eq_some_iff.mp ha)
      exact nodup_inj so.nd i1.1 i2.1 (i1.2.trans i2.2.symm))
    refine ⟨h1, dc, ?_, h3.on fun b o hb hh => ?_⟩
    · rw [List.getElem?_set_ne (Ne.symm hm)]; exact h2
    · have : b ≠ a := fun z => by
        rcases hb with e | ⟨x, rfl⟩
        · exact hne (e.symm.trans z)
        · rw [z, hv] at hh; cases hh
      rw [upd_ne this]; exact hh
/-- cell[k] = e -/
def mPut (i : Nat) (k : Int) (m : ME) : MS := mDo m fun d env st => match env[i]? with
  | some (some (.tok n)) => match st[n]? with
    | some (.lst ds) => match ixN ds.length k with
      | some j => .nx env (st.set n (.lst (ds.set j d)))
      | none => .bad
    | _ => .bad
  | _ => .bad
theorem ds_put {Ob : Ow} {OE : Ow → Prop} (i : Nat) {x : Str} {k : Int} {j} {p1 p2 p3 : Pos} {e : Expr} {me : ME} (he : DE G X W O e me) (hO : OE O := by first | trivial | rfl) (hN : X.N[i]? = some x := by rfl) (ho : O.has i = false := by rfl)
    (hv : Vis X.env.scope x := by first | exact Or.inl rfl | exact Or.inr (Or.inl rfl) | exact Or.inr (Or.inr rfl)) (hd : (x == ("__debug__" : Str)) = false := by decide) (hcd : (x == ("__classdict__" : Str)) = false := by decide)
    (ha : ∀ v, assign (.Subscript (.Name x p1) (.Constant (.int k) j p2) p3) X.env v = (do
      let ov ← holding [v] (eval (.Name x p1) X.env)
      let iv ← holding [v, ov] (eval (.Constant (.int k) j p2) X.env)
      standAt p3
      holding [v, ov, iv] (setItem ov iv v)
      release [v, ov, iv] []) := by intro _; rfl)
    (hs : swapsWithSole [.Subscript (.Name x p1) (.Constant (.int k) j p2) p3] e pos.line X.env = pure false := by rfl) (hw : swappedStores [.Subscript (.Name x p1) (.Constant (.int k) j p2) p3] e X.env = pure none := by rfl)
    (h1 : (assignEach [.Subscript (.Name x p1) (.Constant (.int k) j p2) p3] X.env).map (·.2) = [assign (.Subscript (.Name x p1) (.Constant (.int k) j p2) p3) X.env] := by rfl) :
    DS G X W Ob OE O (.Assign [.Subscript (.Name x p1) (.Constant (.int k) j p2) p3] e pos) O (mPut i k me) := by
  obtain ⟨t, p, w⟩ := he.ex
  refine ⟨_, ps_asg p (pg_sub (pe_var hN hv hd hcd) pe_int set_list ha) hs hw h1, fun b S env st σ H D I h => do_part hO w I h fun v d S' H' st' I' r q => ?_⟩
  cases e1 : env[i]? with
  | none => rw [e1] at q; exact q.elim
  | some o =>
    rw [e1] at q
    cases o with
    | none => exact q.elim
    | some d0 =>
      obtain ⟨v0, hv0, r0⟩ := I'.slot i d0 e1 ho
      cases r0 with
      | tok ha0 =>
        rename_i a n
        obtain ⟨g1, dc, g2, gc⟩ := I'.sto.at_ n a ha0
        dsimp only at q
        rw [g2] at q
        have hl : ∃ ds, dc = .lst ds := by
          cases dc <;> first | exact ⟨_, rfl⟩ | exact q.elim
        obtain ⟨ds, rfl⟩ := hl
        obtain ⟨vs, g3, g4⟩ := gc.asL
        dsimp only at q
        cases e2 : ixN ds.length k with
        | none => rw [e2] at q; exact q.elim
        | some jj =>
          rw [e2] at q
          refine ⟨_, hv0, a, vs, k, jj, rfl, rfl, g3, by rw [g4.len]; exact e2, ?_⟩
          have so2 := StoOk.put (j := jj) I'.sto ha0 g2 g3 r
          refine q S' σ _ (.refl _) ⟨I'.len, fun c o hc => ?_, I'.s0, I'.new, fun c o hc hna => ?_, I'.slot, fun m d' hm hd' => ?_, I'.dist, so2, I'.exc, fun m hm => ?_⟩
          · rw [upd_ne fun z => by subst z; rw [g1] at hc; cases hc]; exact I'.sub _ _ hc
          · exact (I'.keep c o hc hna).map fun o' h' => by rw [upd_ne fun z => hna (by subst z; exact List.mem_iff_getElem?.mpr ⟨n, ha0⟩)]; exact h'
          · obtain ⟨c, ws, es, q1, q2, q3, q4, q5, q6, q7⟩ := I'.own m d' hm hd'
            refine ⟨c, ws, es, q1, q2, ?_, q4, q5, q6, q7⟩
            rw [upd_ne fun z => q6 (by subst z; exact List.mem_iff_getElem?.mpr ⟨n, ha0⟩)]; exact q3
          · obtain ⟨c, ws, es, q1, q2, q3, q4, q5, q6, q7, q8, q9, q10, q11⟩ := I'.self_ m hm
            have na : a ∈ b.ad := List.mem_iff_getElem?.mpr ⟨n, ha0⟩
            exact ⟨c, ws, es, q1, q2, (upd_ne (show O.slv.1 ≠ a from fun z => q9 (z ▸ na))).trans q3, (upd_ne (show O.slv.2 ≠ a from fun z => q10 (z ▸ na))).trans q4, q5, q6, q7, q8, q9, q10, q11⟩
      | _ => exact q.elim
end

abbrev W0 : WX := fun _ _ _ _ => False
/-- a reading weakened -/
theorem PSs.imp {X : Cx} {st : List Stmt} {t t' : TS} (h : PSs X st t) (hi : ∀ D σ H, t' D σ H → t D σ H) : PSs X st t' := ⟨fun pins s σ H D I q => h.run pins s σ H D I (hi _ _ _ q)⟩
theorem DI.unexc {G : Glb} {b : Act} {own : List Nat} {i : Nat} {exv : Addr × Value × Option Addr} {S H : Hp} {env : Env'} {st : List D} {σ : L2.St} (I : DI G b ⟨own, some i, exv, none, (0, 0)⟩ S env st σ H) (hi : own.elem i = false) (v : Addr × Value × Option Addr) : DI G b ⟨own, none, v, none, (0, 0)⟩ S (env.set i none) st (σ.set i none) H := by
  have hne : ∀ {j : Nat}, j ∈ own → j ≠ i := fun {j} hj z => by
    subst z
    rw [List.elem_eq_true_of_mem hj] at hi; cases hi
  have other : ∀ {j : Nat} {d' : D}, (env.set i none)[j]? = some (some d') → j ≠ i ∧ env[j]? = some (some d') := fun {j d'} h => by
    by_cases hj : j = i
    · subst hj
      by_cases hl : j < env.length
      · rw [List.getElem?_set_self hl] at h; cases h
      · rw [List.getElem?_eq_none_iff.mpr (by rw [List.length_set]; exact Nat.le_of_not_lt hl)] at h; cases h
    · rw [List.getElem?_set_ne (Ne.symm hj)] at h; exact ⟨hj, h⟩
  refine ⟨by rw [List.length_set, List.length_set]; exact I.len, I.sub, I.s0, I.new, I.keep, fun j d' h ho => ?_, fun j d' hj h => ?_, fun j k a hj hk e1 e2 q1 q2 => ?_, I.sto, fun j d' hj => (by cases hj), fun j hj => (by cases hj)⟩
  · obtain ⟨hn, h⟩ := other h
    have ho' : (Ow.mk own (some i) exv none (0, 0)).has j = false := by
      unfold Ow.has at ho ⊢
      have h1 : own.elem j = false := by
        cases e : own.elem j with
        | false => rfl
        | true => rw [show (Ow.mk own none v none (0, 0)).own.elem j = true from e] at ho; cases ho
      have h2 : ((Ow.mk own (some i) exv none (0, 0)).exi == some j) = false := by
        simpa using (Ne.symm hn)
      rw [show (Ow.mk own (some i) exv none (0, 0)).own.elem j = false from h1, h2]; rfl
    obtain ⟨w, q1, q2⟩ := I.slot j d' h ho'
    exact ⟨w, by rw [List.getElem?_set_ne (Ne.symm hn)]; exact q1, q2⟩
  · obtain ⟨hn, h⟩ := other h
    obtain ⟨a, vs, ds, q1, q2, q3⟩ := I.own j d' hj h
    exact ⟨a, vs, ds, q1, by rw [List.getElem?_set_ne (Ne.symm hn)]; exact q2, q3⟩
  · obtain ⟨d1, e1⟩ := e1
    obtain ⟨d2, e2⟩ := e2
    obtain ⟨hn1, e1⟩ := other e1
    obtain ⟨hn2, e2⟩ := other e2
    rw [List.getElem?_set_ne (Ne.symm hn1)] at q1
    rw [List.getElem?_set_ne (Ne.symm hn2)] at q2
    exact I.dist j k a hj hk ⟨d1, e1⟩ ⟨d2, e2⟩ q1 q2
theorem DI.toexc {G : Glb} {b : Act} {own : List Nat} {v : Addr × Value × Option Addr} {i : Nat} {a : Addr} {cls : Value} {dd : Option Addr} {x : Ex} {S H : Hp} {env : Env'} {st : List D} {σ : L2.St} (I : DI G b ⟨own, none, v, none, (0, 0)⟩ S env st σ H) (hi : own.elem i = false) (r : RepX G b.ad S cls dd x) : DI G b ⟨own, some i, (a, cls, dd), none, (0, 0)⟩ S (env.set i (some (exObj x))) st (σ.set i (some (.ref a))) H := by
  have hne : ∀ {j : Nat}, j ∈ own → j ≠ i := fun {j} hj z => by
    subst z
    rw [List.elem_eq_true_of_mem hj] at hi; cases hi
  have other : ∀ {j : Nat} {d' : D}, j ≠ i → (env.set i (some (exObj x)))[j]? = some (some d') → env[j]? = some (some d') := fun {j d'} hj h => by
    rw [List.getElem?_set_ne (Ne.symm hj)] at h; exact h
  refine ⟨by rw [List.length_set, List.length_set]; exact I.len, I.sub, I.s0, I.new, I.keep, fun j d' h ho => ?_, fun j d' hj h => ?_, fun j k a' hj hk e1 e2 q1 q2 => ?_, I.sto, fun j d' hj h => ?_, fun j hj => (by cases hj)⟩
  · have hn : j ≠ i := fun z => by
      subst z
      unfold Ow.has at ho
      simp at ho
    have ho' : (Ow.mk own none v none (0, 0)).has j = false := by
      unfold Ow.has at ho ⊢
      have h1 : own.elem j = false := by
        cases e : own.elem j with
        | false => rfl
        | true => rw [show (Ow.mk own (some i) (a, cls, dd) none (0, 0)).own.elem j = true from e] at ho; cases ho
      rw [show (Ow.mk own none v none (0, 0)).own.elem j = false from h1]; rfl
    obtain ⟨w, q1, q2⟩ := I.slot j d' (other hn h) ho'
    exact ⟨w, by rw [List.getElem?_set_ne (Ne.symm hn)]; exact q1, q2⟩
  · obtain ⟨a', vs, ds, q1, q2, q3⟩ := I.own j d' hj (other (hne hj) h)
    exact ⟨a', vs, ds, q1, by rw [List.getElem?_set_ne (Ne.symm (hne hj))]; exact q2, q3⟩
  · rw [List.getElem?_set_ne (Ne.symm (hne hj))] at q1
    rw [List.getElem?_set_ne (Ne.symm (hne hk))] at q2
    obtain ⟨d1, e1⟩ := e1
    obtain ⟨d2, e2⟩ := e2
    exact I.dist j k a' hj hk ⟨d1, other (hne hj) e1⟩ ⟨d2, other (hne hk) e2⟩ q1 q2
  · cases hj
    by_cases hl : i < env.length
    · rw [List.getElem?_set_self hl] at h
      have e : exObj x = d' := by simpa using h
      exact ⟨x, e.symm, by rw [List.getElem?_set_self (by rw [I.len]; exact hl)], r⟩
    · rw [List.getElem?_eq_none_iff.mpr (by rw [List.length_set]; exact Nat.le_of_not_lt hl)] at h; cases h

/-- behind a suite: slot i forgotten, no error -/
def unX (i : Nat) : Out → Out
  | .nx env st => .nx (env.set i none) st
  | .rt d st => .rt d st
  | .bk env st => .bk (env.set i none) st
  | .ct env st => .ct (env.set i none) st
  | .er _ _ _ => .bad
  | .bad => .bad
def mTryAs (cl : Nat → Option Bool) (i : Nat) (m ms : MS) : MS := fun env st => match m env st with
  | .er x env1 st1 => match cl x.c with
    | some true => unX i (ms (env1.set i (some (exObj x))) st1)
    | some false => .er x env1 st1
    | none => .bad
  | o => o
section
variable {G : Glb} {X : Cx} {W : WX} {OE : Ow → Prop} {pos pos' np : Pos} {k : Nat}
theorem XC.tr (xc : XC k G X W) {W' : WX} {pn : List (Addr × Obj)} {xe : Value → Shared → Prop} (tk : L2N.Takes (X.tr pn xe) W') (po : PassesOwn (model X.prog X.w) X.A X.env xe) : XC k G (X.tr pn xe) W' := ⟨tk, po, xc.calm, xc.hr, xc.K⟩
theorem XT.tr (t : XT X) (pn : List (Addr × Obj)) (xe : Value → Shared → Prop) : XT (X.tr pn xe) := ⟨t.stk, t.fr⟩
theorem ds_try_as {own ob : List Nat} {body suite : List Stmt} {b₀ : Stmt} {x n : Str} {cv : Value} {m ms : MS} (i : Nat) (cl : Nat → Option Bool) (xc : XC k G X W) (xt : XT X) (hN : X.N.Nodup) (hc : Names X x cv) (hcl : ∀ c b, cl c = some b → PySem.W.exmOne G.K (.ref (G.cl c)) cv = some b)
    (hb : ∀ (W' : WX) (pn : List (Addr × Obj)) (xe : Value → Shared → Prop), XC k G (X.tr pn xe) W' → XT (X.tr pn xe) → DSs G (X.tr pn xe) W' ⟨ob, none, (0, .none, none), none, (0, 0)⟩ (· = ⟨own, none, (0, .none, none), none, (0, 0)⟩) ⟨own, none, (0, .none, none), none, (0, 0)⟩ body ⟨own, none, (0, .none, none), none, (0, 0)⟩ m)
    (hsu : ∀ (a : Addr) (oe : Obj) (cls : Value) (d : Option Addr) (pn : List (Addr × Obj)), L2N.Zn cls d oe → (∃ vs, oe.data = .fields vs) → DSs G (X.suite a ((a, oe) :: pn)) W0 ⟨ob, some i, (a, cls, d), none, (0, 0)⟩ (fun _ => True) ⟨own, some i, (a, cls, d), none, (0, 0)⟩ (b₀ :: suite) ⟨own, some i, (a, cls, d), none, (0, 0)⟩ ms)
    (hO : OE ⟨own, none, (0, .none, none), none, (0, 0)⟩ := by first | trivial | rfl) (hi : X.N[i]? = some n := by rfl) (hln : X.env.kindOf n = some .local := by rfl) (hio : own.elem i = false := by rfl) (hib : ob.elem i = false := by rfl) :
    DS G X W ⟨ob, none, (0, .none, none), none, (0, 0)⟩ OE ⟨own, none, (0, .none, none), none, (0, 0)⟩ (.Try body [.ExceptHandler (some (.Name x np)) (some n) (b₀ :: suite) pos'] [] [] pos) ⟨own, none, (0, .none, none), none, (0, 0)⟩ (mTryAs cl i m ms) := by
  refine ⟨_, L2N.ps_try_as (i := i) (Wout := W)
    (tb := fun W' D σ H => ∃ b S env st, DI G b ⟨own, none, (0, .none, none), none, (0, 0)⟩ S env st σ H ∧ PostS G b ⟨ob, none, (0, .none, none), none, (0, 0)⟩ (· = ⟨own, none, (0, .none, none), none, (0, 0)⟩) W' ⟨own, none, (0, .none, none), none, (0, 0)⟩ D S (m env st))
    (ts := fun a cls d D σ H => ∃ b S env st, DI G b ⟨own, some i, (a, cls, d), none, (0, 0)⟩ S env st σ H ∧ PostS G b ⟨ob, some i, (a, cls, d), none, (0, 0)⟩ (fun _ => True) W0 ⟨own, some i, (a, cls, d), none, (0, 0)⟩ D S (ms env st))
    xt.stk xt.fr hN hi hln hc xc.tk (fun W' pn xe tk po => ?_) (fun a oe cls d pn hz hf => ?_), fun b S env st σ H D I h => ?_⟩
  · obtain ⟨t, p, w⟩ := (hb W' pn xe (xc.tr tk po) (xt.tr pn xe)).ex
    exact PSs.imp p fun D σ H ⟨b, S, env, st, I, q⟩ => w b S env st σ H D I q
  · obtain ⟨t, p, w⟩ := (hsu a oe cls d pn hz hf).ex
    exact PSs.imp p fun D σ H ⟨b, S, env, st, I, q⟩ => w b S env st σ H D I q
  · refine ⟨b, S, env, st, I, ?_⟩
    unfold mTryAs at h
    cases e : m env st with
    | nx env1 st1 => rw [e] at h; exact h
    | rt d st1 => rw [e] at h; exact h
    | bk env1 st1 => rw [e] at h; exact h
    | ct env1 st1 => rw [e] at h; exact h
    | bad => rw [e] at h; exact h
    | er x env1 st1 =>
      rw [e] at h
      dsimp only at h
      intro cls dd O' S1 σ1 H1 hO' e1 I1 rx
      subst hO'
      cases ec : cl x.c with
      | none => rw [ec] at h; exact h.elim
      | some bb =>
        rw [ec] at h
        refine ⟨bb, by rw [xc.K, rx.1]; exact hcl _ _ ec, fun hbb a ha => ?_, fun hbb => ?_⟩
        · subst hbb
          dsimp only at h
          refine ⟨b, S1, _, st1, I1.toexc hio rx, ?_⟩
          cases es : ms (env1.set i (some (exObj x))) st1 with
          | nx env2 st2 =>
            rw [es] at h
            exact fun S2 σ2 H2 e2 I2 => h S2 _ H2 (e1.trans e2) (I2.unexc hio _)
          | rt d st2 => rw [es] at h; exact h
          | bk env2 st2 =>
            rw [es] at h
            exact fun S2 σ2 H2 e2 I2 => h S2 _ H2 (e1.trans e2) (I2.unexc hib _)
          | ct env2 st2 =>
            rw [es] at h
            exact fun S2 σ2 H2 e2 I2 => h S2 _ H2 (e1.trans e2) (I2.unexc hib _)
          | er x2 env2 st2 => rw [es] at h; exact h.elim
          | bad => rw [es] at h; exact h.elim
        · subst hbb
          exact h cls dd _ S1 σ1 H1 hO e1 I1 rx
end
def clsV (G : Glb) : D → Option Value
  | .cls c => some (.ref (G.cl c))
  | .ty n => some (.type n)
  | _ => none
end DL

namespace DL
open PySem PySem.Spec PyProof.Rows L2

section
variable {G : Glb} {X : Cx} {W : WX} {pos : Pos} {k : Nat}
theorem cls_rel {ad : List Addr} {S : Hp} {v : V} {d : D} {cv : Value} (r : Rep G ad S v d) (h : clsV G d = some cv) : ∀ u, RelV v u → u = cv := by
  intro u ru
  cases r <;> cases h
  · exact ru
  · exact ru
end

theorem XC.blk (xc : XC k G X W) {s : Shared} {H : Hp} {scope : Scope} {cenv : Env} {fp : List Addr} : XC k G (X.blk s H scope cenv fp) W0 := ⟨takes0N, PassesOwn.never, xc.calm, xc.hr, xc.K⟩
/-- no error may fly -/
def noEr {α : Type} (r : Res α) : Res α := match r with
  | .err _ _ => .bad
  | r => r
def wipeE (env : Env') : List Nat → Env'
  | [] => env
  | v :: vs => (wipeE env vs).set v none
theorem DI.wipe {b : Act} {O : Ow} {S H : Hp} {env : Env'} {st : List D} {σ : L2.St} (I : DI G b O S env st σ H) : ∀ {vs : List Nat}, (∀ v ∈ vs, O.has v = false) → DI G b O S (wipeE env vs) st (wipe σ vs) H
  | [], _ => I
  | v :: vs, h => (DI.wipe I fun u hu => h u (List.mem_cons_of_mem _ hu)).forget (h v List.mem_cons_self)
theorem wipe_stay {σ σ' : L2.St} {ix vs : List Nat} (h : Stay ix (wipe σ vs) σ') (hs : ∀ i ∈ ix, i ∈ vs) : wipe σ' vs = wipe σ vs := by
  have wl : ∀ (τ : L2.St) (vs : List Nat) (j : Nat), (wipe τ vs)[j]? = if j ∈ vs then (if j < τ.length then some none else none) else τ[j]? := by
    intro τ vs j
    induction vs with
    | nil => simp [wipe]
    | cons v vs ih =>
      unfold wipe
      by_cases hj : j = v
      · subst hj
        rw [if_pos List.mem_cons_self]
        by_cases hl : j < τ.length
        · rw [List.getElem?_set_self (by rw [wipe_length]; exact hl), if_pos hl]
        · rw [if_neg hl]
          exact List.getElem?_eq_none_iff.mpr (by rw [List.length_set, wipe_length]; exact Nat.le_of_not_lt hl)
      · rw [List.getElem?_set_ne (Ne.symm hj), ih]
        by_cases hm : j ∈ vs
        · rw [if_pos hm, if_pos (List.mem_cons_of_mem _ hm)]
        · rw [if_neg hm, if_neg (fun z => (List.mem_cons.mp z).elim hj hm)]
  have hl : σ'.length = σ.length := by rw [h.1, wipe_length]
  refine List.ext_getElem? fun j => ?_
  rw [wl, wl, hl]
  by_cases hm : j ∈ vs
  · rw [if_pos hm, if_pos hm]
  · rw [if_neg hm, if_neg hm, h.2 j fun z => hm (hs j z), wl, if_neg hm]
/-- the items that a comprehension makes -/
def lcD (env : Env') (g : MG) (mt : MT) (me : ME) : List D → M (List D)
  | [] => fun st => .ok [] st
  | d :: ds => fun st => match g d env with
    | none => .bad
    | some env1 => (noEr (mt env1 st)).bind fun k st1 =>
      if k = true then (noEr (me env1 st1)).bind fun y st2 => (lcD env g mt me ds st2).bind fun ys st3 => .ok (y :: ys) st3
      else lcD env g mt me ds st1
theorem lcD_noEr {env : Env'} {g : MG} {mt : MT} {me : ME} : ∀ (ds : List D) (st : List D) (x : Ex) (st' : List D), lcD env g mt me ds st ≠ .err x st' := by
  intro ds
  induction ds with
  | nil => intro st x st' h; cases h
  | cons d ds ih =>
    intro st x st' h
    unfold lcD at h
    split at h
    · cases h
    · rename_i env1 _
      cases e1 : mt env1 st with
      | err _ _ => rw [e1] at h; cases h
      | bad => rw [e1] at h; cases h
      | ok k st1 =>
        rw [e1] at h
        have h : (if k = true then (noEr (me env1 st1)).bind fun y st2 => (lcD env g mt me ds st2).bind fun ys st3 => .ok (y :: ys) st3 else lcD env g mt me ds st1) = .err x st' := h
        split at h
        · cases e2 : me env1 st1 with
          | err _ _ => rw [e2] at h; cases h
          | bad => rw [e2] at h; cases h
          | ok y st2 =>
            rw [e2] at h
            have h : ((lcD env g mt me ds st2).bind fun ys st3 => Res.ok (y :: ys) st3) = .err x st' := h
            cases e3 : lcD env g mt me ds st2 with
            | err x3 s3 => exact ih _ _ _ e3
            | bad => rw [e3] at h; cases h
            | ok ys s3 => rw [e3] at h; cases h
        · exact ih _ _ _ h
def mYes : MT := fun _ st => .ok true st
/-- [elt for target in .. if ..]; vs: the comprehension's own slots -/
def mLC (mi : MA) (vs : List Nat) (g : MG) (mt : MT) (me : ME) : ME := fun env st => (mi env st).bind fun ds st1 => (lcD (wipeE env vs) g mt me ds st1).bind lstOk
structure DTs (G : Glb) (X : Cx) (W : WX) (O : Ow) (es : List Expr) (m : MT) : Prop where
  ex : ∃ t, PTs X es t ∧ ∀ (b : Act) S env st σ H Q, DI G b O S env st σ H → wpR (m env st) (fun k st' => PostB G b.ad S H k st' Q) (fun x st' => PostX G b.ad S H x st' fun c dd H' => W c dd σ H') → t σ H Q
theorem dts_nil {O : Ow} : DTs G X W O [] mYes := ⟨_, pts_nil, fun b S env st σ H Q I h => h _ _ (.refl _ _ _) I.sub I.sto⟩
/-- canonical readings -/
def cE (G : Glb) (W : WX) (O : Ow) (m : ME) : TE := fun σ H Q => ∃ (b : Act) (S : Hp) (env : Env') (st : List DL.D), DI G b O S env st σ H ∧ wpR (m env st) (fun d st' => Post G b.ad S H d st' Q) (fun x st' => PostX G b.ad S H x st' fun c dd H' => W c dd σ H')
def cT (G : Glb) (W : WX) (O : Ow) (m : MT) : TT := fun σ H Q => ∃ (b : Act) (S : Hp) (env : Env') (st : List DL.D), DI G b O S env st σ H ∧ wpR (m env st) (fun k st' => PostB G b.ad S H k st' Q) (fun x st' => PostX G b.ad S H x st' fun c dd H' => W c dd σ H')
def cG (G : Glb) (O : Ow) (ix : List Nat) (g : MG) : TG := fun v σ H Q => ∃ (b : Act) (S : Hp) (env : Env') (env' : Env') (st : List DL.D) (d : DL.D), DI G b O S env st σ H ∧ Rep G b.ad S v d ∧ g d env = some env' ∧ ∀ σ', Stay ix σ σ' → DI G b O S env' st σ' H → Q σ' H
theorem DE.c {O : Ow} {e : Expr} {m : ME} (h : DE G X W O e m) : PE X e (cE G W O m) := by
  obtain ⟨t, p, w⟩ := h.ex
  exact ⟨fun pins s σ H Q I ⟨b, S, env, st, J, q⟩ => p.run pins s σ H Q I (w b S env st σ H Q J q)⟩
theorem DTs.c {O : Ow} {e : List Expr} {m : MT} (h : DTs G X W O e m) : PTs X e (cT G W O m) := by
  obtain ⟨t, p, w⟩ := h.ex
  exact ⟨fun pins s σ H Q I ⟨b, S, env, st, J, q⟩ => p.run pins s σ H Q I (w b S env st σ H Q J q)⟩
theorem DG.c {O : Ow} {ix : List Nat} {e : Expr} {g : MG} (h : DG G X O ix e g) : PG X e (cG G O ix g) := by
  obtain ⟨t, p, w⟩ := h.ex
  exact ⟨fun pins s σ H v u Q I r ⟨b, S, env, env', st, d, J, rd, e, q⟩ => p.run pins s σ H v u Q I r (w b S env env' st σ H v d Q J rd e q)⟩
/-- the walk of a comprehension -/
theorem lc_go {O : Ow} {vs ix : List Nat} {g : MG} {mt : MT} {me : ME} {b : Act} {S1 H1 : Hp} {st1 : List D} {σ : L2.St} {env : Env'} {J : It} {ds : List D} {Q : VK} {D : Addr} (hv : ∀ v ∈ vs, O.has v = false) (hix : ∀ i ∈ ix, i ∈ vs) (I : DI G b O S1 env st1 σ H1) (it : IterOK G b.ad S1 J ds) (hD : H1 D = none)
    {ys : List DL.D} {st' : List DL.D} (hr : lcD (wipeE env vs) g mt me ds st1 = .ok ys st') (hl : ys.length ≤ sizeLine) (q : Post G b.ad S1 H1 (.lst ys) st' Q) :
    ∃ Wv : Nat → Nat → Hp → Prop, (∃ m, Wv 0 m (upd H1 D (.lst []))) ∧ ∀ i m H, Wv i m H →
      (J.stop i H ∧ Q (.ref D) H) ∨ (J.go i H ∧ ∃ Nx : Hp → Prop, (∀ H', Nx H' → ∃ m', m' < m ∧ Wv (i + 1) m' H') ∧ ∀ x H', J.yld i H x H' → cG G O ix g x (wipe σ vs) H' fun σ2 H2 => wipe σ2 vs = wipe σ vs ∧ cT G W0 O mt σ2 H2 fun b H3 =>
        if b = true then cE G W0 O me σ2 H3 fun y H4 => ∃ acc, H4 D = some (.lst acc) ∧ acc.length < sizeLine ∧ Nx (upd H4 D (.lst (acc ++ [y]))) else Nx H3) := by
  have hDad : D ∉ b.ad := fun z => by
    obtain ⟨_, ws, hw⟩ := I.sto.has z
    rw [hD] at hw; cases hw
  -- what stands at a turn's begin
  refine ⟨fun i m H => m = ds.length - i ∧ i ≤ ds.length ∧ ∃ S2 st2 acc es rest, Ext b.ad S1 H1 S2 H ∧ Same S2 H ∧ StoOk G b.ad S2 st2 H ∧ S2 D = none ∧ H D = some (.lst acc) ∧ Reps G b.ad S2 acc es ∧ lcD (wipeE env vs) g mt me (ds.drop i) st2 = .ok rest st' ∧ ys = es ++ rest, ⟨ds.length, ?_⟩, ?_⟩
  · have so := I.sto
    have hS : S1 D = none := I.sub.free hD
    refine ⟨by simp, Nat.zero_le _, S1, st1, [], [], ys, ⟨.refl _, fun _ _ z => .inl z, fun c o hc _ => .refl (by rw [upd_ne (ne_of_none hc hD)]; exact hc)⟩, fun c o hc => by rw [upd_ne (ne_of_none hc hS)]; exact I.sub _ _ hc,
      ⟨so.len, so.nd, fun n a ha => ?_, so.tab.keep fun b u h _ => by rw [upd_ne (ne_of_none h hD)]; exact h⟩, hS, upd_same, .nil, by simpa using hr, by simp⟩
    obtain ⟨g1, dc, g2, g3⟩ := so.at_ n a ha
    exact ⟨g1, dc, g2, g3.fresh hD⟩
  · rintro i m H ⟨rfl, hi, S2, st2, acc, es, rest, x2, su2, so2, hS2, hacc, racc, hr2, hys⟩
    by_cases hlt : i < ds.length
    · right
      obtain ⟨go, yl⟩ := (it i S2 H x2.same su2).2 _ (List.getElem?_eq_getElem hlt)
      refine ⟨go, fun H' => ∃ S3 st3 acc3 es3 rest3, Ext b.ad S1 H1 S3 H' ∧ Same S3 H' ∧ StoOk G b.ad S3 st3 H' ∧ S3 D = none ∧ H' D = some (.lst acc3) ∧ Reps G b.ad S3 acc3 es3 ∧ lcD (wipeE env vs) g mt me (ds.drop (i + 1)) st3 = .ok rest3 st' ∧ ys = es3 ++ rest3, fun H' z => ⟨ds.length - (i + 1), by omega, rfl, hlt, z⟩, fun x H' y => ?_⟩
      obtain ⟨S3, x3, su3, so3, r3⟩ := yl x H' y
      have so3' := so3 _ so2
      have I3 : DI G b O S3 (wipeE env vs) st2 (wipe σ vs) H' := DI.ext (DI.wipe (DI.ext I x2 su2 so2) hv) x3 su3 so3'
      have hD3 : H' D = some (.lst acc) := (x3.keep D _ hacc hDad).lst
      have hS3 : S3 D = none := by
        cases e : S3 D with
        | none => rfl
        | some o =>
          rcases x3.new D o e with z | z
          · rw [hS2] at z; cases z
          · rw [hacc] at z; cases z
      have x3' := x2.trans so2 x3
      rw [List.drop_eq_getElem_cons hlt] at hr2
      unfold lcD at hr2
      cases eg : g ds[i] (wipeE env vs) with
      | none => rw [eg] at hr2; cases hr2
      | some env1 =>
        rw [eg] at hr2
        refine ⟨b, S3, _, env1, st2, ds[i], I3, r3, eg, fun σ2 hs2 I4 => ⟨wipe_stay hs2 hix, b, S3, env1, st2, I4, ?_⟩⟩
        dsimp only at hr2
        cases et : mt env1 st2 with
        | err x st => rw [et] at hr2; cases hr2
        | bad => rw [et] at hr2; cases hr2
        | ok kk st4 =>
          rw [et] at hr2
          have hr2 : (if kk = true then (noEr (me env1 st4)).bind fun y st2 => (lcD (wipeE env vs) g mt me (ds.drop (i + 1)) st2).bind fun ys st3 => Res.ok (y :: ys) st3 else lcD (wipeE env vs) g mt me (ds.drop (i + 1)) st4) = .ok rest st' := hr2
          intro S5 H5 x5 su5 so5
          have hD5 : H5 D = some (.lst acc) := (x5.keep D _ hD3 hDad).lst
          have hS5 : S5 D = none := by
            cases e : S5 D with
            | none => rfl
            | some o =>
              rcases x5.new D o e with z | z
              · rw [hS3] at z; cases z
              · rw [hD3] at z; cases z
          have x5' := x3'.trans so3' x5
          cases kk with
          | false =>
            rw [if_neg Bool.false_ne_true] at hr2 ⊢
            exact ⟨S5, st4, acc, es, rest, x5', su5, so5, hS5, hD5, (racc.mono x3.same).mono x5.same, hr2, hys⟩
          | true =>
            rw [if_pos rfl] at hr2 ⊢
            refine ⟨b, S5, env1, st4, I4.ext x5 su5 so5, ?_⟩
            cases em : me env1 st4 with
            | err x st => rw [em] at hr2; cases hr2
            | bad => rw [em] at hr2; cases hr2
            | ok y0 st6 =>
              rw [em] at hr2
              have hr2 : ((lcD (wipeE env vs) g mt me (ds.drop (i + 1)) st6).bind fun ys st3 => Res.ok (y0 :: ys) st3) = .ok rest st' := hr2
              cases e6 : lcD (wipeE env vs) g mt me (ds.drop (i + 1)) st6 with
              | err x st => rw [e6] at hr2; cases hr2
              | bad => rw [e6] at hr2; cases hr2
              | ok ys6 st7 =>
                rw [e6] at hr2
                have e7 : rest = y0 :: ys6 ∧ st7 = st' := by
                  have z : Res.ok (y0 :: ys6) st7 = .ok rest st' := hr2
                  cases z; exact ⟨rfl, rfl⟩
                obtain ⟨e7, e8⟩ := e7
                subst e8
                intro v S6 H6 x6 su6 so6 r6
                have hD6 : H6 D = some (.lst acc) := (x6.keep D _ hD5 hDad).lst
                have hS6 : S6 D = none := by
                  cases e : S6 D with
                  | none => rfl
                  | some o =>
                    rcases x6.new D o e with z | z
                    · rw [hS5] at z; cases z
                    · rw [hD5] at z; cases z
                have x6' := x5'.trans so5 x6
                have racc6 := ((racc.mono x3.same).mono x5.same).mono x6.same
                have hlen : acc.length < sizeLine := by
                  have e9 : ys.length = es.length + (ys6.length + 1) := by rw [hys, e7, List.length_append, List.length_cons]
                  rw [racc6.len]; omega
                refine ⟨acc, hD6, hlen, S6, st6, acc ++ [v], es ++ [y0], ys6, ⟨x6'.same, x6'.new, fun c o hc hca => ?_⟩, fun c o hc => ?_, ⟨so6.len, so6.nd, fun n a ha => ?_, so6.tab.keep fun b u h n => by rw [upd_ne (fun z => by rw [z, hD6] at h; cases h; exact n.lst)]; exact h⟩, hS6, upd_same, racc6.append (.cons r6 .nil), e6, by rw [hys, e7]; simp⟩
                · exact (x6'.keep c o hc hca).map fun o' h' => by rw [upd_ne (ne_of_none hc hD)]; exact h'
                · rw [upd_ne (ne_of_none hc hS6)]; exact su6 _ _ hc
                · obtain ⟨g1, dc, g2, g3⟩ := so6.at_ n a ha
                  exact ⟨g1, dc, g2, g3.updL hD6 fun z => hDad (by subst z; exact List.mem_iff_getElem?.mpr ⟨n, ha⟩)⟩
    · left
      have hi' : i = ds.length := Nat.le_antisymm hi (Nat.le_of_not_lt hlt)
      refine ⟨(it i S2 H x2.same su2).1 hi', ?_⟩
      rw [hi', List.drop_length] at hr2
      have e1 : rest = [] ∧ st2 = st' := by
        have z : Res.ok ([] : List DL.D) st2 = .ok rest st' := hr2
        cases z; exact ⟨rfl, rfl⟩
      obtain ⟨rfl, rfl⟩ := e1
      rw [List.append_nil] at hys
      subst hys
      -- the list is still from now on
      have key : Same S2 (upd S2 D (.lst acc)) := fun c o hc => by rw [upd_ne (ne_of_none hc hS2)]; exact hc
      refine q (.ref D) (upd S2 D (.lst acc)) H ⟨x2.same.trans key, fun c o hc => ?_, x2.keep⟩ (fun c o hc => ?_) ⟨so2.len, so2.nd, fun n a ha => ?_, so2.tab.known fun a ⟨_, hh⟩ ha => by rw [upd_ne (fun z => by rw [z, hacc] at hh; cases hh)]; exact ha⟩ (.lst upd_same (racc.mono key))
      · by_cases hcD : c = D
        · subst hcD; exact .inr hD
        · rw [upd_ne hcD] at hc; exact x2.new c o hc
      · by_cases hcD : c = D
        · subst hcD; rw [upd_same] at hc; cases hc; exact hacc
        · rw [upd_ne hcD] at hc; exact su2 _ _ hc
      · obtain ⟨g1, dc, g2, g3⟩ := so2.at_ n a ha
        exact ⟨by rw [upd_ne fun z => hDad (by subst z; exact List.mem_iff_getElem?.mpr ⟨n, ha⟩)]; exact g1, dc, g2, g3.mono key⟩
section
variable {G : Glb} {X : Cx} {W : WX} {pos : Pos} {k : Nat} {O : Ow}
theorem de_lc {elt tg iter : Expr} {ifs : List Expr} {scope : Scope} {own : List (Str × Nat)} {ix : List Nat} {mi : MA} {g : MG} {mt : MT} {me : ME} (xc : XC k G X W) (hN : X.N.Nodup) (hi : DIt G X W O tg iter mi) (ok : BlkOk X.N X.env.scope scope own)
    (hg : ∀ (s : Shared) (H : Hp) (C : Addr) (cl : List (Str × Addr)) (fp : List Addr), DG G (X.blk s H scope (compEnvC scope cl C X.env) fp) O ix tg g)
    (ht : ∀ (s : Shared) (H : Hp) (C : Addr) (cl : List (Str × Addr)) (fp : List Addr), XC k G (X.blk s H scope (compEnvC scope cl C X.env) fp) W0 → DTs G (X.blk s H scope (compEnvC scope cl C X.env) fp) W0 O ifs mt)
    (he : ∀ (s : Shared) (H : Hp) (C : Addr) (cl : List (Str × Addr)) (fp : List Addr), XC k G (X.blk s H scope (compEnvC scope cl C X.env) fp) W0 → DE G (X.blk s H scope (compEnvC scope cl C X.env) fp) W0 O elt me)
    (hv : ∀ v ∈ own.map (·.2), O.has v = false := by intro v hv; revert v; decide) (hix : ∀ i ∈ ix, i ∈ own.map (·.2) := by decide) (hs : ∀ x, foldedSetIterable iter X.env x = pure x := by intro _; rfl) :
    DE G X W O (.ListComp elt [⟨tg, iter, ifs, 0⟩] scope pos) (mLC mi (own.map (·.2)) g mt me) := by
  obtain ⟨wi, pi, wwi⟩ := hi.ex
  refine ⟨_, pe_lc xc.calm hN pi ok (fun s H C cl fp => (hg s H C cl fp).c) (fun s H C cl fp => (ht s H C cl fp xc.blk).c) (fun s H C cl fp => (he s H C cl fp xc.blk).c) hs, fun b S env st σ H Q I h => wwi b S env st σ H _ I (wpR_imp (wpR_bind h) (fun ds st1 h1 => ?_) fun _ _ z => z)⟩
  intro J S1 H1 x1 su1 so1 it D hD
  cases er : lcD (wipeE env (own.map (·.2))) g mt me ds st1 with
  | err x st2 => exact absurd er (lcD_noEr _ _ _ _)
  | bad => rw [er] at h1; exact h1.elim
  | ok ys st2 =>
    rw [er] at h1
    have h1 : wpR (lstOk ys st2) (fun d st' => Post G b.ad S H d st' Q) (fun x st' => PostX G b.ad S H x st' fun c dd H' => W c dd σ H') := h1
    unfold lstOk at h1
    split at h1
    · rename_i hl
      exact lc_go hv hix (I.ext x1 su1 so1) it hD er hl (Post.from_ x1 so1 h1)
    · exact h1.elim
/-- y = [..] -/
theorem ds_setLc {Ob : Ow} {OE : Ow → Prop} {y : Str} {py spos : Pos} {elt tg iter : Expr} {ifs : List Expr} {scope : Scope} {own : List (Str × Nat)} {ix : List Nat} {mi : MA} {g : MG} {mt : MT} {me : ME} (i : Nat) (xc : XC k G X W) (hN : X.N.Nodup) (hi : DIt G X W O tg iter mi) (ok : BlkOk X.N X.env.scope scope own)
    (hsw : swapsWith (.ListComp elt [⟨tg, iter, ifs, 0⟩] scope pos) (some (.Name y py)) spos.line X.env = pure true)
    (hg : ∀ (s : Shared) (H : Hp) (C : Addr) (cl : List (Str × Addr)) (fp : List Addr), DG G (X.blk s H scope (compEnvC scope cl C X.env) fp) O ix tg g)
    (ht : ∀ (s : Shared) (H : Hp) (C : Addr) (cl : List (Str × Addr)) (fp : List Addr), XC k G (X.blk s H scope (compEnvC scope cl C X.env) fp) W0 → DTs G (X.blk s H scope (compEnvC scope cl C X.env) fp) W0 O ifs mt)
    (he : ∀ (s : Shared) (H : Hp) (C : Addr) (cl : List (Str × Addr)) (fp : List Addr), XC k G (X.blk s H scope (compEnvC scope cl C X.env) fp) W0 → DE G (X.blk s H scope (compEnvC scope cl C X.env) fp) W0 O elt me)
    (hO : OE O := by first | trivial | rfl) (hy : X.N[i]? = some y := by rfl) (hyl : X.env.scope.names.lookup y = some .local := by rfl) (ho : O.has i = false := by rfl)
    (hv : ∀ v ∈ own.map (·.2), O.has v = false := by intro v hv; revert v; decide) (hix : ∀ i ∈ ix, i ∈ own.map (·.2) := by decide) (hs : ∀ x, foldedSetIterable iter X.env x = pure x := by intro _; rfl) :
    DS G X W Ob OE O (.Assign [.Name y py] (.ListComp elt [⟨tg, iter, ifs, 0⟩] scope pos) spos) O (mSet i (mLC mi (own.map (·.2)) g mt me)) := by
  obtain ⟨wi, pi, wwi⟩ := hi.ex
  refine ⟨_, ps_setLc (i := i) xc.calm hN hy hyl hsw pi ok (fun s H C cl fp => (hg s H C cl fp).c) (fun s H C cl fp => (ht s H C cl fp xc.blk).c) (fun s H C cl fp => (he s H C cl fp xc.blk).c) hs, fun b S env st σ H D I h => ?_⟩
  refine do_part (me := mLC mi (own.map (·.2)) g mt me) (t := tLc wi (cG G O ix g) (cT G W0 O mt) (cE G W0 O me) (own.map (·.2))) hO (fun b S env st σ H Q I h => wwi b S env st σ H _ I (wpR_imp (wpR_bind h) (fun ds st1 h1 => ?_) fun _ _ z => z)) I h fun v d S' H' st' I' r q => q _ _ _ (.refl _) (I'.set r ho)
  intro J S1 H1 x1 su1 so1 it D hD
  cases er : lcD (wipeE env (own.map (·.2))) g mt me ds st1 with
  | err x st2 => exact absurd er (lcD_noEr _ _ _ _)
  | bad => rw [er] at h1; exact h1.elim
  | ok ys st2 =>
    rw [er] at h1
    have h1 : wpR (lstOk ys st2) (fun d st' => Post G b.ad S H d st' Q) (fun x st' => PostX G b.ad S H x st' fun c dd H' => W c dd σ H') := h1
    unfold lstOk at h1
    split at h1
    · rename_i hl
      exact lc_go hv hix (I.ext x1 su1 so1) it hD er hl (Post.from_ x1 so1 h1)
    · exact h1.elim

/-- what the script is made to -/
def handD (cells : List Int) (at_ rest total : Int) : D := .lst [.lst (cells.map .int), .int at_, .int rest, .int total]
def spLaw (K : PySem.W.Frag) : Sp := fun vs H Q _ => ∃ (a : Addr) (ns : List Int), vs = [.ref a] ∧ SqL K H a (ns.map V.int) ∧ ns.length ≤ 63 ∧ Only H ∧ ∀ H', Q (.bl true) H'
theorem reps_ints {ad : List Addr} {S : Hp} : ∀ ns : List Int, Reps G ad S (ns.map V.int) (ns.map D.int)
  | [] => .nil
  | n :: ns => .cons (.int n) (reps_ints ns)
theorem ints_of {ad : List Addr} {S : Hp} : ∀ {vs : List V} {ns : List Int}, Reps G ad S vs (ns.map D.int) → vs = ns.map V.int
  | _, [], .nil => rfl
  | _, n :: ns, .cons h r => by
    cases h
    rw [List.map_cons, ints_of r]
end
section
variable {P : Program} {w : World} {K : PySem.W.Frag} {mg : Str → Option Value} {base : Heap}
end
end DL

namespace DL
open PySem PySem.Spec PyProof.Rows L2
/-- a def as it stands behind the top -/
structure DefOk (K : PySem.W.Frag) (mg : Str → Option Value) (x : Str) (st : Stmt) (ps : List Str) (f : Addr) (fd : FuncData) : Prop where
  F : Fun K x x st f fd
  g : mg x = some (.ref f)
  b : Binds K fd ps []
theorem DefOk.kp {K : PySem.W.Frag} {mg : Str → Option Value} {x : Str} {st : Stmt} {ps : List Str} {f : Addr} {fd : FuncData} (d : DefOk K mg x st ps f fd) : PySem.W.keepIn K (.ref f) = true := d.F.kp
theorem DefOk.mk' {K : PySem.W.Frag} {mg : Str → Option Value} {x : Str} {st : Stmt} {ps : List Str} {f : Addr} {fd : FuncData} (F : Fun K x x st f fd) (g : mg x = some (.ref f)) (b : Binds K fd ps []) : DefOk K mg x st ps f fd := ⟨F, g, b⟩
/-- what isinstance wants of an own error class -/
def excB (K : PySem.W.Frag) (D : Addr) : Bool :=
  decide (PySem.W.findIn K (.ref D) "__getattribute__" = some (some (.builtin "BaseException.__getattribute__"))) && (decide (PySem.W.findIn K (.ref D) "__getattr__" = some none) && (decide (PySem.W.subIn K (.ref D) (.type "BaseException") = some true) && (PySem.W.hasDictIn K D &&
    (decide (PySem.W.findIn K (.ref D) "__class__" = some (some (.builtin "object.__class__"))) && (decide (PySem.W.specialIn K (.builtin "object.__class__") "__get__" = some (some (.builtin "getset_descriptor.__get__"))) && (decide (PySem.W.takesIn K (.builtin "object.__class__") = some true) && decide (PySem.W.mroIn K D (.type "object") = some true)))))))
theorem excB_ok {K : PySem.W.Frag} {D : Addr} (h : excB K D = true) : ExcC K D := by
  unfold excB at h
  simp only [Bool.and_eq_true, decide_eq_true_eq] at h
  obtain ⟨h1, h2, h3, h4, h5, h6, h7, h8⟩ := h
  exact ⟨h1, h2, h3, h4, h5, h6, h7, h8⟩
theorem suK {G : Glb} {X : Cx} (h : X.K = G.K) {a : Addr} {pn : List (Addr × Obj)} : (X.suite a pn).K = G.K := h
theorem suU {k : Nat} {G : Glb} {X : Cx} {W : WX} (c : XC k G X W) {a : Addr} {pn : List (Addr × Obj)} : (X.suite a pn).A.units + 64 < cLine := c.hr.units
section
variable {G : Glb} {X : Cx} {W : WX} {O : Ow} {pos : Pos}
end
end DL

namespace DL
open PySem PySem.Spec PyProof.Rows L2
theorem bind_ok {α β : Type} (a : α) (st : List D) (f : α → M β) : (Res.ok a st).bind f = f a st := rfl
theorem bind_err {α β : Type} (x : Ex) (st : List D) (f : α → M β) : (Res.err x st : Res α).bind f = .err x st := rfl
def mkEnv : Nat → List D → Env'
  | 0, _ => []
  | n + 1, [] => none :: mkEnv n []
  | n + 1, d :: ds => some d :: mkEnv n ds
theorem mkEnv_eq : ∀ (n : Nat) (ds : List D), ds.length ≤ n → mkEnv n ds = ds.map some ++ List.replicate (n - ds.length) none
  | 0, [], _ => rfl
  | 0, _ :: _, h => by simp at h
  | n + 1, [], _ => by
    have := mkEnv_eq n [] (Nat.zero_le _)
    simp [mkEnv, this, List.replicate_succ]
  | n + 1, d :: ds, h => by
    have := mkEnv_eq n ds (Nat.le_of_succ_le_succ h)
    simp [mkEnv, this]
/-- how a body's end is a call's -/
def outR : Out → Res D
  | .nx _ st1 => .ok .non st1
  | .rt d st1 => .ok d st1
  | .er x _ st1 => .err x st1
  | _ => .bad
theorem fnM_eq {n : Nat} {m : MS} {ds : List D} {st : List D} (h : ds.length ≤ n) : fnM n m ds st = outR (m (mkEnv n ds) st) := by
  rw [mkEnv_eq n ds h]
  unfold fnM outR
  cases m (ds.map some ++ List.replicate (n - ds.length) none) st <;> rfl
def get? (env : Env') (i : Nat) : Option D := match env, i with
  | [], _ => none
  | o :: _, 0 => o
  | _ :: r, i + 1 => get? r i
theorem mVar_eq (i : Nat) (env : Env') (st : List D) : mVar i env st = ret? (get? env i) st := by
  unfold mVar ret?
  induction env generalizing i with
  | nil => rfl
  | cons o r ih =>
    cases i with
    | zero => cases o <;> rfl
    | succ i => exact ih i
/-- the rules of reckoning -/
theorem ev1 :
    (∀ (n : Nat) (m : MS) (st : List D), fnM n m [] st = outR (m (mkEnv n []) st)) ∧
    (∀ (n : Nat) (m : MS) (a : D) (st : List D), fnM (n + 1) m [a] st = outR (m (mkEnv (n + 1) [a]) st)) ∧
    (∀ (n : Nat) (m : MS) (a b : D) (st : List D), fnM (n + 2) m [a, b] st = outR (m (mkEnv (n + 2) [a, b]) st)) ∧
    (∀ (n : Nat) (m : MS) (a b c : D) (st : List D), fnM (n + 3) m [a, b, c] st = outR (m (mkEnv (n + 3) [a, b, c]) st)) ∧
    (∀ (n : Nat) (m : MS) (a b c d : D) (st : List D), fnM (n + 4) m [a, b, c, d] st = outR (m (mkEnv (n + 4) [a, b, c, d]) st)) ∧
    (∀ (e : Env') (st : List D), outR (.nx e st) = .ok .non st) ∧ (∀ (d : D) (st : List D), outR (.rt d st) = .ok d st) ∧ (∀ (x : Ex) (e : Env') (st : List D), outR (.er x e st) = .err x st) :=
  ⟨fun n m st => fnM_eq (Nat.zero_le _), fun n m a st => fnM_eq (Nat.le_add_left 1 n), fun n m a b st => fnM_eq (Nat.le_add_left 2 n), fun n m a b c st => fnM_eq (Nat.le_add_left 3 n), fun n m a b c d st => fnM_eq (Nat.le_add_left 4 n),
    fun _ _ => rfl, fun _ _ => rfl, fun _ _ _ => rfl⟩
theorem ev2 :
    (∀ (i : Nat) (env : Env') (st : List D), mVar i env st = ret? (get? env i) st) ∧
    (∀ (d : D) (st : List D), ret? (some d) st = .ok d st) ∧
    (∀ (d : D) (env : Env') (st : List D), mC d env st = .ok d st) ∧
    (∀ (f : D → D → Option D) (ma mb : ME) (env : Env') (st : List D), mOp f ma mb env st = (ma env st).bind fun x st1 => (mb env st1).bind fun y => ret? (f x y)) ∧
    (∀ (f : D → Option D) (ma : ME) (env : Env') (st : List D), mUn f ma env st = (ma env st).bind fun x => ret? (f x)) ∧
    (∀ (env : Env') (st : List D), mNil env st = .ok [] st) ∧
    (∀ (ma : ME) (mr : MA) (env : Env') (st : List D), mCons ma mr env st = (ma env st).bind fun x st1 => (mr env st1).bind fun xs st2 => .ok (x :: xs) st2) ∧
    (∀ (f : List D → Option D) (ma : MA) (env : Env') (st : List D), mCall1 f ma env st = (ma env st).bind fun xs => ret? (f xs)) ∧
    (∀ (f : List D → M D) (ma : MA) (env : Env') (st : List D), mCall f ma env st = (ma env st).bind f) ∧
    (∀ (ma : ME) (env : Env') (st : List D), mTest ma env st = (ma env st).bind bool?) ∧
    (∀ (ma : ME) (env : Env') (st : List D), mTru ma env st = (ma env st).bind tru?) ∧
    (∀ (t : MT) (env : Env') (st : List D), mNot t env st = (t env st).bind fun k st1 => .ok (!k) st1) ∧
    (∀ (t u : MT) (env : Env') (st : List D), mAnd t u env st = (t env st).bind fun k st1 => if k = true then u env st1 else .ok false st1) ∧
    (∀ (t u : MT) (env : Env') (st : List D), mOr t u env st = (t env st).bind fun k st1 => if k = true then .ok true st1 else u env st1) ∧
    (∀ (ma : ME) (env : Env') (st : List D), mNotV ma env st = (ma env st).bind fun x st1 => (bool? x st1).bind fun k st2 => .ok (.bl (!k)) st2) ∧
    (∀ (ma mb : ME) (env : Env') (st : List D), mAndV ma mb env st = (ma env st).bind fun x st1 => (bool? x st1).bind fun k st2 => if k = true then mb env st2 else .ok (.bl false) st2) ∧
    (∀ (ma mb : ME) (env : Env') (st : List D), mOrV ma mb env st = (ma env st).bind fun x st1 => (bool? x st1).bind fun k st2 => if k = true then .ok (.bl true) st2 else mb env st2) ∧
    (∀ (t : MT) (ma mb : ME) (env : Env') (st : List D), mIf t ma mb env st = (t env st).bind fun k st1 => if k = true then ma env st1 else mb env st1) ∧
    (∀ (ma : MA) (env : Env') (st : List D), mTup ma env st = (ma env st).bind tupOk) ∧
    (∀ (ma : MA) (env : Env') (st : List D), mLst ma env st = (ma env st).bind lstOk) ∧
    (∀ (ma mb : ME) (env : Env') (st : List D), mIx ma mb env st = (ma env st).bind fun x st1 => (mb env st1).bind fun y => ixS x y) ∧
    (∀ (b : Bool) (st : List D), bool? (.bl b) st = .ok b st) ∧ (∀ (b : Bool) (st : List D), tru? (.bl b) st = .ok b st) ∧ (∀ (i : Int) (st : List D), tru? (.int i) st = .ok (i != 0) st) ∧
    (∀ (ds : List D) (st : List D), tru? (.lst ds) st = .ok (!ds.isEmpty) st) ∧ (∀ (ds : List D) (st : List D), tru? (.tup ds) st = .ok (!ds.isEmpty) st) :=
  ⟨mVar_eq, fun _ _ => rfl, fun _ _ _ => rfl, fun _ _ _ _ _ => rfl, fun _ _ _ _ => rfl, fun _ _ => rfl, fun _ _ _ _ => rfl, fun _ _ _ _ => rfl, fun _ _ _ _ => rfl, fun _ _ _ => rfl, fun _ _ _ => rfl, fun _ _ _ => rfl, fun _ _ _ _ => rfl, fun _ _ _ _ => rfl, fun _ _ _ => rfl,
    fun _ _ _ _ => rfl, fun _ _ _ _ => rfl, fun _ _ _ _ _ => rfl, fun _ _ _ => rfl, fun _ _ _ => rfl, fun _ _ _ _ => rfl, fun _ _ => rfl, fun _ _ => rfl, fun _ _ => rfl, fun _ _ => rfl, fun _ _ => rfl⟩
theorem ev3 :
    (∀ (m n : MS) (env : Env') (st : List D), mSeq m n env st = match m env st with
      | .nx env1 st1 => n env1 st1
      | o => o) ∧
    (∀ (env : Env') (st : List D), mNx env st = .nx env st) ∧ (∀ (env : Env') (st : List D), mBrk env st = .bk env st) ∧ (∀ (env : Env') (st : List D), mCnt env st = .ct env st) ∧
    (∀ (m : ME) (env : Env') (st : List D), mRet m env st = match m env st with
      | .ok d st1 => .rt d st1
      | .err x st1 => .er x env st1
      | .bad => .bad) ∧
    (∀ (i : Nat) (m : ME) (env : Env') (st : List D), mSet i m env st = match m env st with
      | .ok d st1 => .nx (env.set i (some d)) st1
      | .err x st1 => .er x env st1
      | .bad => .bad) ∧
    (∀ (env : Env') (st : List D), mRetN env st = .rt .non st) ∧
    (∀ (m : ME) (env : Env') (st : List D), mDrop m env st = match m env st with
      | .ok d st1 => .nx env st1
      | .err x st1 => .er x env st1
      | .bad => .bad) ∧
    (∀ (t : MT) (m n : MS) (env : Env') (st : List D), mIfS t m n env st = match t env st with
      | .ok k st1 => if k = true then m env st1 else n env st1
      | .err x st1 => .er x env st1
      | .bad => .bad) ∧
    (∀ (m : ME) (g : MG) (env : Env') (st : List D), mAsg m g env st = match m env st with
      | .ok d st1 => (match g d env with
        | some env1 => .nx env1 st1
        | none => .bad)
      | .err x st1 => .er x env st1
      | .bad => .bad) ∧
    (∀ (i j : Nat) (ma : MA) (env : Env') (st : List D), mPar i j ma env st = match ma env st with
      | .ok [d, e] st1 => .nx ((env.set i (some d)).set j (some e)) st1
      | .err x st1 => .er x env st1
      | _ => .bad) ∧
    (∀ (i : Nat) (d : D) (env : Env'), gNm i d env = some (env.set i (some d))) ∧ (∀ (env : Env'), gsNil [] env = some env) ∧
    (∀ (g : MG) (r : List D → Env' → Option Env') (d : D) (ds : List D) (env : Env'), gsCons g r (d :: ds) env = (g d env).bind (r ds)) ∧
    (∀ (r : List D → Env' → Option Env') (ds : List D) (env : Env'), gTp r (.tup ds) env = r ds env) ∧
    (∀ (c : Nat) (env : Env') (st : List D), mRaise0 c env st = .er ⟨c, none⟩ env st) ∧
    (∀ (mi : MA) (g : MG) (m : MS) (env : Env') (st : List D), mFor mi g m env st = match mi env st with
      | .ok ds st1 => forD g m ds env st1
      | .err x st1 => .er x env st1
      | .bad => .bad) ∧
    (∀ (m : ME) (env : Env') (st : List D), mItems m env st = (m env st).bind items?) ∧ (∀ (ds : List D) (st : List D), items? (.lst ds) st = .ok ds st) ∧ (∀ (ds : List D) (st : List D), items? (.tup ds) st = .ok ds st) ∧ (∀ (ds : List D) (st : List D), items? (.rol ds) st = .ok ds st) ∧
    (∀ (m : MA) (f : List D → M (List D)) (env : Env') (st : List D), mThenA m f env st = (m env st).bind f) ∧
    (∀ (mi : MA) (vs : List Nat) (g : MG) (mt : MT) (me : ME) (env : Env') (st : List D), mLC mi vs g mt me env st = (mi env st).bind fun ds st1 => (lcD (wipeE env vs) g mt me ds st1).bind lstOk) ∧
    (∀ (env : Env') (st : List D), mYes env st = .ok true st) :=
  ⟨fun _ _ _ _ => rfl, fun _ _ => rfl, fun _ _ => rfl, fun _ _ => rfl, fun _ _ _ => rfl, fun _ _ _ _ => rfl, fun _ _ => rfl, fun _ _ _ => rfl, fun _ _ _ _ _ => rfl, fun _ _ _ _ => rfl, fun _ _ _ _ _ => rfl, fun _ _ _ => rfl, fun _ => rfl, fun _ _ _ _ _ => rfl, fun _ _ _ => rfl, fun _ _ _ => rfl, fun _ _ _ _ _ => rfl,
    fun _ _ _ => rfl, fun _ _ => rfl, fun _ _ => rfl, fun _ _ => rfl, fun _ _ _ _ => rfl, fun _ _ _ _ _ _ _ => rfl, fun _ _ => rfl⟩
theorem ev4 :
    (∀ i j : Int, dAdd (.int i) (.int j) = some (.int (i + j))) ∧ (∀ i j : Int, dSub (.int i) (.int j) = some (.int (i - j))) ∧ (∀ i j : Int, dMul (.int i) (.int j) = if MulOk i j then some (.int (i * j)) else none) ∧
    (∀ i j : Int, dDiv (.int i) (.int j) = if DivOk i j then some (.int (i.fdiv j)) else none) ∧ (∀ i j : Int, dMod (.int i) (.int j) = if j ≠ 0 then some (.int (i.fmod j)) else none) ∧
    (∀ i : Int, dNeg (.int i) = some (.int (-i))) ∧ (∀ i j : Int, dLt (.int i) (.int j) = some (.bl (decide (i < j)))) ∧ (∀ i j : Int, dLe (.int i) (.int j) = some (.bl (decide (i ≤ j)))) ∧
    (∀ i j : Int, dGt (.int i) (.int j) = some (.bl (decide (j < i)))) ∧ (∀ i j : Int, dGe (.int i) (.int j) = some (.bl (decide (j ≤ i)))) ∧
    (∀ i j : Int, dEq (.int i) (.int j) = some (.bl (decide (i = j)))) ∧ (∀ i j : Int, dNe (.int i) (.int j) = some (.bl (!decide (i = j)))) ∧
    (∀ (f : D → Option D) (x : D), c1 f [x] = f x) ∧ (∀ i : Int, dAbs (.int i) = some (.int (if i < 0 then -i else i))) ∧ (∀ i : Int, dInt1 (.int i) = some (.int i)) ∧ (∀ b : Bool, dInt1 (.bl b) = some (.int (if b then 1 else 0))) ∧
    (∀ ds : List D, dLen (.lst ds) = some (.int (ds.length : Nat))) ∧ (∀ ds : List D, dLen (.tup ds) = some (.int (ds.length : Nat))) ∧ (∀ a b : Int, dGcd [.int a, .int b] = some (.int ((Nat.gcd a.natAbs b.natAbs : Nat) : Int))) ∧
    (∀ (xs : List D), dTuple (.lst xs) = some (.tup xs)) ∧ (∀ (xs : List D), dTuple (.tup xs) = some (.tup xs)) ∧ (∀ (xs : List D), dList (.lst xs) = some (.lst xs)) ∧ (∀ (xs : List D), dList (.tup xs) = some (.lst xs)) ∧
    (∀ (x y : D) (st : List D), ixS (.lst [x]) y st = ret? (dIx (.lst [x]) y) st) :=
  ⟨fun _ _ => rfl, fun _ _ => rfl, fun _ _ => rfl, fun _ _ => rfl, fun _ _ => rfl, fun _ => rfl, fun _ _ => rfl, fun _ _ => rfl, fun _ _ => rfl, fun _ _ => rfl, fun i j => congrArg (fun b => some (D.bl b)) (Bool.beq_eq_decide_eq i j), fun i j => congrArg (fun b => some (D.bl (!b))) (Bool.beq_eq_decide_eq i j),
    fun _ _ => rfl, fun _ => rfl, fun _ => rfl, fun _ => rfl, fun _ => rfl, fun _ => rfl, fun _ _ => rfl, fun _ => rfl, fun _ => rfl, fun _ => rfl, fun _ => rfl, fun _ _ _ => rfl⟩
end DL

namespace DL
open PySem PySem.Spec PyProof.Rows L2
theorem walk_ofC {l : PySem.W.OpenLaw} {n k : Nat} {q : Program} {loose : List Str} {XP : (Str → Option Value) → Heap → Prop} {YP : World → Heap → Prop} {d : DefRec} {K : Params → PySem.W.Frag} {x : Str}
    (hn : l.most = some n) (hn2 : n ≤ sizeLine) (hn3 : n ≤ 63) (hdf : d.params.defaults = []) (hr : Room k callerA)
    (hY : ∀ (w : World) (h : Heap), YP w h → (K w.params).In h)
    (F : ∀ (w : World) (mg : Str → Option Value) (fa : Addr) (h : Heap), (K w.params).In h → h.Ns mainGlobals mg → mg d.name = some (.ref fa) →
      ∃ fd : FuncData, (∀ (s : Shared) (u : Value), BindsTo s fd ⟨[u], []⟩ [(x, u)]) ∧
        ∀ base : Heap, (K w.params).In base → base.Ns mainGlobals mg → FnOk l.prog w (K w.params) mg base (L2N.CX l.prog w) k fa fd [x] (spLaw (K w.params))) :
    PySem.W.WalkO q loose XP YP l.row.toRowW d [] (fun f vs => PySem.call f vs) :=
  L2.walk_of (K := K) (CX := fun w => L2N.CX l.prog w) (sp := fun w => spLaw (K w.params)) hn hn2 hdf hr hY F
    (fun w H a ns hl hO hS => ⟨a, ns, rfl, hS, Nat.le_trans hl hn3, hO, fun _ => rfl⟩)
    fun w H s e s' h => by obtain ⟨_, _, _, _, _, _, _, _, _, _, _, _, z⟩ := h; exact z
theorem mulOk_l {i j : Int} (h : i.natAbs < 2 ^ 64) : MulOk i j := .inl h
theorem mulOk_r {i j : Int} (h : j.natAbs < 2 ^ 64) : MulOk i j := .inr (.inl h)
theorem ret_ok (d : D) (st : List D) : ret? (some d) st = .ok d st := rfl
theorem dMod_pos (i j : Int) (h : j ≠ 0) : dMod (.int i) (.int j) = some (.int (i.fmod j)) := if_pos h
theorem fmod_small {i j : Int} (hj : 0 < j) : 0 ≤ i.fmod j ∧ i.fmod j < j := ⟨Int.fmod_nonneg_of_pos i hj, Int.fmod_lt_of_pos i hj⟩
theorem ixN_nat {n j : Nat} (hj : j < n) : ixN n (j : Int) = some j := by
  unfold ixN
  simp only [show ¬ ((j : Int) < 0) by omega, show (j : Int) < n by omega]
  simp
theorem atI_nat {α : Type} {xs : List α} {k : Nat} (h : k < xs.length) : atI xs (k : Int) = some xs[k] := by
  unfold atI
  rw [ixN_nat h]
  simp [h]
theorem hix0 (c : List Int) (a r t : Int) : ixS (.tok 0) (.int 0) [handD c a r t] = .ok (.lst (c.map .int)) [handD c a r t] := rfl
theorem hix1 (c : List Int) (a r t : Int) : ixS (.tok 0) (.int 1) [handD c a r t] = .ok (.int a) [handD c a r t] := rfl
theorem hix2 (c : List Int) (a r t : Int) : ixS (.tok 0) (.int 2) [handD c a r t] = .ok (.int r) [handD c a r t] := rfl
theorem hix3 (c : List Int) (a r t : Int) : ixS (.tok 0) (.int 3) [handD c a r t] = .ok (.int t) [handD c a r t] := rfl
/-- a cell of the store written -/
def putS (n : Nat) (k : Int) (d : D) (env : Env') (st : List D) : Out := match st[n]? with
    | some (D.lst ds) => match ixN ds.length k with
      | some j => .nx env (st.set n (.lst (ds.set j d)))
      | none => .bad
    | _ => .bad
theorem mPut_eq (k : Int) (m : ME) (e : Env') (st : List D) : mPut 0 k m (some (.tok 0) :: e) st = match m (some (.tok 0) :: e) st with
  | .ok d st1 => putS 0 k d (some (.tok 0) :: e) st1
  | .err x st1 => .er x (some (.tok 0) :: e) st1
  | .bad => .bad := rfl
theorem put1 (c : List Int) (a r t x : Int) (e : Env') : putS 0 1 (.int x) e [handD c a r t] = .nx e [handD c x r t] := rfl
theorem put2 (c : List Int) (a r t x : Int) (e : Env') : putS 0 2 (.int x) e [handD c a r t] = .nx e [handD c a x t] := rfl
theorem put3 (c : List Int) (a r t x : Int) (e : Env') : putS 0 3 (.int x) e [handD c a r t] = .nx e [handD c a r x] := rfl
theorem hcell (c : List Int) (k : Nat) (h : k < c.length) (st : List D) : ixS (.lst (c.map .int)) (.int (k : Int)) st = .ok (.int c[k]) st := by
  show ret? (atI (c.map .int) (k : Int)) st = _
  rw [atI_nat (by rw [List.length_map]; exact h)]
  simp [ret?]
structure HandOk (st : List D) : Prop where
  ex : ∃ (cells : List Int) (at_ rest total : Int), st = [handD cells at_ rest total] ∧ 0 ≤ at_ ∧ 0 ≤ rest ∧ ∀ c ∈ cells, 0 ≤ c
theorem excB_mk {K : PySem.W.Frag} {D : Addr} (h1 : PySem.W.findIn K (.ref D) "__getattribute__" = some (some (.builtin "BaseException.__getattribute__"))) (h2 : PySem.W.findIn K (.ref D) "__getattr__" = some none) (h3 : PySem.W.subIn K (.ref D) (.type "BaseException") = some true) (h4 : PySem.W.hasDictIn K D = true)
    (h5 : PySem.W.findIn K (.ref D) "__class__" = some (some (.builtin "object.__class__"))) (h6 : PySem.W.specialIn K (.builtin "object.__class__") "__get__" = some (some (.builtin "getset_descriptor.__get__"))) (h7 : PySem.W.takesIn K (.builtin "object.__class__") = some true) (h8 : PySem.W.mroIn K D (.type "object") = some true) : excB K D = true := by
  unfold excB
  simp only [h1, h2, h3, h4, h5, h6, h7, h8, decide_true, Bool.and_self]
theorem kitO_ref {K : PySem.W.Frag} {t : Value} {D : Addr} (hc : PySem.W.isClsIn K D = true) (ht : PySem.W.typeIn K (.ref D) = some (.type "type")) (hs : PySem.W.subIn K t (.ref D) = some true) : PySem.W.kitOne K t (.ref D) = some true := by
  unfold PySem.W.kitOne PySem.W.kitCls
  have hc' : (PySem.W.clsIn K D).isSome = true := hc
  split
  · rfl
  · simp [hc', ht, hs]
theorem kitO_ty {K : PySem.W.Frag} {C : Addr} {T : String} {b : Bool} (hs : PySem.W.subIn K (.ref C) (.type T) = some b) (hk : PySem.W.kitMeta T = true) : PySem.W.kitOne K (.ref C) (.type T) = some b := by
  unfold PySem.W.kitOne PySem.W.kitCls
  split
  · rename_i e
    have e' : Value.ref C = .type T := by simpa using e
    cases e'
  · simp [hk, hs]
theorem forD_cons (g : MG) (body : MS) (d : D) (ds : List D) (env : Env') (st : List D) : forD g body (d :: ds) env st = match g d env with
    | none => .bad
    | some env1 => match body env1 st with
      | .nx e s => forD g body ds e s
      | .ct e s => forD g body ds e s
      | .bk e s => .nx e s
      | o => o := rfl
theorem mFor_eq (mi : MA) (g : MG) (body : MS) (env : Env') (st : List D) : mFor mi g body env st = match mi env st with
  | .ok ds st1 => forD g body ds env st1
  | .err x st1 => .er x env st1
  | .bad => .bad := rfl
theorem forD_inv {g : MG} {body : MS} (P : Env' → List D → Prop) (Q : D → Prop) (h : ∀ d env st, Q d → P env st → ∃ env1 env2 st2, g d env = some env1 ∧ body env1 st = .nx env2 st2 ∧ P env2 st2) :
    ∀ (ds : List D) (env : Env') (st : List D), (∀ d ∈ ds, Q d) → P env st → ∃ env' st', forD g body ds env st = .nx env' st' ∧ P env' st'
  | [], env, st, _, p => ⟨env, st, rfl, p⟩
  | d :: ds, env, st, hq, p => by
    obtain ⟨e1, e2, s2, a, b, c⟩ := h d env st (hq d List.mem_cons_self) p
    obtain ⟨e3, s3, x, y⟩ := forD_inv P Q h ds e2 s2 (fun q hh => hq q (List.mem_cons_of_mem _ hh)) c
    exact ⟨e3, s3, by rw [forD_cons, a]; simp only [b]; exact x, y⟩
theorem lcD_map {env : Env'} {g : MG} {mt : MT} {me : ME} {st : List D} (f : D → D) : ∀ ds : List D, (∀ d ∈ ds, ∃ env1, g d env = some env1 ∧ mt env1 st = .ok true st ∧ me env1 st = .ok (f d) st) → lcD env g mt me ds st = .ok (ds.map f) st
  | [], _ => rfl
  | d :: ds, h => by
    obtain ⟨e1, a, b, c⟩ := h d List.mem_cons_self
    have ih := lcD_map f ds fun q hh => h q (List.mem_cons_of_mem _ hh)
    unfold lcD
    simp only [a]
    rw [b]
    simp only [noEr, bind_ok, if_pos]
    rw [c]
    simp only [bind_ok]
    rw [ih]
    rfl
theorem numbered_mem {ds : List D} {d : D} (h : d ∈ numbered ds) : ∃ (i : Nat) (x : D), i < ds.length ∧ x ∈ ds ∧ d = .tup [.int (i : Int), x] := by
  unfold numbered at h
  rw [List.mem_mapIdx] at h
  obtain ⟨i, hi, e⟩ := h
  exact ⟨i, ds[i], hi, List.getElem_mem hi, e.symm⟩
theorem atI_0 (a : D) (r : List D) : atI (a :: r) 0 = some a := atI_nat (xs := a :: r) (k := 0) (by simp)
theorem atI_1 (a b : D) (r : List D) : atI (a :: b :: r) 1 = some b := atI_nat (xs := a :: b :: r) (k := 1) (by simp)
theorem atI_2 (a b c : D) (r : List D) : atI (a :: b :: c :: r) 2 = some c := atI_nat (xs := a :: b :: c :: r) (k := 2) (by simp)
theorem atI_3 (a b c d : D) (r : List D) : atI (a :: b :: c :: d :: r) 3 = some d := atI_nat (xs := a :: b :: c :: d :: r) (k := 3) (by simp)
theorem tupOk_of {xs : List D} (h : xs.length ≤ 100) (st : List D) : tupOk xs st = .ok (.tup xs) st := by
  unfold tupOk
  rw [if_pos (Nat.le_trans h (by decide))]
theorem lstOk_of {xs : List D} (h : xs.length ≤ 100) (st : List D) : lstOk xs st = .ok (.lst xs) st := by
  unfold lstOk
  rw [if_pos (Nat.le_trans h (by decide))]
theorem ev5 :
    (∀ (a : D) (r : List D), atI (a :: r) 0 = some a) ∧ (∀ (a b : D) (r : List D), atI (a :: b :: r) 1 = some b) ∧ (∀ (a b c : D) (r : List D), atI (a :: b :: c :: r) 2 = some c) ∧ (∀ (a b c d : D) (r : List D), atI (a :: b :: c :: d :: r) 3 = some d) ∧
    (∀ (xs : List D) (i : Int) (st : List D), ixS (.tup xs) (.int i) st = ret? (atI xs i) st) ∧ (∀ (xs : List D) (i : Int) (st : List D), ixS (.lst xs) (.int i) st = ret? (atI xs i) st) ∧ (∀ (xs : List D) (i : Int) (st : List D), ixS (.rol xs) (.int i) st = ret? (atI xs i) st) ∧
    (∀ st, tupOk [] st = .ok (.tup []) st) ∧ (∀ a st, tupOk [a] st = .ok (.tup [a]) st) ∧ (∀ a b st, tupOk [a, b] st = .ok (.tup [a, b]) st) ∧ (∀ a b c st, tupOk [a, b, c] st = .ok (.tup [a, b, c]) st) ∧ (∀ a b c d st, tupOk [a, b, c, d] st = .ok (.tup [a, b, c, d]) st) ∧
    (∀ st, lstOk [] st = .ok (.lst []) st) ∧ (∀ a st, lstOk [a] st = .ok (.lst [a]) st) ∧ (∀ a b st, lstOk [a, b] st = .ok (.lst [a, b]) st) ∧ (∀ a b c st, lstOk [a, b, c] st = .ok (.lst [a, b, c]) st) ∧ (∀ a b c d st, lstOk [a, b, c, d] st = .ok (.lst [a, b, c, d]) st) :=
  ⟨atI_0, atI_1, atI_2, atI_3, fun _ _ _ => rfl, fun _ _ _ => rfl, fun _ _ _ => rfl, fun st => tupOk_of (by simp) st, fun a st => tupOk_of (by simp) st, fun a b st => tupOk_of (by simp) st, fun a b c st => tupOk_of (by simp) st, fun a b c d st => tupOk_of (by simp) st,
    fun st => lstOk_of (by simp) st, fun a st => lstOk_of (by simp) st, fun a b st => lstOk_of (by simp) st, fun a b c st => lstOk_of (by simp) st, fun a b c d st => lstOk_of (by simp) st⟩
end DL

namespace DL
open PySem PySem.Spec PyProof.Rows L2
def Ow.add (O : Ow) (i : Nat) : Ow := { O with own := i :: O.own }
def Ow.less (O : Ow) (i : Nat) : Ow := { O with own := O.own.filter fun j => !(j == i) }
theorem has_false {O : Ow} {i : Nat} (h : O.has i = false) : i ∉ O.own ∧ O.exi ≠ some i ∧ O.slf ≠ some i := by
  refine ⟨?_, ?_, ?_⟩
  · intro z
    unfold Ow.has at h
    rw [List.elem_eq_true_of_mem z] at h; cases h
  · intro z
    unfold Ow.has at h
    rw [z] at h; simp at h
  · intro z
    unfold Ow.has at h
    rw [z] at h; simp at h
theorem has_mk {O : Ow} {i : Nat} (h1 : i ∉ O.own) (h2 : O.exi ≠ some i) (h3 : O.slf ≠ some i) : O.has i = false := by
  unfold Ow.has
  rw [Bool.or_eq_false_iff, Bool.or_eq_false_iff]
  refine ⟨⟨?_, ?_⟩, ?_⟩
  · cases e : O.own.elem i with
    | false => rfl
    | true => exact absurd (List.mem_of_elem_eq_true e) h1
  · cases e : O.exi with
    | none => rfl
    | some j =>
      rw [e] at h2
      simpa using h2
  · cases e : O.slf with
    | none => rfl
    | some j =>
      rw [e] at h3
      simpa using h3
theorem mem_less {O : Ow} {i j : Nat} : j ∈ (O.less i).own ↔ j ∈ O.own ∧ j ≠ i := by
  unfold Ow.less
  simp [List.mem_filter]
theorem StoOk.grow {G : Glb} {ad : List Addr} {S H H' : Hp} {st : List D} (so : StoOk G ad S st H) (e : ∀ a o, (a ∈ ad ∨ TabO o) → H a = some o → H' a = some o) : StoOk G ad S st H' :=
  ⟨so.len, so.nd, fun n a h => let ⟨h1, dc, h2, h3⟩ := so.at_ n a h; ⟨h1, dc, h2, h3.on fun b o hb hh => e b o (hb.imp (fun (z : b = a) => z ▸ List.mem_of_getElem? h) fun z => .inr (.inr z)) hh⟩, so.tab.keep fun b u h n => e b u (.inr n) h⟩
theorem StoOk.known {G : Glb} {ad : List Addr} {S S' H : Hp} {st : List D} (so : StoOk G ad S st H) (e : Same S S') (n : ∀ a ∈ ad, S' a = none) (t : ∀ a, (∃ ps, H a = some (.tbl ps)) → S a = none → S' a = none) : StoOk G ad S' st H :=
  ⟨so.len, so.nd, fun k a h => let ⟨_, dc, h2, h3⟩ := so.at_ k a h; ⟨n a (List.mem_of_getElem? h), dc, h2, h3.mono e⟩, so.tab.known t⟩
section
variable {G : Glb} {b : Act} {O : Ow} {S H : Hp} {env : Env'} {st : List D} {σ : L2.St}
/-- a slot takes a new list -/
theorem DI.own_new {i : Nat} {l : Addr} {vs : List V} {ds : List D} (I : DI G b O S env st σ H) (hl : H l = none) (r : Reps G b.ad S vs ds) (hi : O.has i = false) : DI G b (O.add i) S (env.set i (some (.lst ds))) st (σ.set i (some (.ref l))) (upd H l (.lst vs)) := by
  obtain ⟨h1, h2, h3⟩ := has_false hi
  have la : l ∉ b.ad := fun z => by
    obtain ⟨_, vs', hv⟩ := I.sto.has z
    rw [hl] at hv; cases hv
  have lS : S l = none := by
    cases e : S l with
    | none => rfl
    | some o => have := I.sub l o e; rw [hl] at this; cases this
  have lb : b.H l = none := by
    cases e : b.H l with
    | none => rfl
    | some o => exact ((I.keep l o e la).no (by assumption)).elim
  have up : ∀ a o, H a = some o → upd H l (.lst vs) a = some o := fun a o h => by
    rw [upd_ne (fun z => by rw [z, hl] at h; cases h)]; exact h
  have other : ∀ {j : Nat} {d' : D}, j ≠ i → (env.set i (some (.lst ds)))[j]? = some (some d') → env[j]? = some (some d') := fun {j d'} hj h => by
    rw [List.getElem?_set_ne (Ne.symm hj)] at h; exact h
  have sl : ∀ {j : Nat}, j ≠ i → (σ.set i (some (V.ref l)))[j]? = σ[j]? := fun {j} hj => List.getElem?_set_ne (Ne.symm hj)
  refine ⟨by rw [List.length_set, List.length_set]; exact I.len, fun a o h => up a o (I.sub a o h), I.s0, I.new, fun a o h ha => (I.keep a o h ha).map fun o' h' => up a o' h', fun j d' h ho => ?_, fun j d' hj h => ?_, fun j k a hj hk e1 e2 q1 q2 => ?_, I.sto.grow fun a o _ h => up a o h, fun j d' hj h => ?_, fun j hj => ?_⟩
  · obtain ⟨g1, g2, g3⟩ := has_false ho
    have hne : j ≠ i := fun z => g1 (z ▸ List.mem_cons_self)
    obtain ⟨w, q1, q2⟩ := I.slot j d' (other hne h) (has_mk (fun z => g1 (List.mem_cons_of_mem _ z)) g2 g3)
    exact ⟨w, by rw [sl hne]; exact q1, q2⟩
  · by_cases hne : j = i
    · subst hne
      by_cases hlen : j < env.length
      · rw [List.getElem?_set_self hlen] at h
        have e : D.lst ds = d' := by simpa using h
        subst e
        exact ⟨l, vs, ds, rfl, by rw [List.getElem?_set_self (by rw [I.len]; exact hlen)], upd_same, lS, lb, la, r⟩
      · rw [List.getElem?_eq_none_iff.mpr (by rw [List.length_set]; exact Nat.le_of_not_lt hlen)] at h; cases h
    · have hj' : j ∈ O.own := by
        rcases List.mem_cons.mp hj with z | z
        · exact absurd z hne
        · exact z
      obtain ⟨a, ws, es, q1, q2, q3, q4⟩ := I.own j d' hj' (other hne h)
      exact ⟨a, ws, es, q1, by rw [sl hne]; exact q2, up a _ q3, q4⟩
  · have key : ∀ {j : Nat} {a : Addr}, j ∈ (O.add i).own → (∃ d : D, (env.set i (some (.lst ds)))[j]? = some (some d)) → (σ.set i (some (V.ref l)))[j]? = some (some (V.ref a)) → (j = i ∧ a = l) ∨ (j ≠ i ∧ j ∈ O.own ∧ (∃ d : D, env[j]? = some (some d)) ∧ σ[j]? = some (some (V.ref a)) ∧ a ≠ l) := fun {j a} hj ⟨d, e⟩ q => by
      by_cases hne : j = i
      · subst hne
        have hlen : j < σ.length := by
          have := (List.getElem?_eq_some_iff.mp q).1
          rwa [List.length_set] at this
        rw [List.getElem?_set_self hlen] at q
        have : V.ref l = .ref a := by simpa using q
        injection this with this
        exact .inl ⟨rfl, this.symm⟩
      · have hj' : j ∈ O.own := by
          rcases List.mem_cons.mp hj with z | z
          · exact absurd z hne
          · exact z
        rw [sl hne] at q
        have e' := other hne e
        obtain ⟨c, ws, es, p1, p2, p3, _⟩ := I.own j d hj' e'
        have : a = c := by
          have := q.symm.trans p2
          simpa using this
        subst this
        exact .inr ⟨hne, hj', ⟨d, e'⟩, q, fun z => by rw [z, hl] at p3; cases p3⟩
    rcases key hj e1 q1 with ⟨x1, y1⟩ | ⟨x1, y1, z1, w1, v1⟩
    · rcases key hk e2 q2 with ⟨x2, _⟩ | ⟨_, _, _, _, v2⟩
      · rw [x1, x2]
      · exact absurd y1 v2
    · rcases key hk e2 q2 with ⟨_, y2⟩ | ⟨_, y2, z2, w2, _⟩
      · exact absurd y2 v1
      · exact I.dist j k a y1 y2 z1 z2 w1 w2
  · have hne : j ≠ i := fun z => h2 (z ▸ hj)
    obtain ⟨y, q1, q2, q3⟩ := I.exc j d' hj (other hne h)
    exact ⟨y, q1, by rw [sl hne]; exact q2, q3⟩
  · have hne : j ≠ i := fun z => h3 (z ▸ hj)
    obtain ⟨c, ws, es, q1, q2, q3, q4, q5⟩ := I.self_ j hj
    exact ⟨c, ws, es, by rw [List.getElem?_set_ne (Ne.symm hne)]; exact q1, by rw [sl hne]; exact q2, up _ _ q3, up _ _ q4, q5⟩
/-- a slot's list gets other items -/
theorem DI.own_upd {i : Nat} {l : Addr} {vs' : List V} {ds' : List D} {d0 : D} (I : DI G b O S env st σ H) (hi : i ∈ O.own) (hx : O.exi ≠ some i) (hsf : O.slf ≠ some i) (he : env[i]? = some (some d0)) (hs : σ[i]? = some (some (.ref l))) (r : Reps G b.ad S vs' ds') :
    DI G b O S (env.set i (some (.lst ds'))) st σ (upd H l (.lst vs')) := by
  obtain ⟨a, ws, es, p1, p2, p3, p4, p5, p6, p7⟩ := I.own i d0 hi he
  have ea : a = l := by
    have := p2.symm.trans hs
    simpa using this
  subst ea
  have other : ∀ {j : Nat} {d' : D}, j ≠ i → (env.set i (some (.lst ds')))[j]? = some (some d') → env[j]? = some (some d') := fun {j d'} hj h => by
    rw [List.getElem?_set_ne (Ne.symm hj)] at h; exact h
  have was : ∀ {j : Nat}, (∃ d : D, (env.set i (some (.lst ds')))[j]? = some (some d)) → ∃ d : D, env[j]? = some (some d) := fun {j} ⟨d, e⟩ => by
    by_cases hj : j = i
    · subst hj; exact ⟨_, he⟩
    · exact ⟨d, other hj e⟩
  have up : ∀ c o, c ≠ a → H c = some o → upd H a (.lst vs') c = some o := fun c o hc h => by rw [upd_ne hc]; exact h
  refine ⟨by rw [List.length_set]; exact I.len, fun c o h => up c o (fun z => by rw [z, p4] at h; cases h) (I.sub c o h), I.s0, I.new, fun c o h hc => (I.keep c o h hc).map fun o' h' => up c o' (fun z => by rw [z, p5] at h; cases h) h', fun j d' h ho => ?_, fun j d' hj h => ?_, fun j k c hj hk e1 e2 q1 q2 => I.dist j k c hj hk (was e1) (was e2) q1 q2, I.sto.grow fun c o hc h => up c o (fun z => hc.elim (fun w => p6 (z ▸ w)) fun n => by rw [z, p3] at h; cases h; exact n.lst) h, fun j d' hj h => ?_, fun j hj => ?_⟩
  · obtain ⟨g1, _⟩ := has_false ho
    exact I.slot j d' (other (fun z => g1 (z ▸ hi)) h) ho
  · by_cases hne : j = i
    · subst hne
      have hlen := (List.getElem?_eq_some_iff.mp he).1
      rw [List.getElem?_set_self hlen] at h
      have e : D.lst ds' = d' := by simpa using h
      subst e
      exact ⟨a, vs', ds', rfl, p2, upd_same, p4, p5, p6, r⟩
    · obtain ⟨c, ws', es', q1, q2, q3, q4⟩ := I.own j d' hj (other hne h)
      refine ⟨c, ws', es', q1, q2, up c _ (fun z => hne ?_) q3, q4⟩
      subst z
      exact I.dist j i c hj hi ⟨_, other hne h⟩ ⟨_, he⟩ q2 p2
  · exact I.exc j d' hj (other (fun z => hx (z ▸ hj)) h)
  · have hne : j ≠ i := fun z => hsf (z ▸ hj)
    obtain ⟨c, ws', es', q1, q2, q3, q4, q5⟩ := I.self_ j hj
    exact ⟨c, ws', es', by rw [List.getElem?_set_ne (Ne.symm hne)]; exact q1, q2, up _ _ (fun z => by rw [z, p3] at q3; cases q3) q3, up _ _ (fun z => by rw [z, p3] at q4; cases q4) q4, q5⟩
/-- a slot's list is given away: from here on nobody changes it -/
theorem DI.freeze (I : DI G b O S env st σ H) (i : Nat) (hx : O.exi ≠ some i) : ∃ S', Same S S' ∧ DI G b (O.less i) S' env st σ H := by
  have hasl : ∀ {j : Nat}, j ≠ i → (O.less i).has j = false → O.has j = false := fun {j} hj h => by
    obtain ⟨g1, g2, g3⟩ := has_false h
    exact has_mk (fun z => g1 (mem_less.mpr ⟨z, hj⟩)) g2 g3
  by_cases hi : i ∈ O.own
  · by_cases he : ∃ d0, env[i]? = some (some d0)
    · obtain ⟨d0, he⟩ := he
      obtain ⟨a, ws, es, p1, p2, p3, p4, p5, p6, p7⟩ := I.own i d0 hi he
      have sm : Same S (upd S a (.lst ws)) := fun c o h => by
        rw [upd_ne (fun z => by rw [z, p4] at h; cases h)]; exact h
      have nw : ∀ c o, upd S a (.lst ws) c = some o → (c = a ∧ o = .lst ws) ∨ S c = some o := fun c o h => by
        by_cases hc : c = a
        · subst hc; rw [upd_same] at h; exact .inl ⟨rfl, (Option.some.inj h).symm⟩
        · rw [upd_ne hc] at h; exact .inr h
      have no : ∀ c, c ≠ a → S c = none → upd S a (.lst ws) c = none := fun c hc h => by rw [upd_ne hc]; exact h
      refine ⟨upd S a (.lst ws), sm, I.len, fun c o h => ?_, I.s0.trans sm, fun c o h => ?_, I.keep, fun j d' h ho => ?_, fun j d' hj h => ?_, fun j k c hj hk e1 e2 q1 q2 => I.dist j k c (mem_less.mp hj).1 (mem_less.mp hk).1 e1 e2 q1 q2, I.sto.known sm (fun c hc => no c (fun z => p6 (z ▸ hc)) (I.sto.has hc).1) fun c ⟨_, hh⟩ h => no c (fun z => by rw [z, p3] at hh; cases hh) h, fun j d' hj h => ?_, fun j hj => ?_⟩
      · rcases nw c o h with ⟨rfl, rfl⟩ | q
        · exact p3
        · exact I.sub c o q
      · rcases nw c o h with ⟨rfl, rfl⟩ | q
        · exact .inr p5
        · exact I.new c o q
      · by_cases hj : j = i
        · subst hj
          rw [he] at h
          have e : d0 = d' := by simpa using h
          subst e
          subst p1
          exact ⟨_, p2, .lst upd_same (p7.mono sm)⟩
        · obtain ⟨w, q1, q2⟩ := I.slot j d' h (hasl hj ho)
          exact ⟨w, q1, q2.mono sm⟩
      · obtain ⟨hj1, hj2⟩ := mem_less.mp hj
        obtain ⟨c, ws', es', q1, q2, q3, q4, q5, q6, q7⟩ := I.own j d' hj1 h
        exact ⟨c, ws', es', q1, q2, q3, no c (fun z => hj2 (by subst z; exact I.dist j i c hj1 hi ⟨_, h⟩ ⟨_, he⟩ q2 p2)) q4, q5, q6, q7.mono sm⟩
      · obtain ⟨y, q1, q2, q3⟩ := I.exc j d' hj h
        exact ⟨y, q1, q2, q3.mono sm⟩
      · obtain ⟨c, ws', es', q1, q2, q3, q4, q5, q6, q7, q8, q9, q10, q11⟩ := I.self_ j hj
        exact ⟨c, ws', es', q1, q2, q3, q4, no _ (show O.slv.1 ≠ a from fun z => by rw [z, p3] at q3; cases q3) q5, no _ (show O.slv.2 ≠ a from fun z => by rw [z, p3] at q4; cases q4) q6, q7, q8, q9, q10, q11.mono sm⟩
    · refine ⟨S, .refl _, I.len, I.sub, I.s0, I.new, I.keep, fun j d' h ho => ?_, fun j d' hj h => I.own j d' (mem_less.mp hj).1 h, fun j k c hj hk e1 e2 q1 q2 => I.dist j k c (mem_less.mp hj).1 (mem_less.mp hk).1 e1 e2 q1 q2, I.sto, I.exc, I.self_⟩
      exact I.slot j d' h (hasl (fun z => he ⟨d', z ▸ h⟩) ho)
  · refine ⟨S, .refl _, I.len, I.sub, I.s0, I.new, I.keep, fun j d' h ho => ?_, fun j d' hj h => I.own j d' (mem_less.mp hj).1 h, fun j k c hj hk e1 e2 q1 q2 => I.dist j k c (mem_less.mp hj).1 (mem_less.mp hk).1 e1 e2 q1 q2, I.sto, I.exc, I.self_⟩
    obtain ⟨g1, g2, g3⟩ := has_false ho
    exact I.slot j d' h (has_mk (fun z => g1 (mem_less.mpr ⟨z, fun y => hi (y ▸ z)⟩)) g2 g3)
end
section
variable {G : Glb} {X : Cx} {W : WX} {Ob : Ow} {OE : Ow → Prop} {O O1 O2 : Ow} {pos : Pos} {s : Stmt} {rest : List Stmt} {m n : MS} {e : Expr} {me : ME}
theorem dss_freeze (i : Nat) (h : DSs G X W Ob OE (O.less i) rest O2 m) (hx : O.exi ≠ some i := by first | decide | exact of_decide_eq_true rfl) : DSs G X W Ob OE O rest O2 m := by
  obtain ⟨t, p, w⟩ := h.ex
  refine ⟨t, p, fun b S env st σ H D I h => ?_⟩
  obtain ⟨S', sm, I'⟩ := I.freeze i hx
  exact w b S' env st σ H D I' (h.from_ sm)
/-- a new list -/
def PostF (G : Glb) (ad : List Addr) (S H : Hp) (ds : List D) (st : List D) (Q : VK) : Prop := ∀ l vs S' H', Ext ad S H S' H' → Same S' H' → StoOk G ad S' st H' → H' l = none → Reps G ad S' vs ds → Q (.ref l) (upd H' l (.lst vs))
structure DF (G : Glb) (X : Cx) (W : WX) (O : Ow) (e : Expr) (m : MA) : Prop where
  ex : ∃ t, PE X e t ∧ ∀ (b : Act) S env st σ H Q, DI G b O S env st σ H → wpR (m env st) (fun ds st' => PostF G b.ad S H ds st' Q) (fun x st' => PostX G b.ad S H x st' fun c dd H' => W c dd σ H') → t σ H Q
def fits? (ds : List D) : M (List D) := fun st => if ds.length ≤ sizeLine then .ok ds st else .bad
theorem df_lst {es : List Expr} {mr : MA} (h : DA G X W O es mr) : DF G X W O (.List es pos) (mThenA mr fits?) := by
  obtain ⟨t, p, w⟩ := h.ex
  refine ⟨_, pe_lst p, fun b S env st σ H Q I h => w b S env st σ H _ I (wpR_imp (wpR_bind h) (fun ds st1 h1 => ?_) fun _ _ z => z)⟩
  intro xs S1 H1 x1 su1 so1 r1
  unfold fits? at h1
  split at h1
  · rename_i hz
    exact ⟨by rw [r1.len]; exact hz, fun p hp => h1 p xs S1 H1 x1 su1 so1 hp r1⟩
  · exact h1.elim
/-- x = a new list, x's own -/
def mSetF (i : Nat) (m : MA) : MS := fun env st => match m env st with
  | .ok ds st1 => .nx (env.set i (some (.lst ds))) st1
  | .err x st1 => .er x env st1
  | .bad => .bad
theorem ds_own (i : Nat) {x : Str} {pos' : Pos} {ma : MA} (hN : X.N.Nodup) (he : DF G X W O e ma) (hO : OE O := by first | trivial | rfl) (hi : X.N[i]? = some x := by rfl) (ho : O.has i = false := by rfl) (hx : Loc X.env.scope x := by first | exact Or.inl rfl | exact Or.inr rfl)
    (hs : swapsWith e (some (.Name x pos')) pos.line X.env = pure false := by rfl) (hf : X.fn x = true ∨ X.env.scope.names.lookup x = some .local := by first | exact .inl rfl | exact .inr rfl) : DS G X W Ob OE O (.Assign [.Name x pos'] e pos) (O.add i) (mSetF i ma) := by
  obtain ⟨t, p, w⟩ := he.ex
  refine ⟨_, ps_set hN hi hx p hs hf, fun b S env st σ H D I h => w b S env st σ H _ I ?_⟩
  unfold mSetF at h
  cases e1 : ma env st with
  | ok ds st1 =>
    rw [e1] at h
    intro l vs S' H' x' su so hl r
    have I' := I.ext x' su so
    exact h S' _ _ x'.same (I'.own_new hl r ho)
  | err y st1 =>
    rw [e1] at h
    intro cls dd S' H' x' su so r
    exact h cls dd O S' σ H' hO x'.same (I.ext x' su so) r
  | bad => rw [e1] at h; exact h
/-- x.append(e) -/
def mPush (i : Nat) (me : ME) : MS := fun env st => match env[i]? with
  | some (some (.lst ds)) => match me env st with
    | .ok d st1 => if ds.length < sizeLine then .nx (env.set i (some (.lst (ds ++ [d])))) st1 else .bad
    | .err x st1 => .er x env st1
    | .bad => .bad
  | _ => .bad
theorem Reps.snoc {ad : List Addr} {S : Hp} {v : V} {d : D} (r1 : Rep G ad S v d) : ∀ {vs : List V} {ds : List D}, Reps G ad S vs ds → Reps G ad S (vs ++ [v]) (ds ++ [d])
  | _, _, .nil => .cons r1 .nil
  | _, _, .cons h r => .cons h (Reps.snoc r1 r)
theorem ds_push (i : Nat) {x : Str} {p1 p2 cp : Pos} (he : DE G X W O e me) (hO : OE O := by first | trivial | rfl) (hi : X.N[i]? = some x := by rfl) (hm : i ∈ O.own := by first | decide | exact of_decide_eq_true rfl) (hxi : O.exi ≠ some i := by first | decide | exact of_decide_eq_true rfl) (hsf : O.slf ≠ some i := by first | decide | exact of_decide_eq_true rfl) (hv : Vis X.env.scope x := by first | exact Or.inl rfl | exact Or.inr (Or.inl rfl) | exact Or.inr (Or.inr rfl))
    (hd : (x == ("__debug__" : Str)) = false := by decide) (hcd : (x == ("__classdict__" : Str)) = false := by decide)
    (hbase : attributeBase (.Name x p1) "append" X.env (eval (.Name x p1) X.env) = eval (.Name x p1) X.env := by rfl)
    (hfew : ((backTo cp (starEach [e] X.env)).all (fun x => !x.1) && (backToKw cp (keywordEach [] X.env)).all (fun x => x.1.isSome)
      && decide ([e].length + ([] : List Keyword).length + (if ([] : List Keyword).isEmpty then 0 else 1) < 30)) = true := by rfl) (hline : (p2.endLine == cp.line) = true := by rfl)
    (hst : starEach [e] X.env = (false, eval e X.env) :: starEach [] X.env := by rfl) (hpl : (backTo cp (starEach [] X.env)).any (·.1) = false := by rfl)
    (hs : swapsWith (.Call (.Attribute (.Name x p1) "append" p2) [e] [] cp) none pos.line X.env = pure false := by rfl) : DS G X W Ob OE O (.Expr (.Call (.Attribute (.Name x p1) "append" p2) [e] [] cp) pos) O (mPush i me) := by
  obtain ⟨t, p, w⟩ := he.ex
  refine ⟨_, ps_expr (pe_bm PySem.F.plainAttrs_list PySem.F.slot_list_append PySem.F.type_list_append mt_append (pe_var hi hv hd hcd) (pa_cons p pa_nil hst) hbase hfew hline hst hpl) hs, fun b S env st σ H D I h => ?_⟩
  unfold mPush at h
  cases e1 : env[i]? with
  | none => rw [e1] at h; exact h.elim
  | some o => cases o with
    | none => rw [e1] at h; exact h.elim
    | some d0 =>
      obtain ⟨a, ws, es, p1, p2, p3, p4, p5, p6, p7⟩ := I.own i d0 hm e1
      subst p1
      rw [e1] at h
      refine ⟨_, p2, Or.inl ⟨rfl, _, Or.inl (Or.inl p3)⟩, w b S env st σ H _ I ?_⟩
      cases e2 : me env st with
      | ok d st1 =>
        rw [e2] at h
        intro v S' H' x' su so r
        have I' := I.ext x' su so
        obtain ⟨a', ws', es', q1, q2, q3, q4, q5, q6, q7⟩ := I'.own i _ hm e1
        cases q1
        have ea : a' = a := by
          have := q2.symm.trans p2
          simpa using this
        subst ea
        show ∃ l xs y, _
        dsimp only at h
        split at h
        · rename_i hz
          refine ⟨a', ws', v, rfl, rfl, q3, by rw [q7.len]; exact hz, ?_⟩
          exact h S' σ _ x'.same (I'.own_upd hm hxi hsf e1 p2 (Reps.snoc r q7))
        · exact h.elim
      | err y st1 =>
        rw [e2] at h
        intro cls dd S' H' x' su so r
        exact h cls dd O S' σ H' hO x'.same (I.ext x' su so) r
      | bad => rw [e2] at h; exact h.elim
end
section
variable {G : Glb} {X : Cx} {W : WX} {O : Ow} {pos : Pos} {e : Expr} {me : ME}
end
def noErS : Out → Out
  | .er _ _ _ => .bad
  | o => o
section
variable {G : Glb} {X : Cx} {W : WX} {OE : Ow → Prop} {pos pos' np : Pos} {k : Nat}
end
abbrev MO := Env' → List D → Res (Option Int)
structure DO (G : Glb) (X : Cx) (W : WX) (O : Ow) (e : Option Expr) (m : MO) : Prop where
  ex : ∃ t, PO X e t ∧ ∀ (b : Act) S env st σ H (Q : Option Int → Hp → Prop), DI G b O S env st σ H → wpR (m env st) (fun o st' => ∀ S' H', Ext b.ad S H S' H' → Same S' H' → StoOk G b.ad S' st' H' → Q o H') (fun x st' => PostX G b.ad S H x st' fun c dd H' => W c dd σ H') → t σ H Q
def mNo : MO := fun _ st => .ok none st
def int? (d : D) : M (Option Int) := fun st => match d with
  | .int i => .ok (some i) st
  | _ => .bad
def mPart (m : ME) : MO := fun env st => (m env st).bind int?
def cutD (xs : List D) (lo hi : Option Int) : List D := (xs.drop (HT.sIx xs.length 0 lo)).take (HT.sIx xs.length xs.length hi - HT.sIx xs.length 0 lo)
def dSl (x : D) (lo hi : Option Int) : Option D := match x with
  | .lst xs => some (.lst (cutD xs lo hi))
  | .rol xs => some (.lst (cutD xs lo hi))
  | .tup xs => some (.tup (cutD xs lo hi))
  | _ => none
def mSl (m : ME) (l h : MO) : ME := fun env st => (m env st).bind fun x st1 => (l env st1).bind fun lo st2 => (h env st2).bind fun hi => ret? (dSl x lo hi)
theorem reps_cut {G : Glb} {ad : List Addr} {S : Hp} {vs : List V} {ds : List D} (r : Reps G ad S vs ds) (lo hi : Option Int) : Reps G ad S (cutV vs lo hi) (cutD ds lo hi) := by
  unfold cutV cutD
  rw [r.len]
  exact (r.drop _).take _
theorem cut_whole {xs : List D} {lo hi : Option Int} (h : HT.sIx xs.length 0 lo = 0 ∧ HT.sIx xs.length xs.length hi = xs.length) : cutD xs lo hi = xs := by
  unfold cutD
  rw [h.1, h.2]
  simp
section
variable {G : Glb} {X : Cx} {W : WX} {O : Ow} {pos : Pos} {e : Expr} {me : ME}
theorem do_none : DO G X W O none mNo := ⟨_, po_none, fun b S env st σ H Q I h => h S H (.refl _ _ _) I.sub I.sto⟩
theorem do_some (he : DE G X W O e me) : DO G X W O (some e) (mPart me) := by
  obtain ⟨t, p, w⟩ := he.ex
  refine ⟨_, po_some p, fun b S env st σ H Q I h => w b S env st σ H _ I (wpR_imp (wpR_bind h) (fun d st1 h1 => ?_) fun _ _ z => z)⟩
  intro v S' H' x su so r
  cases r <;> first | exact h1.elim | exact ⟨_, rfl, h1 S' H' x su so⟩
theorem de_slice {lo hi : Option Expr} {ml mh : MO} {p2 : Pos} (hK : X.K = G.K) (he : DE G X W O e me) (hl : DO G X W O lo ml) (hh : DO G X W O hi mh) : DE G X W O (.Subscript e (.Slice lo hi none p2) pos) (mSl me ml mh) := by
  obtain ⟨t, p, w⟩ := he.ex
  obtain ⟨tl, pl, wl⟩ := hl.ex
  obtain ⟨th, ph, wh⟩ := hh.ex
  refine ⟨_, pe_slice (SlR.or sl_list sl_tupA) p pl ph, fun b S env st σ H Q I h => w b S env st σ H _ I (wpR_imp (wpR_bind h) (fun d st1 h1 => ?_) fun _ _ z => z)⟩
  intro v S1 H1 x1 su1 so1 r1
  have I1 := I.ext x1 su1 so1
  refine wl b S1 env st1 σ H1 _ I1 (wpR_imp (wpR_bind h1) (fun l st2 h2 => ?_) fun _ _ z => z.from_ x1 so1)
  intro S2 H2 x2 su2 so2
  have x12 := x1.trans so1 x2
  have I2 := I1.ext x2 su2 so2
  refine wh b S2 env st2 σ H2 _ I2 (wpR_imp (wpR_bind h2) (fun u st3 h3 => ?_) fun _ _ z => z.from_ x12 so2)
  intro S3 H3 x3 su3 so3
  have x13 := x12.trans so2 x3
  have r3 := (r1.mono x2.same).mono x3.same
  obtain ⟨d', e1, q⟩ := wp_ret h3
  have q' := Post.from_ x13 so3 q
  cases r3 with
  | lst h4 r4 =>
    cases e1
    exact .inl ⟨_, _, rfl, SqL.of (su3 _ _ h4), fun p hp => Post.lst su3 so3 hp (reps_cut r4 _ _) q'⟩
  | rol h4 r4 =>
    cases e1
    exact .inl ⟨_, _, rfl, hK ▸ su3.seq h4, fun p hp => Post.lst su3 so3 hp (reps_cut r4 _ _) q'⟩
  | tup h4 r4 =>
    cases e1
    refine .inr ⟨_, _, rfl, hK ▸ Same.sqT su3 h4.sqT, fun hw => ?_, fun _ p hp => Post.tup su3 so3 hp (reps_cut r4 _ _) q'⟩
    rw [r4.len] at hw
    rw [cut_whole hw] at q'
    exact Post.here su3 so3 (.tup h4 r4) q'
  | _ => cases e1
end
end DL

namespace DL
open PySem PySem.Spec PyProof.Rows L2
def putD (f : Str) (d : D) : List (Str × D) → List (Str × D)
  | [] => [(f, d)]
  | (g, x) :: r => if g = f then (g, d) :: r else (g, x) :: putD f d r
theorem RepF.put {G : Glb} {ad : List Addr} {S : Hp} {f : Str} {v : V} {d : D} (h : Rep G ad S v d) : ∀ {vs : List (Str × V)} {fs : List (Str × D)}, RepF G ad S vs fs → RepF G ad S (putF f v vs) (putD f d fs)
  | _, _, .nil => .cons h .nil
  | _, _, .cons (f := g) h1 r => by
    unfold putF putD
    by_cases e : g = f
    · rw [if_pos e, if_pos e]; exact .cons h r
    · rw [if_neg e, if_neg e]; exact .cons h1 (RepF.put h r)
theorem RepF.len {G : Glb} {ad : List Addr} {S : Hp} : ∀ {vs : List (Str × V)} {fs : List (Str × D)}, RepF G ad S vs fs → vs.length = fs.length
  | _, _, .nil => rfl
  | _, _, .cons _ r => congrArg (· + 1) r.len
def dFld (okF : Nat → Str → Bool) (f : Str) (d : D) : Option D := match d with
  | .obj c fs => if okF c f = true then fs.lookup f else none
  | _ => none
def mFld (okF : Nat → Str → Bool) (f : Str) (me : ME) : ME := fun env st => (me env st).bind fun d => ret? (dFld okF f d)
def mFldS (okF : Nat → Str → Bool) (f : Str) (me : ME) : MS := mDo me fun d env st => match env[0]? with
  | some (some (D.obj c fs)) => if okF c f = true ∧ fs.length < 1000 then .nx (env.set 0 (some (.obj c (putD f d fs)))) st else .bad
  | _ => .bad
section
variable {G : Glb} {b : Act} {O : Ow} {S H : Hp} {env : Env'} {st : List D} {σ : L2.St}
end
section
variable {G : Glb} {X : Cx} {W : WX} {Ob : Ow} {OE : Ow → Prop} {O : Ow} {pos pos' : Pos} {e : Expr} {me : ME} {okF : Nat → Str → Bool}
end
section
variable {P : Program} {w : World} {K : PySem.W.Frag} {mg : Str → Option Value} {base : Heap}
end
section
variable {X : Cx} {CX : CXT} {k : Nat} {f C : Addr} {fd : FuncData} {ps : List Str} {sp : Sp} {E : L2.St → XK} {x m : Str} {p pos apos : Pos} {e o : Expr} {es : List Expr} {ta : TE} {t : TA} {ds : List Value} {dvs : List V}
end
def mCallD (f : List D → M D) (dds : List D) (ma : MA) : ME := fun env st => (ma env st).bind fun ds => f (ds ++ dds)
def mMeth (ci : Nat) (name : Str) (f : List D → M D) (mo : ME) (ma : MA) : ME := fun env st => (mo env st).bind fun d st1 => match d with
  | .obj c fs => if c = ci ∧ fs.lookup name = none then (ma env st1).bind fun ds => f (d :: ds) else .bad
  | _ => .bad
section
variable {G : Glb} {X : Cx} {W : WX} {O : Ow} {pos p apos : Pos} {x name : Str} {e o : Expr} {es : List Expr} {ma : MA} {mo : ME} {k j n n' : Nat} {f : Addr} {fd : FuncData} {ps : List Str} {m : List D → M D} {ci : Nat} {dl : List Value} {dvs : List V} {dds : List D}
end
end DL

namespace DL
open PySem PySem.Spec PyProof.Rows L2
section
variable {P : Program} {w : World} {K : PySem.W.Frag} {mg : Str → Option Value} {base : Heap}
end
/-- what an error class with fields has -/
structure OexT (G : Glb) (mg : Str → Option Value) (x : Str) (c : Nat) (fI : Addr) (fs : List Str) : Prop where
  oc : OexC G.K (G.cl c)
  in_ : PySem.W.findIn G.K (.ref (G.cl c)) "__init__" = some (some (.ref fI))
  tI : PySem.W.typeIn G.K (.ref fI) = some (.type "function")
  g : mg x = some (.ref (G.cl c))
  sub : PySem.W.subIn G.K (.ref (G.cl c)) (.type "BaseException") = some true
def mRaiseF (c : Nat) (fs : List Str) (ma : MA) : MS := fun env st => match ma env st with
  | .ok ds st1 => if ds.length = fs.length ∧ ds.length ≤ 100 then .er ⟨c, some (fs.zip ds).reverse⟩ env st1 else .bad
  | .err x st1 => .er x env st1
  | .bad => .bad
theorem RepF.append {G : Glb} {ad : List Addr} {S : Hp} : ∀ {vs ws : List (Str × V)} {ds es : List (Str × D)}, RepF G ad S vs ds → RepF G ad S ws es → RepF G ad S (vs ++ ws) (ds ++ es)
  | _, _, _, _, .nil, s => s
  | _, _, _, _, .cons h r, s => .cons h (RepF.append r s)
section
variable {G : Glb} {X : Cx} {W : WX} {Ob : Ow} {OE : Ow → Prop} {O O1 : Ow} {pos p pos' : Pos} {k j : Nat} {x : Str} {c : Nat} {fI : Addr} {fd : FuncData} {ps fs : List Str} {e : Expr} {es : List Expr} {ma : MA}
end
end DL

namespace DL
open PySem PySem.Spec PyProof.Rows L2
abbrev Han := Value × Option Nat × (Addr → Value → Option Addr → TS)
/-- the ends behind a named handler: its name is gone -/
def offE (i : Nat) (D : Ends) : Ends := { nx := fun τ K => D.nx (τ.set i none) K, rt := D.rt, bk := fun τ K => D.bk (τ.set i none) K, ct := fun τ K => D.ct (τ.set i none) K }
def wMix (K : PySem.W.Frag) (Wout : WX) (D : Ends) : List Han → WX
  | [] => Wout
  | (c, oi, ts) :: r => fun cls d σ H => ∃ b, PySem.W.exmOne K cls c = some b ∧ (b = false → wMix K Wout D r cls d σ H) ∧
      (b = true → ∀ ex, H ex = none → match oi with
        | none => ts ex cls d D σ H
        | some i => ts ex cls d (offE i D) (σ.set i (some (.ref ex))) H)
inductive HdM (X : Cx) : List ExceptHandler → List Han → Prop
  | nil : HdM X [] []
  | bare {x : Str} {c : Value} {ts : Addr → Value → Option Addr → TS} {b₀ : Stmt} {suite : List Stmt} {np hp : Pos} {hds : List ExceptHandler} {l : List Han} (nm : Names X x c)
      (su : ∀ (ex : Addr) (o : Obj) (cls : Value) (d : Option Addr) (pn : List (Addr × Obj)), L2N.Zn cls d o → (∃ vs, o.data = .fields vs) → PSs (X.suite ex ((ex, o) :: pn)) (b₀ :: suite) (ts ex cls d)) (rest : HdM X hds l) :
      HdM X (.ExceptHandler (some (.Name x np)) none (b₀ :: suite) hp :: hds) ((c, none, ts) :: l)
  | name {x n : Str} {i : Nat} {c : Value} {ts : Addr → Value → Option Addr → TS} {b₀ : Stmt} {suite : List Stmt} {np hp : Pos} {hds : List ExceptHandler} {l : List Han} (hi : X.N[i]? = some n) (hn : X.env.kindOf n = some .local) (nm : Names X x c)
      (su : ∀ (ex : Addr) (o : Obj) (cls : Value) (d : Option Addr) (pn : List (Addr × Obj)), L2N.Zn cls d o → (∃ vs, o.data = .fields vs) → PSs (X.suite ex ((ex, o) :: pn)) (b₀ :: suite) (ts ex cls d)) (rest : HdM X hds l) :
      HdM X (.ExceptHandler (some (.Name x np)) (some n) (b₀ :: suite) hp :: hds) ((c, some i, ts) :: l)
section
variable {X : Cx} {Wout : WX} {D : Ends} {pins : List (Addr × Obj)}
theorem hd_go (hs : X.stack = X.env :: X.outer) (hf : X.env.frame = some X.env.locals) (ndN : X.N.Nodup) (tk : L2N.Takes X Wout) (okX : X.Ok) {ex : Addr} {B : Heap} {s0 s' : Shared} {τ : L2.St} {L : Hp} {cls : Value} {d : Option Addr} {hh : Heap}
    (J : Inv X pins τ L s0) (out : ∀ b o, s0.heap.get? b = some o → b ∉ frs X.stack → B.get? b = some o) (gr : s0.heap.UpToSlots hh) (fl : HandSPX.FlyingZ B (X.env :: X.outer) ex (L2N.Zn cls d) hh) (fresh : L ex = none) (os : s'.os = s0.os) (gens : AllBare s'.gens) :
    ∀ {hds : List ExceptHandler} {l : List Han}, HdM X hds l → wMix X.K Wout D l cls d τ L → wpAny (model X.prog X.w) X.A (handleBy (.ref ex) X.env hds) (SP X pins D) X.xe { s' with heap := hh } := by
  have Jh : Inv X pins τ L { s' with heap := hh } := J.landed out fl.1 gr os gens
  obtain ⟨oh, fh, gh, zh, dh⟩ := fl.there
  have away : ex ∉ frs (X.env :: X.outer) := fun hm => by
    obtain ⟨_, o', e', hnf⟩ := fl.2.2.1.mem hm
    rw [gh] at e'; cases e'
    exact hnf _ dh
  have notL : ex ≠ X.env.locals := fun z => away (List.mem_filterMap.mpr ⟨X.env, List.mem_cons_self, by rw [hf, z]⟩)
  have notF : ex ∉ X.fs := fun hm => by
    obtain ⟨en, he, q⟩ := List.mem_filterMap.mp hm
    exact away (List.mem_filterMap.mpr ⟨en, List.mem_cons_of_mem _ he, q⟩)
  have Sh := Jh.suite gh dh fresh notL notF
  have tyL : PySem.W.Looks (model X.prog X.w) hh (typeOf (.ref ex)) cls := fun A Q E s k q => wpAny_typeOf_ref (k _ _ gh) (by rw [zh.1]; exact q)
  have asked : ∀ {x : Str} {c : Value} {np : Pos} {Q : Value → Shared → Prop} {E : Value → Shared → Prop}, Names X x c → Q c { s' with heap := hh } → wpAny (model X.prog X.w) (X.A.mark (some (.ref ex))) (eval (.Name x np) X.env) Q E { s' with heap := hh } := fun {x c np Q E} nm q => by
    obtain ⟨hg, hdb, hm | ⟨hm, hv, hnn⟩⟩ := nm
    · exact ld_glob (X := X.suite ex ((ex, oh) :: (X.pn ++ pins))) Sh hg hm q hdb
    · exact ld_blt (X := X.suite ex ((ex, oh) :: (X.pn ++ pins))) Sh hg hm hv q hnn hdb
  intro hds l hk
  induction hk with
  | nil =>
    intro wi
    refine wpAny_handleBy_nil ?_
    obtain ⟨k1, k2, k3, oe, vs, T, oT, ts', he, hz, hd, h1, hr⟩ := id fl
    have go : wpAny (model X.prog X.w) X.A (setFlight (.ref ex) X.env.frame) (fun _ sx => wpAny (model X.prog X.w) X.A (throw (.ref ex) : Sem Flow) (SP X pins D) X.xe sx) X.xe { s' with heap := hh } := by
      rw [hf]
      refine HandSPX.setFlight_upZ fl fun hx held upx => wpAny_throw (tk _ _ ?_)
      exact ⟨ex, B, s0, pins, τ, L, cls, d, rfl, J, out, gr.trans upx, .inr (.inr (by rw [hs]; exact held)), fresh, os, gens, wi⟩
    unfold PySem.passOn
    refine wpAny_bind (wpAny_field he hd h1 ?_)
    rw [if_neg (show ¬ ((Value.ref T == Value.none) = true) by simp)]
    first
      | exact wpAny_bind (wpAny_pure (wpAny_bind go))
      | exact wpAny_bind go
  | @bare x c ts b₀ suite np hp hds2 l2 nm su rest ih =>
    intro wi
    obtain ⟨b, hb1, hno, hyes⟩ := wi
    have ask := PySem.W.exm_one (M := model X.prog X.w) (Jh.kIn) tyL hb1
    refine wpAny_handleBy_cons (codeAny_handlers_test ?_) (fun q => by cases q)
    refine asked nm (ask.here ?_)
    cases b with
    | false => exact ih (hno rfl)
    | true =>
      refine codeAny_handlers_suite (HandSPX.lands_againZ fl fun hx flx upx => ?_)
      have Jx : Inv X pins τ L { s' with heap := hx } := J.landed out flx.1 (gr.trans upx) os gens
      obtain ⟨ox, fx, gx, zx, dx⟩ := flx.there
      have Sx := Jx.suite gx dx fresh notL notF
      refine wpAny_mono ((su ex ox cls d (X.pn ++ pins) zx ⟨_, dx⟩).run [] _ _ L _ Sx (hyes rfl ex fresh)) (fun f s6 hsp => ?_) (fun _ _ z => z.elim)
      cases f with
      | next => obtain ⟨τ6, L6, S6, q6⟩ := hsp; exact ⟨_, _, S6.unsuite okX, q6⟩
      | brk => obtain ⟨τ6, L6, S6, q6⟩ := hsp; exact ⟨_, _, S6.unsuite okX, q6⟩
      | cont => obtain ⟨τ6, L6, S6, q6⟩ := hsp; exact ⟨_, _, S6.unsuite okX, q6⟩
      | ret u => obtain ⟨v6, τ6, L6, S6, r6, q6⟩ := hsp; exact ⟨_, _, _, S6.unsuite okX, r6, q6⟩
  | @name x n i c ts b₀ suite np hp hds2 l2 hi hn nm su rest ih =>
    intro wi
    obtain ⟨b, hb1, hno, hyes⟩ := wi
    have ask := PySem.W.exm_one (M := model X.prog X.w) (Jh.kIn) tyL hb1
    refine wpAny_handleBy_cons (codeAny_handlers_test ?_) (fun q => by cases q)
    refine asked nm (ask.here ?_)
    cases b with
    | false => exact ih (hno rfl)
    | true =>
      refine codeAny_handlers_suite_as (HandSPX.lands_againZ fl fun hx flx upx => ?_)
      have Jx : Inv X pins τ L { s' with heap := hx } := J.landed out flx.1 (gr.trans upx) os gens
      obtain ⟨ox, fx, gx, zx, dx⟩ := flx.there
      have Sx := Jx.suite gx dx fresh notL notF
      have hl : Loc X.env.scope n := .inl hn
      refine store_ok (X := X.suite ex ((ex, ox) :: (X.pn ++ pins))) (v := .ref ex) Sx ndN hi hl rfl (fun s5 S5 => ?_) (.inr hn)
      refine wpAny_mono ((su ex ox cls d (X.pn ++ pins) zx ⟨_, dx⟩).run [] s5 _ L _ S5 (hyes rfl ex fresh)) (fun f s6 hsp => ?_) (fun _ _ z => z.elim)
      have gone : ∀ {τ6 : L2.St} {L6 : Hp} {Q : Shared → Prop}, Inv (X.suite ex ((ex, ox) :: (X.pn ++ pins))) [] τ6 L6 s6 → (∀ s7, Inv X pins (τ6.set i none) L6 s7 → Q s7) →
          wpAny (model X.prog X.w) X.A (do bindName X.env n .none; unbindBehindTheSuite X.env n hp) (fun _ s7 => Q s7) X.xe s6 := fun {τ6 L6 Q} S6 hq => gone_ok (S6.unsuite okX) ndN hi hn hq
      cases f with
      | next => obtain ⟨τ6, L6, S6, q6⟩ := hsp; exact gone S6 fun s7 J7 => ⟨_, _, J7, q6⟩
      | brk => obtain ⟨τ6, L6, S6, q6⟩ := hsp; exact gone S6 fun s7 J7 => ⟨_, _, J7, q6⟩
      | cont => obtain ⟨τ6, L6, S6, q6⟩ := hsp; exact gone S6 fun s7 J7 => ⟨_, _, J7, q6⟩
      | ret u => obtain ⟨v6, τ6, L6, S6, r6, q6⟩ := hsp; exact gone S6 fun s7 J7 => ⟨_, _, _, J7, r6, q6⟩
theorem ps_try_mix {body : List Stmt} {h₀ : ExceptHandler} {hds : List ExceptHandler} {l : List Han} {pos : Pos} {tb : WX → TS} (hs : X.stack = X.env :: X.outer) (hf : X.env.frame = some X.env.locals) (ndN : X.N.Nodup) (tk : L2N.Takes X Wout)
    (inner : ∀ (W : WX) (pn : List (Addr × Obj)) (xe : Value → Shared → Prop), L2N.Takes (X.tr pn xe) W → PassesOwn (model X.prog X.w) X.A X.env xe → PSs (X.tr pn xe) body (tb W)) (hm : HdM X (h₀ :: hds) l) :
    PS X (.Try body (h₀ :: hds) [] [] pos) (fun D σ H => tb (wMix X.K Wout D l) D σ H) := by
  constructor
  intro pins s σ H D I h
  have okX := I.ok
  have fr2 : X.A.frames = some (X.env :: X.outer) := by rw [okX.frames, hs]
  have part := inner (wMix X.K Wout D l) (X.pn ++ pins) (fun y s1 => wpAny (model X.prog X.w) X.A (noteFrame y X.env) (fun _ s2 => wpAny (model X.prog X.w) X.A (setFlight y none) (fun _ s3 =>
    wpAny (model X.prog X.w) X.A (handleBy y X.env (h₀ :: hds)) (SP X pins D) X.xe s3) X.xe s2) X.xe s1) (fun u s' air => by
      obtain ⟨ex, B, s0, pins', τ, L, cls, d, rfl, J', out, gr, sky, fresh, os, gens, wi⟩ := air
      have J : Inv X pins τ L s0 := J'.ofTry okX
      have sky2 : Sky B (X.env :: X.outer) ex (L2N.Zn cls d) X.env.locals s'.heap := by rw [← hs]; exact sky
      show wpAny (model X.prog X.w) X.A (noteFrame (.ref ex) X.env) _ _ _
      exact L2N.Sky.land L2N.Zn.steady fr2 hf sky2 fun hh fl up2 => hd_go hs hf ndN tk okX J out (gr.trans up2) fl fresh os gens hm wi) PassesOwn.looking
  refine wpAny_Try_except (wpAny_mono (part.run [] s σ H D (I.toTry _) h) (fun f s1 hsp => ?_) fun y s1 he => he)
  cases f with
  | next => obtain ⟨τ, L, J, q⟩ := hsp; exact wpAny_execs_nil ⟨τ, L, J.ofTry okX, q⟩
  | brk => obtain ⟨τ, L, J, q⟩ := hsp; exact ⟨τ, L, J.ofTry okX, q⟩
  | cont => obtain ⟨τ, L, J, q⟩ := hsp; exact ⟨τ, L, J.ofTry okX, q⟩
  | ret u => obtain ⟨v, τ, L, J, r, q⟩ := hsp; exact ⟨v, τ, L, J.ofTry okX, r, q⟩
end
abbrev HanM := (Nat → Option Bool) × Option Nat × MS
def mHands : List HanM → Ex → MS
  | [], x => fun env st => .er x env st
  | (cl, oi, ms) :: r, x => fun env st => match cl x.c with
    | some true => match oi with
      | none => noErS (ms env st)
      | some i => unX i (ms (env.set i (some (exObj x))) st)
    | some false => mHands r x env st
    | none => .bad
def mTryM (hs : List HanM) (m : MS) : MS := fun env st => match m env st with
  | .er x env1 st1 => mHands hs x env1 st1
  | o => o
inductive DHd (G : Glb) (X : Cx) (own ob : List Nat) : List ExceptHandler → List HanM → Prop
  | nil : DHd G X own ob [] []
  | bare {x : Str} {cv : Value} {b₀ : Stmt} {suite : List Stmt} {np hp : Pos} {hds : List ExceptHandler} {hs : List HanM} {cl : Nat → Option Bool} {ms : MS} (nm : Names X x cv) (hcl : ∀ c b, cl c = some b → PySem.W.exmOne G.K (.ref (G.cl c)) cv = some b)
      (su : ∀ (ex : Addr) (o : Obj) (cls : Value) (d : Option Addr) (pn : List (Addr × Obj)), L2N.Zn cls d o → (∃ vs, o.data = .fields vs) → DSs G (X.suite ex ((ex, o) :: pn)) W0 ⟨ob, none, (0, .none, none), none, (0, 0)⟩ (fun _ => True) ⟨own, none, (0, .none, none), none, (0, 0)⟩ (b₀ :: suite) ⟨own, none, (0, .none, none), none, (0, 0)⟩ ms)
      (rest : DHd G X own ob hds hs) : DHd G X own ob (.ExceptHandler (some (.Name x np)) none (b₀ :: suite) hp :: hds) ((cl, none, ms) :: hs)
  | name {x n : Str} {cv : Value} {b₀ : Stmt} {suite : List Stmt} {np hp : Pos} {hds : List ExceptHandler} {hs : List HanM} {cl : Nat → Option Bool} {ms : MS} (i : Nat) (nm : Names X x cv) (hcl : ∀ c b, cl c = some b → PySem.W.exmOne G.K (.ref (G.cl c)) cv = some b)
      (su : ∀ (ex : Addr) (o : Obj) (cls : Value) (d : Option Addr) (pn : List (Addr × Obj)), L2N.Zn cls d o → (∃ vs, o.data = .fields vs) → DSs G (X.suite ex ((ex, o) :: pn)) W0 ⟨ob, some i, (ex, cls, d), none, (0, 0)⟩ (fun _ => True) ⟨own, some i, (ex, cls, d), none, (0, 0)⟩ (b₀ :: suite) ⟨own, some i, (ex, cls, d), none, (0, 0)⟩ ms)
      (rest : DHd G X own ob hds hs) (hi : X.N[i]? = some n := by rfl) (hn : X.env.kindOf n = some .local := by rfl) (hio : own.elem i = false := by rfl) (hib : ob.elem i = false := by rfl) : DHd G X own ob (.ExceptHandler (some (.Name x np)) (some n) (b₀ :: suite) hp :: hds) ((cl, some i, ms) :: hs)
section
variable {G : Glb} {X : Cx} {W : WX} {OE : Ow → Prop} {pos : Pos} {k : Nat} {own ob : List Nat}
theorem DHd.go (hK : X.K = G.K) (hO : OE ⟨own, none, (0, .none, none), none, (0, 0)⟩) : ∀ {hds : List ExceptHandler} {hs : List HanM}, DHd G X own ob hds hs → ∃ l, HdM X hds l ∧
    ∀ (b : Act) (S S1 : Hp) (env : Env') (st : List D) (σ : L2.St) (H : Hp) (x : Ex) (cls : Value) (dd : Option Addr) (D : Ends), Same S S1 → DI G b ⟨own, none, (0, .none, none), none, (0, 0)⟩ S1 env st σ H → RepX G b.ad S1 cls dd x →
      PostS G b ⟨ob, none, (0, .none, none), none, (0, 0)⟩ OE W ⟨own, none, (0, .none, none), none, (0, 0)⟩ D S (mHands hs x env st) → wMix X.K W D l cls dd σ H := by
  intro hds hs h
  induction h with
  | nil => exact ⟨[], .nil, fun b S S1 env st σ H x cls dd D e I r h => h cls dd _ S1 σ H hO e I r⟩
  | @bare x cv b₀ suite np hp hds hs cl ms nm hcl su rest ih =>
    obtain ⟨l, hl, go⟩ := ih
    refine ⟨(cv, none, fun _ _ _ D σ H => ∃ b S env st, DI G b ⟨own, none, (0, .none, none), none, (0, 0)⟩ S env st σ H ∧ PostS G b ⟨ob, none, (0, .none, none), none, (0, 0)⟩ (fun _ => True) W0 ⟨own, none, (0, .none, none), none, (0, 0)⟩ D S (ms env st)) :: l, .bare nm (fun ex o cls d pn hz hf => ?_) hl, fun b S S1 env st σ H y cls dd D e I r h => ?_⟩
    · obtain ⟨t, p, w⟩ := (su ex o cls d pn hz hf).ex
      exact PSs.imp p fun D σ H ⟨b, S, env, st, I, q⟩ => w b S env st σ H D I q
    · unfold mHands at h
      cases ec : cl y.c with
      | none => rw [ec] at h; exact h.elim
      | some bb =>
        rw [ec] at h
        refine ⟨bb, by rw [hK, r.1]; exact hcl _ _ ec, fun hbb => ?_, fun hbb a ha => ?_⟩
        · subst hbb
          exact go b S S1 env st σ H y cls dd D e I r h
        · subst hbb
          dsimp only at h
          refine ⟨b, S1, env, st, I, ?_⟩
          cases es : ms env st with
          | nx env2 st2 => rw [es] at h; exact fun S2 σ2 H2 e2 I2 => h S2 _ H2 (e.trans e2) I2
          | rt d st2 => rw [es] at h; exact h
          | bk env2 st2 => rw [es] at h; exact fun S2 σ2 H2 e2 I2 => h S2 _ H2 (e.trans e2) I2
          | ct env2 st2 => rw [es] at h; exact fun S2 σ2 H2 e2 I2 => h S2 _ H2 (e.trans e2) I2
          | er x2 env2 st2 => rw [es] at h; exact h.elim
          | bad => rw [es] at h; exact h.elim
  | @name x n cv b₀ suite np hp hds hs cl ms i nm hcl su rest hi hn hio hib ih =>
    obtain ⟨l, hl, go⟩ := ih
    refine ⟨(cv, some i, fun a cls d D σ H => ∃ b S env st, DI G b ⟨own, some i, (a, cls, d), none, (0, 0)⟩ S env st σ H ∧ PostS G b ⟨ob, some i, (a, cls, d), none, (0, 0)⟩ (fun _ => True) W0 ⟨own, some i, (a, cls, d), none, (0, 0)⟩ D S (ms env st)) :: l, .name hi hn nm (fun ex o cls d pn hz hf => ?_) hl, fun b S S1 env st σ H y cls dd D e I r h => ?_⟩
    · obtain ⟨t, p, w⟩ := (su ex o cls d pn hz hf).ex
      exact PSs.imp p fun D σ H ⟨b, S, env, st, I, q⟩ => w b S env st σ H D I q
    · unfold mHands at h
      cases ec : cl y.c with
      | none => rw [ec] at h; exact h.elim
      | some bb =>
        rw [ec] at h
        refine ⟨bb, by rw [hK, r.1]; exact hcl _ _ ec, fun hbb => ?_, fun hbb a ha => ?_⟩
        · subst hbb
          exact go b S S1 env st σ H y cls dd D e I r h
        · subst hbb
          dsimp only at h
          refine ⟨b, S1, _, st, I.toexc hio r, ?_⟩
          cases es : ms (env.set i (some (exObj y))) st with
          | nx env2 st2 => rw [es] at h; exact fun S2 σ2 H2 e2 I2 => h S2 _ H2 (e.trans e2) (I2.unexc hio _)
          | rt d st2 => rw [es] at h; exact h
          | bk env2 st2 => rw [es] at h; exact fun S2 σ2 H2 e2 I2 => h S2 _ H2 (e.trans e2) (I2.unexc hib _)
          | ct env2 st2 => rw [es] at h; exact fun S2 σ2 H2 e2 I2 => h S2 _ H2 (e.trans e2) (I2.unexc hib _)
          | er x2 env2 st2 => rw [es] at h; exact h.elim
          | bad => rw [es] at h; exact h.elim
theorem ds_tryM {body : List Stmt} {h₀ : ExceptHandler} {hds : List ExceptHandler} {hs : List HanM} {m : MS} (xc : XC k G X W) (xt : XT X) (ndN : X.N.Nodup)
    (hb : ∀ (W' : WX) (pn : List (Addr × Obj)) (xe : Value → Shared → Prop), XC k G (X.tr pn xe) W' → XT (X.tr pn xe) → DSs G (X.tr pn xe) W' ⟨ob, none, (0, .none, none), none, (0, 0)⟩ (· = ⟨own, none, (0, .none, none), none, (0, 0)⟩) ⟨own, none, (0, .none, none), none, (0, 0)⟩ body ⟨own, none, (0, .none, none), none, (0, 0)⟩ m)
    (hh : DHd G X own ob (h₀ :: hds) hs) (hO : OE ⟨own, none, (0, .none, none), none, (0, 0)⟩ := by first | trivial | rfl) :
    DS G X W ⟨ob, none, (0, .none, none), none, (0, 0)⟩ OE ⟨own, none, (0, .none, none), none, (0, 0)⟩ (.Try body (h₀ :: hds) [] [] pos) ⟨own, none, (0, .none, none), none, (0, 0)⟩ (mTryM hs m) := by
  obtain ⟨l, hl, go⟩ := hh.go (W := W) xc.K hO
  refine ⟨_, ps_try_mix (Wout := W) (tb := fun W' D σ H => ∃ b S env st, DI G b ⟨own, none, (0, .none, none), none, (0, 0)⟩ S env st σ H ∧ PostS G b ⟨ob, none, (0, .none, none), none, (0, 0)⟩ (· = ⟨own, none, (0, .none, none), none, (0, 0)⟩) W' ⟨own, none, (0, .none, none), none, (0, 0)⟩ D S (m env st))
    xt.stk xt.fr ndN xc.tk (fun W' pn xe tk po => ?_) hl, fun b S env st σ H D I h => ?_⟩
  · obtain ⟨t, p, w⟩ := (hb W' pn xe (xc.tr tk po) (xt.tr pn xe)).ex
    exact PSs.imp p fun D σ H ⟨b, S, env, st, I, q⟩ => w b S env st σ H D I q
  · refine ⟨b, S, env, st, I, ?_⟩
    unfold mTryM at h
    cases e : m env st with
    | nx env1 st1 => rw [e] at h; exact h
    | rt d st1 => rw [e] at h; exact h
    | bk env1 st1 => rw [e] at h; exact h
    | ct env1 st1 => rw [e] at h; exact h
    | bad => rw [e] at h; exact h
    | er x env1 st1 =>
      rw [e] at h
      intro cls dd O' S1 σ1 H1 hO' e1 I1 rx
      subst hO'
      exact go b S S1 env1 st1 σ1 H1 x cls dd D e1 I1 rx h
end
end DL

namespace DL
open PySem PySem.Spec PyProof.Rows L2
/-- what a value is, for isinstance: a built-in type's name or an own class -/
inductive Tag where
  | ty (n : String) | cl (c : Nat)
deriving DecidableEq
def tagD (okI : Nat → Bool) (d : D) : Option Tag := match d with
  | .obj c _ => if okI c = true then some (.cl c) else none
  | d => (tyN d).map .ty
def tagV (G : Glb) : Tag → Value
  | .ty n => .type n
  | .cl c => .ref (G.cl c)
/-- what isinstance wants of an own class's objects -/
structure InsT (G : Glb) (c : Nat) : Prop where
  cls : Cls G.K (G.cl c)
  ha : PySem.W.findIn G.K (.ref (G.cl c)) "__class__" = some (some (.builtin "object.__class__"))
  hn : PySem.W.specialIn G.K (.builtin "object.__class__") "__get__" = some (some (.builtin "getset_descriptor.__get__"))
  ht : PySem.W.takesIn G.K (.builtin "object.__class__") = some true
  hm : PySem.W.mroIn G.K (G.cl c) (.type "object") = some true
section
variable {G : Glb} {X : Cx}
end
section
variable {X : Cx} {CX : CXT} {n : Nat} {C f : Addr} {fd : FuncData} {ps : List Str} {sp : Sp}
end
section
variable {G : Glb} {X : Cx} {W : WX} {O : Ow} {pos : Pos} {a b : Expr} {ma mb : ME} {k j : Nat} {f : Addr} {fd : FuncData} {ps : List Str} {m : List D → M D} {ci : Nat} {okI : Nat → Bool} {okT : Tag → Bool}
end
end DL

namespace DL
open PySem PySem.Spec PyProof.Rows L2
/-- a < b < c -/
def mChain (f g : D → D → Option D) (ma mb mc : ME) : ME := fun env st => (ma env st).bind fun x st1 => (mb env st1).bind fun y st2 => match f x y with
  | some (.bl true) => (mc env st2).bind fun z => ret? (g y z)
  | some (.bl false) => .ok (.bl false) st2
  | _ => .bad
section
variable {G : Glb} {X : Cx} {W : WX} {O : Ow} {pos : Pos} {a b c : Expr} {ma mb mc : ME} {op op' : CmpOp} {r r' : R2} {f g : D → D → Option D}
end
section
variable {G : Glb} {X : Cx} {pos : Pos}
end
def LcmOk (a b : Int) : Prop := a.natAbs.log2 < 6000 ∧ b.natAbs.log2 < 6000
noncomputable instance (a b : Int) : Decidable (LcmOk a b) := Classical.propDecidable _
theorem lcm_log {x y n : Nat} (h : x.log2 < n) (k : y.log2 < n) : (x.lcm y).log2 < n + n := by
  by_cases hx : x = 0
  · subst hx; rw [Nat.lcm_zero_left]; rw [Nat.log2_zero]; omega
  by_cases hy : y = 0
  · subst hy; rw [Nat.lcm_zero_right]; rw [Nat.log2_zero]; omega
  have a := (Nat.log2_lt hx).mp h
  have b := (Nat.log2_lt hy).mp k
  refine (Nat.log2_lt (Nat.ne_of_gt (Nat.lcm_pos (Nat.pos_of_ne_zero hx) (Nat.pos_of_ne_zero hy)))).mpr ?_
  rw [Nat.pow_add]
  exact Nat.lt_of_le_of_lt (PySem.W.mc_lcm_le x y) (Nat.mul_lt_mul'' a b)
theorem max_log {x y n : Nat} (h : x.log2 < n) (k : y.log2 < n) : (max x y).log2 < n := by
  rcases Nat.le_total x y with q | q
  · rw [Nat.max_eq_right q]; exact k
  · rw [Nat.max_eq_left q]; exact h
def rLcm : List V → Hp → VK → Prop := fun xs H Q => ∃ a b : Int, xs = [.int a, .int b] ∧ LcmOk a b ∧ Q (.int ((a.natAbs.lcm b.natAbs : Nat) : Int)) H
theorem cr_lcm {X : Cx} : CallR X (.builtin "math.lcm") rLcm := by
  intro pins s σ H vs us Q I r h
  obtain ⟨a, b, rfl, ⟨ha, hb⟩, q⟩ := h
  obtain ⟨t, u, rfl⟩ := Vals.int2 r
  have h1 : (max 1 a.natAbs).log2 < 6000 := max_log (by rw [show Nat.log2 1 = 0 by rfl]; decide) ha
  have h2 : (max a.natAbs b.natAbs).log2 < 6000 := max_log ha hb
  have hz : ((((Nat.lcm 1 a.natAbs).lcm b.natAbs : Nat) : Int)).natAbs.log2 < bitsLine := by
    rw [PySem.W.mc_lcm_one, Int.natAbs_natCast]
    exact Nat.lt_of_lt_of_le (lcm_log ha hb) (by decide)
  refine call_function_meets PySem.W.MGF.kind_lcm PySem.W.MGF.plain_lcm PySem.W.MGF.entry_lcm (PySem.W.MGF.args_lcm _ _) (PySem.W.mg_run_lcm a t b u (by omega) (by omega) hz).meets ?_
  rw [PySem.W.mc_lcm_one]
  exact ⟨.int _, H, I.tok _, ⟨_, rfl⟩, q⟩
noncomputable def dLcm : List D → Option D := fun ds => match ds with
  | [.int a, .int b] => if LcmOk a b then some (.int ((a.natAbs.lcm b.natAbs : Nat) : Int)) else none
  | _ => none
theorem cd_lcm {G : Glb} : CallD G rLcm dLcm := ⟨fun ad S H st xs ds d Q su so r e q => by
  unfold dLcm at e
  split at e
  · rename_i a b
    split at e
    · rename_i ok
      cases e
      obtain ⟨v, w, rfl, r1, r2⟩ := reps2 r
      cases r1; cases r2
      exact ⟨a, b, rfl, ok, Post.here su so (.int _) q⟩
    · cases e
  · cases e⟩
end DL

namespace DL
open PySem PySem.Spec PyProof.Rows L2
theorem funToD {K : PySem.W.Frag} {x qual : Str} {st : Stmt} {f : Addr} {fd : FuncData} (F : Fun K x qual st f fd) : FunD K x qual (defArgs st) (defBody st) (defScope st) [] [] f fd := by
  obtain ⟨oc, od, kV, doc, pm, an, cdv, ct, osl, e, l, c⟩ := F.ex
  exact ⟨⟨oc, od, .none, kV, doc, pm, an, cdv, ct, osl, e, l, c, .inl ⟨rfl, rfl⟩, .inl rfl⟩, F.kp⟩
section
variable {P : Program} {w : World} {K : PySem.W.Frag} {mg : Str → Option Value} {base : Heap}
end
/-- a method as it stands behind the top -/
structure MetOk (K : PySem.W.Frag) (x qual : Str) (st : Stmt) (ps : List Str) (f : Addr) (fd : FuncData) : Prop where
  F : Fun K x qual st f fd
  b : Binds K fd ps []
/-- a class's __init__, with its defaults -/
structure IniOk (G : Glb) (mg : Str → Option Value) (cn qual : Str) (st : Stmt) (ps : List Str) (dvs : List V) (c : Nat) (f : Addr) (fd : FuncData) : Prop where
  F : FunD G.K "__init__" qual (defArgs st) (defBody st) (defScope st) dvs [] f fd
  g : mg cn = some (.ref (G.cl c))
  mkC : Mk G.K (G.cl c) f
  b : ∀ j, j ≤ dvs.length → ∃ ds, Vals (dvs.drop j) ds ∧ Binds G.K fd ps ds
theorem IniOk.plain {G : Glb} {mg : Str → Option Value} {cn qual : Str} {st : Stmt} {ps : List Str} {c : Nat} {f : Addr} {fd : FuncData} (F : Fun G.K "__init__" qual st f fd) (g : mg cn = some (.ref (G.cl c))) (mk : Mk G.K (G.cl c) f) (b : Binds G.K fd ps []) : IniOk G mg cn qual st ps [] c f fd :=
  ⟨funToD F, g, mk, fun j hj => ⟨[], by rw [List.drop_nil]; exact .nil, b⟩⟩
section
variable {G : Glb} {X : Cx} {W : WX} {O : Ow} {pos p : Pos} {x : Str} {e : Expr} {es : List Expr} {ma : MA} {k j n n' : Nat} {f : Addr} {fd : FuncData} {ps : List Str} {m : List D → M D} {ci : Nat} {dvs : List V} {dds : List D}
end
/-- the __eq__ of the class c -/
structure EqAt (P : Program) (w : World) (G : Glb) (K : PySem.W.Frag) (mg : Str → Option Value) (base : Heap) (k : Nat) (okT : Tag → Bool) (c : Nat) (m : List D → M D) : Prop where
  ex : ∃ j f fd ps, j ≤ k ∧ FnOk P w K mg base (L2N.CX P w) j f fd ps (spD G 2 m) ∧ PySem.W.findIn G.K (.ref (G.cl c)) "__eq__" = some (some (.ref f)) ∧ PySem.W.isFn G.K (.ref f) = true ∧ Binds G.K fd ps []
  nf : ∀ t, okT t = true → PySem.W.notFirst G.K (G.cl c) (tagV G t) = true
/-- what == of two values is -/
def eqT (okI : Nat → Bool) (okT : Tag → Bool) (eqs : Nat → Option (List D → M D)) (x y : D) : M D := fun st => match x with
  | .obj c _ => match eqs c with
    | some m => if ((tagD okI y).any okT) = true then (noEr (m [x, y] st)).bind fun d st3 => match d with
      | .bl k => .ok (.bl k) st3
      | _ => .bad
      else .bad
    | none => .bad
  | x => ret? (dEq x y) st
def mEqT (okI : Nat → Bool) (okT : Tag → Bool) (eqs : Nat → Option (List D → M D)) (ma mb : ME) : ME := fun env st => (ma env st).bind fun x st1 => (mb env st1).bind fun y => eqT okI okT eqs x y
section
variable {G : Glb} {X : Cx} {W : WX} {O : Ow} {pos : Pos} {a b : Expr} {ma mb : ME} {k kk : Nat} {okI : Nat → Bool} {okT : Tag → Bool} {eqs : Nat → Option (List D → M D)}
end
end DL

namespace DL
open PySem PySem.Spec PyProof.Rows L2
section
variable {G : Glb} {X : Cx} {W : WX} {O : Ow} {pos : Pos} {a b c : Expr} {ma mb mc : ME} {op op' : CmpOp} {r r' : R2} {f g : D → D → Option D}
/-- a + b, lists, as a new list -/
def cat? (x y : D) : M (List D) := fun st => match x, y with
  | .lst xs, .lst ys => if xs.length + ys.length ≤ sizeLine then .ok (xs ++ ys) st else .bad
  | _, _ => .bad
def mCat (ma mb : ME) : MA := fun env st => (ma env st).bind fun x st1 => (mb env st1).bind fun y => cat? x y
end
section
variable {P : Program} {w : World} {K : PySem.W.Frag} {mg : Str → Option Value} {base : Heap}
/-- a block at whose end True may be told whatever the heap is -/
structure DSsL (G : Glb) (X : Cx) (W : WX) (O : Ow) (s : List Stmt) (m : MS) : Prop where
  ex : ∃ t, PSs X s t ∧ ∀ (b : Act) S env st σ H D, (∀ H, D.rt (.bl true) H) → DI G b O S env st σ H → PostS G b {} (fun _ => True) W {} D S (m env st) → t D σ H
theorem dssL_of {G : Glb} {X : Cx} {W : WX} {O : Ow} {s : List Stmt} {m : MS} (h : DSs G X W {} (fun _ => True) O s {} m) : DSsL G X W O s m := let ⟨t, p, w⟩ := h.ex; ⟨t, p, fun b S env st σ H D _ I q => w b S env st σ H D I q⟩
theorem dssL_cons {G : Glb} {X : Cx} {W : WX} {O O1 : Ow} {s : Stmt} {rest : List Stmt} {m n : MS} (h1 : DS G X W {} (fun _ => True) O s O1 m) (h2 : DSsL G X W O1 rest n) : DSsL G X W O (s :: rest) (mSeq m n) := by
  obtain ⟨t, p, w⟩ := h1.ex
  obtain ⟨u, q, w2⟩ := h2.ex
  refine ⟨_, pss_cons p q, fun b S env st σ H D hD I h => w b S env st σ H _ I ?_⟩
  unfold mSeq at h
  cases e : m env st with
  | nx env1 st1 =>
    rw [e] at h
    intro S1 σ1 H1 x1 I1
    exact w2 b S1 env1 st1 σ1 H1 D hD I1 (h.from_ x1)
  | rt d st1 => rw [e] at h; exact h
  | bk env1 st1 => rw [e] at h; exact h
  | ct env1 st1 => rw [e] at h; exact h
  | er x env1 st1 => rw [e] at h; exact h
  | bad => rw [e] at h; exact h
/-- the law: its script made to a hand (by fH), then the rest over that cell -/
theorem lawD2 {G : Glb} {x y : Str} {st : Stmt} {f fH : Addr} {fd fdH : FuncData} {N : List Str} {k j : Nat} {rest : List Stmt} {m : MS} {mH : List D → M D} {p1 p2 p3 p4 p5 : Pos} (F : Fun K "law" "law" st f fd) (Sc : FnScope N ["_law_script"] (defScope st)) (hK : K = G.K)
    (hN1 : N[1]? = some x) (hl : Loc (defScope st) x) (hl0 : (defScope st).names.lookup ("_law_script" : Str) = some .local) (hy : (defScope st).names.lookup y = some .globalImplicit)
    (hbd : defBody st = .Assign [.Name x p1] (.Call (.Name y p2) [.Name "_law_script" p3] [] p4) p5 :: rest)
    (FH : FnOk P w K mg base (L2N.CX P w) j fH fdH ["_law_script"] (spD G 1 mH)) (hmg : mg y = some (.ref fH)) (hkp : PySem.W.keepIn K (.ref fH) = true) (hb : Binds K fdH ["_law_script"] []) (htb : G.tb = []) (hjk : j ≤ k)
    (hH : ∀ (ns : List Int), ns.length ≤ 63 → ∃ cells t, mH [.rol (ns.map .int)] [] = .ok (handD cells 0 0 t) [] ∧
      ∃ st', m (some (.rol (ns.map .int)) :: some (.tok 0) :: List.replicate (N.length - 2) none) [handD cells 0 0 t] = .rt (.bl true) st')
    (hrest : ∀ (cdv : Value) (A : Around) (outer : List Env) (s : Shared) (H : Hp) (E : XK), XC k G (cxOf (L2N.CX P w) P w K mg base N "law" (defScope st) f cdv A outer s H E) (fun cls d _ H' => E cls d H') → XT (cxOf (L2N.CX P w) P w K mg base N "law" (defScope st) f cdv A outer s H E) →
      DSsL G (cxOf (L2N.CX P w) P w K mg base N "law" (defScope st) f cdv A outer s H E) (fun cls d _ H' => E cls d H') {} rest m)
    (hfx : ∀ (cdv : Value) (A : Around) (outer : List Env) (s : Shared) (H : Hp) (E : XK), (cxOf (L2N.CX P w) P w K mg base N "law" (defScope st) f cdv A outer s H E).fn x = true ∨ (defScope st).names.lookup x = some .local) (hdy : (y == ("__debug__" : Str)) = false := by decide) (hnl : 2 ≤ N.length := by decide) :
    FnOk P w K mg base (L2N.CX P w) (k + 1) f fd ["_law_script"] (spLaw K) := by
  refine F.okN Sc (fun vs H Q E h => ?_) fun cdv A outer s H vs Q E hr h => ?_
  · obtain ⟨_, _, rfl, _⟩ := h
    rfl
  · obtain ⟨a, ns, rfl, hS, hns, hO, hQ⟩ := h
    have xc : XC k G (cxOf (L2N.CX P w) P w K mg base N "law" (defScope st) f cdv A outer s H E) (fun cls d _ H' => E cls d H') :=
      { tk := L2N.takes_of rfl rfl rfl rfl, po := passes_of rfl, calm := rfl, hr := hr, K := hK }
    obtain ⟨t, p, wt⟩ := (hrest cdv A outer s H E xc ⟨rfl, rfl⟩).ex
    rw [hbd]
    have hN0 : N[0]? = some ("_law_script" : Str) := by
      have e := Sc.pre
      cases N with
      | nil => simp at hnl
      | cons n N => simp at e; simp [e]
    obtain ⟨cells, tt, eH, st', em⟩ := hH ns hns
    refine ⟨_, pss_cons (ps_set (i := 1) Sc.nd hN1 hl (pe_callS FH (hr.mono hjk) hy hmg hkp hb (fun σ => L2N.passAt xc.tk σ) (pa_cons (pe_var (i := 0) hN0 (.inl hl0)) pa_nil) hdy) (by rfl) (hfx cdv A outer s H E)) p, ?_⟩
    have e0 : start N [V.ref a] = some (V.ref a) :: List.replicate (N.length - 1) none := rfl
    show tAsg (tCallS (spD G 1 mH) (WE fun cls d _ H' => E cls d H') (tCons (tVar 0) tNil)) (gName 1) _ (start N [V.ref a]) H
    refine ⟨.ref a, rfl, ?_⟩
    have hSub : Same H H := .refl _
    refine ⟨⟨H, H, []⟩, [.rol (ns.map .int)], [], rfl, rfl, hSub, ⟨rfl, .nil, fun n b hn => by simp at hn, fun p hp => by rw [htb] at hp; cases hp⟩, .cons (.rol (hK ▸ hS) (reps_ints ns)) .nil, ?_⟩
    rw [eH]
    intro v S' H' x1 su1 so1 r1
    -- the hand is a cell from now on
    cases r1 with
    | lst h1 r1 =>
      rename_i pa vs
      cases r1 with
      | cons r1 rr =>
        cases r1 with
        | lst hc rc =>
          rename_i pc ws
          have ew : ws = cells.map V.int := ints_of rc
          subst ew
          have hne : pc ≠ pa := fun z => by
            subst z
            rw [h1] at hc
            have := Option.some.inj hc
            cases cells with
            | nil => cases this
            | cons c cells => cases this
          have hHpa : H pa = none := by
            rcases x1.new pa _ h1 with z | z
            · replace z : H pa = some (HO.lst _) := z
              rcases hO pa with q | ⟨_, _, q⟩
              · exact q
              · rw [q] at z; cases z
            · exact z
          let S2 : Hp := fun c => if c = pa then none else S' c
          have hS2 : ∀ c, c ≠ pa → S2 c = S' c := fun c hc => if_neg hc
          have hS2p : S2 pa = none := if_pos rfl
          have sub2 : Same S2 H' := fun c o ho => by
            by_cases hcp : c = pa
            · subst hcp; rw [hS2p] at ho; cases ho
            · rw [hS2 c hcp] at ho; exact su1 _ _ ho
          have same2 : Same H S2 := fun c o ho => by
            rw [hS2 c (ne_of_none ho hHpa)]
            exact x1.same _ _ ho
          have rc2 : Rep G [pa] S2 (.ref pc) (.lst (cells.map .int)) := .lst (by rw [hS2 pc hne]; exact hc) (reps_ints cells)
          cases rr with
          | cons r2 rr =>
            cases r2
            cases rr with
            | cons r3 rr =>
              cases r3
              cases rr with
              | cons r4 rr =>
                cases r4
                cases rr
                have so2 : StoOk G [pa] S2 [handD cells 0 0 tt] H' := by
                  refine ⟨rfl, by simp, fun n b hb => ?_, fun p hp => by rw [htb] at hp; cases hp⟩
                  cases n with
                  | zero =>
                    have e : pa = b := by simpa using hb
                    subst e
                    exact ⟨hS2p, _, rfl, .lst (su1 _ _ h1) (.cons rc2 (.cons (.int _) (.cons (.int _) (.cons (.int _) .nil))))⟩
                  | succ n => simp at hb
                have I : DI G ⟨S2, H', [pa]⟩ {} S2 ([D.rol (ns.map .int), D.tok 0].map some ++ List.replicate (N.length - 2) none) [handD cells 0 0 tt] ([V.ref a, V.ref pa].map some ++ List.replicate (N.length - 2) none) H' :=
                  DI.start sub2 so2 (.cons (.rol (same2.seq (hK ▸ hS)) (reps_ints ns)) (.cons (.tok rfl) .nil))
                have eσ : (start N [V.ref a]).set 1 (some (V.ref pa)) = [V.ref a, V.ref pa].map some ++ List.replicate (N.length - 2) none := by
                  obtain ⟨l, hl⟩ : ∃ l, N.length = l + 2 := ⟨N.length - 2, by omega⟩
                  show (some (V.ref a) :: List.replicate (N.length - 1) none).set 1 (some (V.ref pa)) = _
                  rw [hl]
                  rfl
                refine wt ⟨S2, H', [pa]⟩ S2 _ _ _ H' _ hQ (eσ ▸ I) ?_
                have em' : m ([D.rol (ns.map .int), D.tok 0].map some ++ List.replicate (N.length - 2) none) [handD cells 0 0 tt] = .rt (.bl true) st' := em
                rw [em']
                intro v S3 H3 _ _ _ r3
                cases r3
                exact hQ H3
end
end DL

namespace HT
open PySem PySem.Spec PyProof.Rows
section
variable {prog : Program} {w : World} {A : Around} {E : Value → Shared → Prop} {s : Shared}
end
end HT
namespace DL
open PySem PySem.Spec PyProof.Rows L2
section
variable {X : Cx}
end
theorem Reps.reverse {G : Glb} {ad : List Addr} {S : Hp} : ∀ {vs : List V} {ds : List D}, Reps G ad S vs ds → Reps G ad S vs.reverse ds.reverse
  | _, _, .nil => .nil
  | _, _, .cons h r => by
    rw [List.reverse_cons, List.reverse_cons]
    exact (Reps.reverse r).append (.cons h .nil)
section
variable {G : Glb} {X : Cx} {W : WX} {O : Ow} {pos : Pos} {e : Expr} {me : ME}
end
end DL

namespace DL
open PySem PySem.Spec PyProof.Rows L2
theorem envGet (env : Env') (i : Nat) : (match env[i]? with | some (some d) => some d | _ => none) = get? env i := by
  induction env generalizing i with
  | nil => rfl
  | cons o r ih =>
    cases i with
    | zero => cases o <;> rfl
    | succ i => exact ih i
/-- how an __init__'s end is a call's -/
def initR : Out → Res D
  | .nx (some d :: _) st1 => .ok d st1
  | .er x _ st1 => .err x st1
  | _ => .bad
def pushR (i : Nat) (o : Option D) (r : Res D) (env : Env') : Out := match o with
  | some (.lst ds) => match r with
    | .ok d st1 => if ds.length < sizeLine then .nx (env.set i (some (.lst (ds ++ [d])))) st1 else .bad
    | .err x st1 => .er x env st1
    | .bad => .bad
  | _ => .bad
theorem mPush_eq (i : Nat) (me : ME) (env : Env') (st : List D) : mPush i me env st = pushR i (get? env i) (me env st) env := by
  unfold mPush pushR
  rw [← envGet]
  cases env[i]? with
  | none => rfl
  | some o => cases o with
    | none => rfl
    | some d => cases d <;> rfl
theorem pushR_ok (i : Nat) (ds : List D) (d : D) (st1 : List D) (env : Env') (h : ds.length < 100000) : pushR i (some (.lst ds)) (.ok d st1) env = .nx (env.set i (some (.lst (ds ++ [d])))) st1 := by
  show (if ds.length < sizeLine then Out.nx (env.set i (some (.lst (ds ++ [d])))) st1 else .bad) = _
  rw [if_pos (Nat.lt_of_lt_of_le h (by decide))]
/-- a method's call, the object known -/
def methR (ci : Nat) (name : Str) (f : List D → M D) (ma : List D → Res (List D)) (d : D) : M D := fun st1 => match d with
  | .obj c fs => if c = ci ∧ fs.lookup name = none then (ma st1).bind fun ds => f (d :: ds) else .bad
  | _ => .bad
def fldSR (okF : Nat → Str → Bool) (f : Str) (c : Nat) (fs : List (Str × D)) (env : Env') (r : Res D) : Out := match r with
  | .ok d st1 => if okF c f = true ∧ fs.length < 1000 then .nx (some (.obj c (putD f d fs)) :: env) st1 else .bad
  | .err x st1 => .er x (some (.obj c fs) :: env) st1
  | .bad => .bad
def raiseR (c : Nat) (fs : List Str) (env : Env') (r : Res (List D)) : Out := match r with
  | .ok ds st1 => if ds.length = fs.length ∧ ds.length ≤ 100 then .er ⟨c, some (fs.zip ds).reverse⟩ env st1 else .bad
  | .err x st1 => .er x env st1
  | .bad => .bad
def chainR (f g : D → D → Option D) (mc : List D → Res D) (x y : D) : M D := fun st2 => match f x y with
  | some (.bl true) => (mc st2).bind fun z => ret? (g y z)
  | some (.bl false) => .ok (.bl false) st2
  | _ => .bad
theorem ev6 :
    (∀ (okF : Nat → Str → Bool) (f : Str) (me : ME) (env : Env') (st : List D), mFld okF f me env st = (me env st).bind fun d => ret? (dFld okF f d)) ∧
    (∀ (f : List D → M D) (dds : List D) (ma : MA) (env : Env') (st : List D), mCallD f dds ma env st = (ma env st).bind fun ds => f (ds ++ dds)) ∧
    (∀ (ci : Nat) (name : Str) (f : List D → M D) (mo : ME) (ma : MA) (env : Env') (st : List D), mMeth ci name f mo ma env st = (mo env st).bind fun d => methR ci name f (ma env) d) ∧
    (∀ (okF : Nat → Str → Bool) (f : Str) (me : ME) (c : Nat) (fs : List (Str × D)) (env : Env') (st : List D), mFldS okF f me (some (.obj c fs) :: env) st = fldSR okF f c fs env (me (some (.obj c fs) :: env) st)) ∧
    (∀ (c : Nat) (fs : List Str) (ma : MA) (env : Env') (st : List D), mRaiseF c fs ma env st = raiseR c fs env (ma env st)) ∧
    (∀ (f g : D → D → Option D) (ma mb mc : ME) (env : Env') (st : List D), mChain f g ma mb mc env st = (ma env st).bind fun x st1 => (mb env st1).bind fun y => chainR f g (mc env) x y) ∧
    (∀ (i : Nat) (m : MA) (env : Env') (st : List D), mSetF i m env st = match m env st with
      | .ok ds st1 => .nx (env.set i (some (.lst ds))) st1
      | .err x st1 => .er x env st1
      | .bad => .bad) ∧
    (∀ (ma mb : ME) (env : Env') (st : List D), mCat ma mb env st = (ma env st).bind fun x st1 => (mb env st1).bind fun y => cat? x y) ∧
    (∀ (i : Nat) (me : ME) (env : Env') (st : List D), mPush i me env st = pushR i (get? env i) (me env st) env) ∧
    (∀ (okI : Nat → Bool) (okT : Tag → Bool) (eqs : Nat → Option (List D → M D)) (ma mb : ME) (env : Env') (st : List D), mEqT okI okT eqs ma mb env st = (ma env st).bind fun x st1 => (mb env st1).bind fun y => eqT okI okT eqs x y) ∧
    (∀ (e : Env') (d : D) (st : List D), initR (.nx (some d :: e) st) = .ok d st) ∧ (∀ (x : Ex) (e : Env') (st : List D), initR (.er x e st) = .err x st) :=
  ⟨fun _ _ _ _ _ => rfl, fun _ _ _ _ _ => rfl, fun _ _ _ _ _ _ _ => rfl, fun _ _ _ _ _ _ _ => rfl, fun _ _ _ _ _ => rfl, fun _ _ _ _ _ _ _ => rfl, fun _ _ _ _ => rfl, fun _ _ _ _ => rfl, mPush_eq, fun _ _ _ _ _ _ _ => rfl, fun _ _ _ => rfl, fun _ _ _ => rfl⟩
theorem ev : type_of% ev1 ∧ type_of% ev2 ∧ type_of% ev3 ∧ type_of% ev4 ∧ type_of% ev5 ∧ type_of% ev6 := ⟨ev1, ev2, ev3, ev4, ev5, ev6⟩
/-- a comprehension by the items' values -/
theorem lcD_mapL {env : Env'} {g : MG} {mt : MT} {me : ME} {st : List D} {α β : Type} (u : α → D) (v : β → D) (f : α → β) (l : List α) (h : ∀ a ∈ l, ∃ env1, g (u a) env = some env1 ∧ mt env1 st = .ok true st ∧ me env1 st = .ok (v (f a)) st) : lcD env g mt me (l.map u) st = .ok ((l.map f).map v) st := by
  induction l with
  | nil => rfl
  | cons a l ih =>
    obtain ⟨e1, h1, h2, h3⟩ := h a List.mem_cons_self
    have ih := ih fun b hb => h b (List.mem_cons_of_mem _ hb)
    rw [List.map_cons]
    unfold lcD
    simp only [h1]
    rw [h2]
    simp only [noEr, bind_ok, if_pos]
    rw [h3]
    simp only [bind_ok]
    rw [ih]
    rfl
theorem mFor_of {mi : MA} {g : MG} {body : MS} {env : Env'} {st st1 : List D} {ds : List D} {o : Out} (h : mi env st = .ok ds st1) (k : forD g body ds env st1 = o) : mFor mi g body env st = o := by unfold mFor; rw [h]; exact k
theorem mThenA_of {ma : MA} {f : List D → M (List D)} {env : Env'} {st st1 : List D} {xs : List D} {r : Res (List D)} (h : ma env st = .ok xs st1) (k : f xs st1 = r) : mThenA ma f env st = r := by unfold mThenA; rw [h]; exact k
theorem mItems_of {me : ME} {env : Env'} {st st1 : List D} {x : D} {r : Res (List D)} (h : me env st = .ok x st1) (k : items? x st1 = r) : mItems me env st = r := by unfold mItems; rw [h]; exact k
theorem mLC_of {mi : MA} {vs : List Nat} {g : MG} {mt : MT} {me : ME} {env : Env'} {st st1 st2 : List D} {ds ys : List D} (h : mi env st = .ok ds st1) (k : lcD (wipeE env vs) g mt me ds st1 = .ok ys st2) (hl : ys.length ≤ 100000) : mLC mi vs g mt me env st = .ok (.lst ys) st2 := by
  unfold mLC; rw [h, bind_ok, k, bind_ok]
  unfold lstOk
  rw [if_pos (Nat.le_trans hl (by decide))]
theorem mSeq_of {a b : MS} {env e : Env'} {st s : List D} (h : a env st = .nx e s) : mSeq a b env st = b e s := by unfold mSeq; rw [h]
theorem mSet_of {i : Nat} {m : ME} {env : Env'} {st s : List D} {d : D} (h : m env st = .ok d s) : mSet i m env st = .nx (env.set i (some d)) s := by unfold mSet mDo; rw [h]
end DL

namespace DL
open PySem PySem.Spec PyProof.Rows L2
section
variable {G : Glb} {X : Cx} {W : WX} {O Ob : Ow} {OE : Ow → Prop} {pos : Pos} {e : Expr} {me : ME}
end
section
open PySem.W
variable {P : Program} {w : World} {A : Around} {E : Value → Shared → Prop} {K : Frag} {x D : Addr} {ob : Obj} {od : Option Obj}
theorem obj_descr {n : Str} {at_ get : Value} (c : hasDictIn K D = true) (f : findIn K (.ref D) n = some (some at_)) (g : specialIn K at_ "__get__" = some (some get)) (t : takesIn K at_ = some true) : findObj K D od n = some (.bind get at_) := by
  obtain ⟨cd, e, _⟩ := any_some c
  unfold findObj
  simp [e, f, g, t]
set_option maxHeartbeats 1000000 in
/-- e.__class__ of an error e of an own class, whatever its dict -/
theorem err_class {s : Shared} {Q : Option Value → Shared → Prop} (c : ExcC K D) (kin : K.In s.heap) (i : InstAt s.heap x ob D od) (q : Q (some (.ref D)) { s with toks := s.toks + 1 }) : wpAny (model P w) A (getAttr? (.ref x) "__class__") Q E s := by
  obtain ⟨h, gl, dd, tk, os⟩ := s
  have ty := i.type (M := model P w)
  have own := looks_findIn (M := model P w) kin c.hg
  have late := looks_findIn (M := model P w) kin c.hk
  have found := looks_find (M := model P w) kin i (obj_descr (od := od) c.hd c.ha c.hn c.ht)
  have isE : Looks (model P w) h (isInstance (.ref x) (.type "BaseException")) true := ty.andThen (looks_subIn kin c.hs)
  have notO : (onTheHeap (Value.ref D) && Value.builtin "BaseException.__getattribute__" == Value.builtin "object.__getattribute__") = false := by
    have : (Value.builtin "BaseException.__getattribute__" == Value.builtin "object.__getattribute__") = false := by decide +kernel
    rw [this]; rfl
  unfold getAttr? getAttrBy? getAttrBy
  refine wpAny_bind (wpAny_mkText (wpAny_bind (wpAny_attempt (wpAny_holding (wpAny_bind (ty.at (wpAny_bind (own.at ?_))))))))
  show wpAny _ _ (if (onTheHeap (Value.ref D) && Value.builtin "BaseException.__getattribute__" == Value.builtin "object.__getattribute__") = true then _ else _) _ _ _
  rw [notO]
  simp only [Bool.false_eq_true, if_false]
  unfold getAttrByItsOwn hookBefore
  refine wpAny_bind ?_
  rw [if_pos (show onTheHeap (Value.ref D) = true from rfl)]
  refine late.at (wpAny_bind (wpAny_attempt (wpAny_holding ?_)))
  unfold callGetattribute
  rw [show (false && onTheHeap (Value.builtin "BaseException.__getattribute__")) = false from rfl]
  simp only [Bool.false_eq_true, if_false]
  unfold boundAndCalled
  rw [PySem.F.excAttr_ValueError.ga.bind (.ref x)]
  refine wpAny_bind (wpAny_pure ?_)
  show wpAny (model P w) _ (call (Value.builtin "BaseException.__getattribute__") [Value.ref x, Value.str "__class__" tk]) _ _ _
  refine wpAny_call (codeAny_call_builtin PySem.F.excAttr_ValueError.ga.plain PySem.F.entry_bexc_ga ?_)
  refine @check_slot (model P w) _ _ (⟨h, gl, dd, tk + 1, os⟩ : Shared) "BaseException.__getattribute__" "BaseException" "__getattribute__" (Value.ref x) [Value.str "__class__" tk] [] _ (by decide +kernel) (by decide +kernel) isE (PySem.F.args_bexc_ga (Value.ref x) (Value.str "__class__" tk)) ?_
  unfold Builtin.«object.__getattribute__»
  refine wpAny_bind (wpAny_of_eq (a := ((Value.ref x : Value), [Value.str "__class__" tk])) (by first | rfl | (simp only [slotArgs]; rfl)) (wpAny_bind (wpAny_pure (wpAny_bind (ty.at (wpAny_bind (found.at ?_)))))))
  refine wpAny_bind (wpAny_holding (wpAny_call (class_get (s := ⟨h, gl, dd, tk + 1, os⟩) (ox := ob) (od := od) kin i c.hm (wpAny_pure ?_))))
  show wpAny _ _ (handedOut (.ref D)) _ _ _
  rw [handedOut_of (v := .ref D) rfl]
  first
    | exact wpAny_pure (wpAny_pure q)
    | exact wpAny_pure q
    | exact wpAny_pure (wpAny_bind (wpAny_pure (wpAny_pure q)))
end
section
open PySem.W
variable {K : Frag} {x D : Addr} {ob : Obj} {od : Option Obj}
theorem err_kit (c : ExcC K D) : KitX K (.ref x) (.ref D) (fun h => InstAt h x ob D od) where
  ty := fun _ _ _ j => j.type
  it := fun _ _ kin _ => by
    obtain ⟨_, e, _⟩ := any_some c.hd
    unfold clsIn at e
    split at e
    · rename_i part
      intro _ _ _ _ there q
      unfold isType loadHead
      exact wpAny_bind (wpAny_loadPart (there _ _ (kin _ _ part)) (wpAny_pure q))
    · cases e
  ne := (handS_kitx_exc (x := x) (ox := ob) c.hg c.hk c.hs c.hd c.ha c.hn c.ht c.hm).ne
  ca := fun kin j q => err_class c kin j q
end
section
variable {G : Glb} {X : Cx} {W : WX} {pos : Pos}
/-- the dict of a caught error, where it has one -/
def DictAt (H : Hp) : Option Addr → Prop
  | none => True
  | some a => ∃ fs, H a = some (.xd fs)
theorem call_isEF {a D : Addr} {dd : Option Addr} {oe : Obj} {pn : List (Addr × Obj)} (C : ExcC X.K D) (hz : L2N.Zn (.ref D) dd oe) (hf : ∃ vs, oe.data = .fields vs) : CallR (X.suite a ((a, oe) :: pn)) (.builtin "isinstance") (fun xs H Q => DictAt H dd ∧ rIsE X.K D a xs H Q) := by
  intro pins s σ H xs us Q I r h
  obtain ⟨hd, c, cv, b, rfl, hcv, e, q⟩ := h
  cases r with
  | cons rx rr =>
    cases rr with
    | cons rt rr =>
      cases rr
      cases rx
      have ec := hcv _ rt
      subst ec
      obtain ⟨at_, _⟩ := I.pin (a, oe) (List.mem_append.mpr (.inl List.mem_cons_self))
      obtain ⟨vs, data⟩ := hf
      have no : PySem.W.notCls oe = true := by unfold PySem.W.notCls; rw [data]
      obtain ⟨od, J⟩ : ∃ od, PySem.W.InstAt s.heap a oe D od := by
        cases dd with
        | none => exact ⟨none, at_, hz.1, no, by rw [hz.2.1]; trivial⟩
        | some dx =>
          obtain ⟨fs, hx⟩ := hd
          obtain ⟨mA, hns, _⟩ := (show ObjOk X.prog X.w H s.heap dx (.xd fs) from I.hok dx _ hx)
          obtain ⟨od, ho, _⟩ := lookIn_ns hns
          exact ⟨some od, at_, hz.1, no, by rw [hz.2.1]; exact ho⟩
      exact PySem.W.kia_one (err_kit C) I.kIn J e (fun z => nomatch z) fun tk => ⟨.bl b, H, I.kept (t' := tk) fun _ _ z => z, rfl, q⟩
def mIsXF (i : Nat) (tab : Nat → D → Option Bool) (mc : ME) : ME := fun env st => match env[i]? with
  | some (some (.obj c _)) => (mc env st).bind fun d => ret? ((tab c d).map .bl)
  | _ => .bad
theorem de_isXF {own : List Nat} {a : Addr} {oe : Obj} {cls : Value} {dd : Option Addr} {pn : List (Addr × Obj)} {p pe : Pos} {n : Str} {C : Expr} {mc : ME} (i : Nat) (tab : Nat → D → Option Bool) (hz : L2N.Zn cls dd oe) (hf : ∃ vs, oe.data = .fields vs) (hK : X.K = G.K) (hm : X.mg "isinstance" = none)
    (ht : ∀ c d b, tab c d = some b → ExcC G.K (G.cl c) ∧ ∃ cv, clsV G d = some cv ∧ PySem.W.kitOne G.K (.ref (G.cl c)) cv = some b) (hC : DE G (X.suite a ((a, oe) :: pn)) W0 ⟨own, some i, (a, cls, dd), none, (0, 0)⟩ C mc)
    (hi : X.N[i]? = some n := by rfl) (hg : Gl X "isinstance" := by rfl) (hv : Vis X.env.scope n := by first | exact Or.inl rfl | exact Or.inr (Or.inl rfl) | exact Or.inr (Or.inr rfl)) (hd : (n == ("__debug__" : Str)) = false := by decide) (hcd : (n == ("__classdict__" : Str)) = false := by decide)
    (he : starEach [.Name n pe, C] X.env = (false, eval (.Name n pe) X.env) :: starEach [C] X.env := by rfl) (he2 : starEach [C] X.env = (false, eval C X.env) :: starEach [] X.env := by rfl) (hpl : (backTo pos (starEach [C] X.env)).any (·.1) = false := by rfl) :
    DE G (X.suite a ((a, oe) :: pn)) W0 ⟨own, some i, (a, cls, dd), none, (0, 0)⟩ (.Call (.Name "isinstance" p) [.Name n pe, C] [] pos) (mIsXF i tab mc) := by
  obtain ⟨t, pc, w⟩ := hC.ex
  have hr : CallR (X.suite a ((a, oe) :: pn)) (.builtin "isinstance") (fun xs H Q => ∃ D, cls = .ref D ∧ ExcC X.K D ∧ DictAt H dd ∧ rIsE X.K D a xs H Q) := by
    intro pins s σ H xs us Q I r h
    obtain ⟨D, e1, hCx, h⟩ := h
    subst e1
    exact call_isEF hCx hz hf pins s σ H xs us Q I r h
  refine ⟨_, pe_callB hr hg hm PyProof.Rows.boot_isinstance (pa_cons (pe_var (i := i) hi hv hd hcd) (pa_cons pc pa_nil he2) he) (by decide) (by decide) he hpl, fun b S env st σ H Q I h => ?_⟩
  unfold mIsXF at h
  split at h
  · rename_i c u e
    obtain ⟨x, q1, q2, q3⟩ := I.exc i _ rfl e
    have rx : cls = .ref (G.cl c) ∧ DictAt S dd := by
      obtain ⟨c', fs⟩ := x
      cases fs with
      | none =>
        cases q1
        have z : dd = none := q3.2
        exact ⟨q3.1, by rw [z]; trivial⟩
      | some fs =>
        cases q1
        obtain ⟨g1, ad', vs, g2, g3, g4⟩ := q3
        have z : dd = some ad' := g2
        exact ⟨g1, by rw [z]; exact ⟨vs, g3⟩⟩
    refine ⟨_, q2, w b S env st σ H _ I (wpR_imp (wpR_bind h) (fun d st1 h1 => ?_) fun _ _ z => z)⟩
    intro v S1 H1 x1 su1 so1 r1
    cases et : tab c d with
    | none => rw [et] at h1; exact h1.elim
    | some bb =>
      rw [et] at h1
      obtain ⟨hE, cv, hcv, hk⟩ := ht c d bb et
      have hdd : DictAt H1 dd := by
        cases dd with
        | none => trivial
        | some ax => obtain ⟨fs, hx⟩ := rx.2; exact ⟨fs, su1 _ _ (x1.same _ _ hx)⟩
      exact ⟨_, rx.1, hK ▸ hE, hdd, v, cv, bb, rfl, cls_rel r1 hcv, hK ▸ hk, h1 _ _ _ x1 su1 so1 (.bl _)⟩
  · exact h.elim
end
section
variable {X : Cx} {CX : CXT} {n : Nat} {C f : Addr} {fd : FuncData} {ps : List Str} {sp : Sp}
end
section
variable {G : Glb} {X : Cx} {W : WX} {O : Ow} {pos p : Pos} {e : Expr} {me : ME} {k j : Nat} {f : Addr} {fd : FuncData} {ps : List Str} {m : List D → M D} {ci : Nat}
end
end DL

namespace DL
open PySem PySem.Spec PyProof.Rows L2
structure ScS (ps : List Str) (sc : Scope) : Prop where
  kind : sc.kind = .function
  co : sc.isCoroutine = false
  gen : sc.isGenerator = false
  nd : ps.Nodup
  par : ∀ x ∈ ps, sc.names.lookup x = some .local
  nocell : ∀ y ∈ sc.names, y.2 ≠ .cell
  onefree : ∀ y ∈ sc.names, y.2 = .free → y.1 = "__class__"
  cls : sc.names.lookup ("__class__" : Str) = some .free
  sup : sc.names.lookup ("super" : Str) = some .globalImplicit
section
variable {P : Program} {w : World} {K : PySem.W.Frag} {mg : Str → Option Value} {base : Heap} {ps : List Str} {qual : Str} {scope : Scope} {f cc : Addr} {cd : Value} {A : Around} {outer : List Env} {s : Shared} {H : Hp} {E : XK}
end
theorem Inv.with {X : Cx} {σ : L2.St} {H : Hp} {s : Shared} (I : Inv X [] σ H s) {p : Addr × Obj} (h1 : s.heap.get? p.1 = some p.2) (h2 : H p.1 = none) (h3 : p.1 ≠ X.env.locals) (h4 : p.1 ∉ X.fs) (h5 : ∀ v, p.2.data ≠ .cell v) : Inv X [p] σ H s :=
  ⟨I.ok, I.os, I.bare, I.base, I.loc, I.cell, I.free, I.freeC, fun q hq => by
    rcases List.mem_append.mp hq with z | z
    · exact I.pin q (List.mem_append_left _ z)
    · have e := List.mem_singleton.mp z
      subst e
      exact ⟨h1, h2, h3, h4, h5⟩, I.hok, I.len⟩
/-- a def of a class's body that says super() -/
structure FunS (P : Program) (K : PySem.W.Frag) (x qual : Str) (st : Stmt) (C : Addr) (f : Addr) (fd : FuncData) : Prop where
  ex : ∃ (oc : Value) (od : Option Addr) (kV doc pm : Value) (an : Option Addr) (cda cc : Addr) (ct : Value) (osl : Array (Option Value)) (cl ccl : Value) (cld cdd : Option Addr) (csl ccs : Array (Option Value)) (vs : Array Value) (file : Str) (tf : Tok),
    fd = PySem.W.ksFn x qual (defArgs st) (defBody st) (defScope st) .none kV doc pm an (.ref cda) ct cc ∧ K.lookup f = some ⟨oc, od, .func fd, osl⟩ ∧ PySem.W.codeIn K (.ref cda) qual = true ∧ K.lookup cc = some ⟨cl, cld, .cell (some (.ref C)), csl⟩ ∧ K.lookup cda = some ⟨ccl, cdd, .fields vs, ccs⟩ ∧ vs[2]? = some (.str file tf) ∧ ((P.main.file : Str) == file) = true
  kp : PySem.W.keepIn K (.ref f) = true
/-- what the written part says of the class, for super() -/
structure SupT (P : Program) (K : PySem.W.Frag) (mg : Str → Option Value) (C : Addr) : Prop where
  oc : OexC K C
  along : PySem.W.ks_superIn K C C "__init__" = some (some (.builtin "ValueError.__init__"))
  ve : PySem.W.subIn K (.ref C) (.type "ValueError") = some true
  own : PySem.W.mroIn K C (.ref C) = some true
  opq : PySem.W.nsIn K PySem.cStatics "thirdparty.any" = some none
  sup : mg "super" = none
  top : (P.main.scope.names.lookup ("super" : Str)).isSome = false
section
variable {P : Program} {w : World} {K : PySem.W.Frag} {mg : Str → Option Value} {base : Heap}
end
end DL

namespace DL
open PySem PySem.Spec PyProof.Rows L2
section
variable {X : Cx} {σ : L2.St} {H : Hp} {e : Expr} {es : List Expr} {pos p : Pos}
end
section
variable {P : Program} {K : PySem.W.Frag} {x qual : Str} {st : Stmt} {C f : Addr} {fd : FuncData}
theorem FunS.binds {ps : List Str} (F : FunS P K x qual st C f fd) (h : ∀ (kV doc pm : Value) (an : Option Addr) (cda ct : Value) (cc : Addr) (us : List Value), us.length = ps.length → bindArgs (PySem.W.ksFn x qual (defArgs st) (defBody st) (defScope st) .none kV doc pm an cda ct cc) ⟨us, []⟩ = pure (ps.zip us)) : Binds K fd ps [] := by
  obtain ⟨oc, od, kV, doc, pm, an, cda, cc, ct, osl, cl, ccl, cld, cdd, csl, ccs, vs, file, tf, rfl, _⟩ := F.ex
  exact .all (h kV doc pm an (.ref cda) ct cc)
structure MetS (P : Program) (K : PySem.W.Frag) (x qual : Str) (st : Stmt) (ps : List Str) (C f : Addr) (fd : FuncData) : Prop where
  F : FunS P K x qual st C f fd
  b : Binds K fd ps []
end
section
variable {P : Program} {w : World} {K : PySem.W.Frag} {mg : Str → Option Value} {base : Heap}
end
section
variable {G : Glb} {X : Cx} {W : WX} {Ob : Ow} {OE : Ow → Prop} {O O1 : Ow} {pos p pos' : Pos} {k j : Nat} {x : Str} {c : Nat} {fI : Addr} {fd : FuncData} {ps fs : List Str} {e : Expr} {es : List Expr} {ma : MA} {okV : List V → Prop} {okD : List D → Bool}
end
end DL

namespace DL
open PySem PySem.Spec PyProof.Rows L2
mutual
/-- no token from n on -/
def tokLt (n : Nat) : D → Bool
  | .tok k => decide (k < n)
  | .tup xs => tokLts n xs
  | .lst xs => tokLts n xs
  | .rol xs => tokLts n xs
  | .obj _ fs => tokLtF n fs
  | .non => true
  | .bl _ => true
  | .int _ => true
  | .str _ => true
  | .ty _ => true
  | .cls _ => true
  | .dic => true
  | .tpx xs => tokLts n xs
  | .dct fs => tokLtF n fs
  | .xob _ fs => tokLtF n fs
def tokLts (n : Nat) : List D → Bool
  | [] => true
  | d :: ds => tokLt n d && tokLts n ds
def tokLtF (n : Nat) : List (Str × D) → Bool
  | [] => true
  | p :: r => tokLt n p.2 && tokLtF n r
end
section
variable {G : Glb} {ad : List Addr} {a : Addr} {S : Hp}
mutual
theorem Rep.more : ∀ {v : V} {d : D}, Rep G ad S v d → Rep G (ad ++ [a]) S v d
  | _, _, .non => .non
  | _, _, .bl b => .bl b
  | _, _, .int i => .int i
  | _, _, .str x => .str x
  | _, _, .ty n => .ty n
  | _, _, .tup h r => .tup h (Reps.more r)
  | _, _, .lst h r => .lst h (Reps.more r)
  | _, _, .rol h r => .rol h (Reps.more r)
  | _, _, .obj h r => .obj h (RepF.more r)
  | _, _, .cls c => .cls c
  | _, _, .tok h => .tok (by rw [List.getElem?_append_left (List.getElem?_eq_some_iff.mp h).1]; exact h)
  | _, _, .dic h => .dic h
  | _, _, .tpx q h n r => .tpx q h n (Reps.more r)
  | _, _, .dct h r => .dct h (RepF.more r)
  | _, _, .xob h => .xob h
  | _, _, .xobF h h2 r => .xobF h h2 (RepF.more r)
theorem Reps.more : ∀ {vs : List V} {ds : List D}, Reps G ad S vs ds → Reps G (ad ++ [a]) S vs ds
  | _, _, .nil => .nil
  | _, _, .cons h r => .cons (Rep.more h) (Reps.more r)
theorem RepF.more : ∀ {vs : List (Str × V)} {ds : List (Str × D)}, RepF G ad S vs ds → RepF G (ad ++ [a]) S vs ds
  | _, _, .nil => .nil
  | _, _, .cons h r => .cons (Rep.more h) (RepF.more r)
end
mutual
theorem Rep.less : ∀ {v : V} {d : D}, Rep G (ad ++ [a]) S v d → tokLt ad.length d = true → Rep G ad S v d
  | _, _, .non, _ => .non
  | _, _, .bl b, _ => .bl b
  | _, _, .int i, _ => .int i
  | _, _, .str x, _ => .str x
  | _, _, .ty n, _ => .ty n
  | _, _, .tup h r, k => .tup h (Reps.less r (by unfold tokLt at k; exact k))
  | _, _, .lst h r, k => .lst h (Reps.less r (by unfold tokLt at k; exact k))
  | _, _, .rol h r, k => .rol h (Reps.less r (by unfold tokLt at k; exact k))
  | _, _, .obj h r, k => .obj h (RepF.less r (by unfold tokLt at k; exact k))
  | _, _, .cls c, _ => .cls c
  | _, _, .tok h, k => .tok (by
      unfold tokLt at k
      rw [List.getElem?_append_left (by simpa using k)] at h
      exact h)
  | _, _, .dic h, _ => .dic h
  | _, _, .tpx q h n r, k => .tpx q h n (Reps.less r (by unfold tokLt at k; exact k))
  | _, _, .dct h r, k => .dct h (RepF.less r (by unfold tokLt at k; exact k))
  | _, _, .xob h, k => .xob h
  | _, _, .xobF h h2 r, k => .xobF h h2 (RepF.less r (by unfold tokLt at k; exact k))
theorem Reps.less : ∀ {vs : List V} {ds : List D}, Reps G (ad ++ [a]) S vs ds → tokLts ad.length ds = true → Reps G ad S vs ds
  | _, _, .nil, _ => .nil
  | _, _, .cons h r, k => by
    unfold tokLts at k
    rw [Bool.and_eq_true] at k
    exact .cons (Rep.less h k.1) (Reps.less r k.2)
theorem RepF.less : ∀ {vs : List (Str × V)} {ds : List (Str × D)}, RepF G (ad ++ [a]) S vs ds → tokLtF ad.length ds = true → RepF G ad S vs ds
  | _, _, .nil, _ => .nil
  | _, _, .cons h r, k => by
    unfold tokLtF at k
    rw [Bool.and_eq_true] at k
    exact .cons (Rep.less h k.1) (RepF.less r k.2)
end
theorem pairsD_lt (n : Nat) : ∀ (ks : List (List Key)) (ds : List D), tokLts n (pairsD ks ds) = true → ds.length ≤ ks.length → tokLts n ds = true
  | _, [], _, _ => by simp [tokLts]
  | [], _ :: _, _, h => by simp at h
  | k :: ks, d :: ds, e, h => by
    have e : tokLts n (D.tup [.tup (k.map keyD), d] :: pairsD ks ds) = true := e
    simp only [tokLts, tokLt, Bool.and_eq_true] at e ⊢
    exact ⟨e.1.2.1, pairsD_lt n ks ds e.2 (by simpa using h)⟩
theorem CellAt.more {H : Hp} {c : Addr} {d : D} (h : CellAt G ad S H c d) : CellAt G (ad ++ [a]) S H c d := by
  cases h with
  | lst h1 r => exact .lst h1 r.more
  | dct h1 r => exact .dct h1 r.more
  | ins h1 h2 r => exact .ins h1 h2 r.more
theorem CellAt.less {H : Hp} {c : Addr} {d : D} (h : CellAt G (ad ++ [a]) S H c d) (k : tokLt ad.length d = true) : CellAt G ad S H c d := by
  cases h with
  | lst h1 r => exact .lst h1 (r.less (by unfold tokLt at k; exact k))
  | dct h1 r => exact .dct h1 (r.less (pairsD_lt _ _ _ (by unfold tokLt at k; exact k) (by rw [← r.len]; simp)))
  | ins h1 h2 r => exact .ins h1 h2 (r.less (by unfold tokLt at k; exact k))
end
/-- an owned list as a cell -/
theorem DI.cell {G : Glb} {b : Act} {O O' : Ow} {S : Hp} {env : Env'} {st : List D} {σ : L2.St} {H : Hp} {i : Nat} {ds : List D} (I : DI G b O S env st σ H) (hi : i ∈ O.own) (e : env[i]? = some (some (.lst ds))) (hx : O.exi = none) (hs : O.slf = none) (hx' : O'.exi = none) (hs' : O'.slf = none) (sub : ∀ j ∈ O'.own, j ∈ O.own ∧ j ≠ i) (sup : ∀ j ∈ O.own, j ≠ i → j ∈ O'.own) :
    ∃ a, σ[i]? = some (some (.ref a)) ∧ S a = none ∧ b.H a = none ∧ a ∉ b.ad ∧ DI G ⟨b.S, b.H, b.ad ++ [a]⟩ O' S (env.set i (some (.tok st.length))) (st ++ [.lst ds]) σ H := by
  obtain ⟨a, vs, ds', q1, q2, q3, q4, q5, q6, q7⟩ := I.own i _ hi e
  cases q1
  have hil : i < env.length := (List.getElem?_eq_some_iff.mp e).1
  have hln := I.sto.len
  have keepj : ∀ {j : Nat} {d : D}, j ≠ i → (env.set i (some (.tok st.length)))[j]? = some (some d) → env[j]? = some (some d) := fun {j d} hj h => by rwa [List.getElem?_set_ne (Ne.symm hj)] at h
  refine ⟨a, q2, q4, q5, q6, ⟨by rw [I.len, List.length_set], I.sub, I.s0, I.new, fun c o h hc => I.keep c o h fun z => hc (List.mem_append_left _ z), fun j d h ho => ?_, fun j d hj h => ?_, fun j k c hj hk e1 e2 => ?_, ⟨by simp [hln], ?_, fun n c hn => ?_, I.sto.tab⟩, fun j d h _ => (by rw [hx'] at h; cases h), fun j h => (by rw [hs'] at h; cases h)⟩⟩
  · by_cases hj : j = i
    · subst hj
      rw [List.getElem?_set_self hil] at h
      cases h
      exact ⟨_, q2, .tok (by rw [List.getElem?_append_right (by omega), hln]; simp)⟩
    · have ho2 : O.has j = false := by
        unfold Ow.has at ho ⊢
        rw [hx, hs]
        have : O.own.elem j = false := by
          cases z : O.own.elem j with
          | false => rfl
          | true =>
            have m := sup j (List.elem_iff.mp z) hj
            rw [show O'.own.elem j = true from List.elem_iff.mpr m] at ho
            simp at ho
        rw [this]; rfl
      obtain ⟨v, h1, h2⟩ := I.slot j d (keepj hj h) ho2
      exact ⟨v, h1, h2.more⟩
  · obtain ⟨m, ne⟩ := sub j hj
    obtain ⟨c, ws, es, p1, p2, p3, p4, p5, p6, p7⟩ := I.own j d m (keepj ne h)
    refine ⟨c, ws, es, p1, p2, p3, p4, p5, fun z => ?_, p7.more⟩
    rcases List.mem_append.mp z with z | z
    · exact p6 z
    · have z := List.mem_singleton.mp z
      subst z
      exact ne (I.dist j i c m hi ⟨_, keepj ne h⟩ ⟨_, e⟩ p2 q2)
  · obtain ⟨m1, n1⟩ := sub j hj
    obtain ⟨m2, n2⟩ := sub k hk
    obtain ⟨d1, e1⟩ := e1
    obtain ⟨d2, e2⟩ := e2
    exact I.dist j k c m1 m2 ⟨_, keepj n1 e1⟩ ⟨_, keepj n2 e2⟩
  · rw [List.nodup_append]
    refine ⟨I.sto.nd, by simp, fun x hx y hy => ?_⟩
    have hy := List.mem_singleton.mp hy
    subst hy
    exact fun z => q6 (z ▸ hx)
  · by_cases hc : n < b.ad.length
    · rw [List.getElem?_append_left hc] at hn
      obtain ⟨z1, dc, z2, z3⟩ := I.sto.at_ n c hn
      exact ⟨z1, dc, by rw [List.getElem?_append_left (by omega)]; exact z2, z3.more⟩
    · have hn' := (List.getElem?_eq_some_iff.mp hn).1
      rw [List.length_append, List.length_singleton] at hn'
      have en : n = b.ad.length := by omega
      subst en
      rw [List.getElem?_append_right (Nat.le_refl _)] at hn
      simp at hn
      subst hn
      exact ⟨q4, .lst ds, by rw [List.getElem?_append_right (by omega), hln]; simp, .lst q3 q7.more⟩
section
variable {G : Glb} {X : Cx} {W : WX} {Ob : Ow} {OE : Ow → Prop} {O O' : Ow} {pos : Pos} {k : Nat}
end
section
variable {G : Glb} {X : Cx} {W : WX} {O : Ow} {p p2 pos pos2 : Pos} {a b : Expr} {ma mb : ME}
end
end DL


namespace DL
open PySem PySem.Spec PyProof.Rows L2
section
variable {G : Glb} {X : Cx} {W : WX} {pos : Pos} {k : Nat}
end
section
variable {G : Glb} {X : Cx} {W : WX} {pos : Pos} {k : Nat} {O : Ow}
theorem PostF.from_ {ad : List Addr} {S H S1 H1 : Hp} {st1 st' : List D} {ys : List D} {Q : VK} (x1 : Ext ad S H S1 H1) (so1 : StoOk G ad S1 st1 H1) (q : PostF G ad S H ys st' Q) : PostF G ad S1 H1 ys st' Q :=
  fun l vs S' H' x su so hl r => q l vs S' H' (x1.trans so1 x) su so hl r
end
section
variable {G : Glb} {X : Cx} {W : WX} {Ob : Ow} {OE : Ow → Prop} {O : Ow} {pos : Pos} {e : Expr} {me : ME}
end
section
variable {G : Glb} {X : Cx} {W : WX} {O : Ow} {p p2 pos pos2 : Pos} {a b : Expr} {ma mb : ME}
end
section
variable {G : Glb} {X : Cx} {W : WX} {O Ob O1 : Ow} {OE : Ow → Prop} {pos : Pos}
end
section
variable {G : Glb} {X : Cx} {W : WX} {O Ob : Ow} {OE : Ow → Prop} {pos : Pos} {k : Nat}
end
section
variable {G : Glb} {X : Cx}
end
section
variable {G : Glb} {X : Cx} {W : WX} {O : Ow} {pos : Pos} {a b c : Expr} {t : MT} {ma mb : MA}
end
end DL

namespace DL
open PySem PySem.Spec PyProof.Rows L2 RZ
def ItB (b : Bool) (h : Heap) (it a : Addr) (i : Nat) : Prop := if b = true then h.IsTupleIter it a i else h.IsListIter it a i
theorem ItB.obj {b : Bool} {h : Heap} {it a : Addr} {i : Nat} (q : ItB b h it a i) : ∃ o, h.get? it = some o ∧ ∀ v, o.data ≠ .cell v := by
  cases b
  · obtain ⟨o, e, _, d⟩ := (show h.IsListIter it a i from q)
    exact ⟨o, e, fun v z => by rw [d] at z; cases z⟩
  · obtain ⟨o, e, _, d⟩ := (show h.IsTupleIter it a i from q)
    exact ⟨o, e, fun v z => by rw [d] at z; cases z⟩
theorem ItB.at_ {b : Bool} {h h' : Heap} {it a : Addr} {i : Nat} (q : ItB b h it a i) (k : ∀ o, h.get? it = some o → h'.get? it = some o) : ItB b h' it a i := by
  cases b
  · exact (show h.IsListIter it a i from q).at k
  · exact (show h.IsTupleIter it a i from q).at k
section
variable {X : Cx} {pins : List (Addr × Obj)} {σ : L2.St} {H : Hp} {s : Shared}
end
structure Cells (z TI TO i1 i2 a c : Addr) : Prop where
  D : ZipApart z TI TO i1 i2 a c
  S : ZipSep2 z TI TO i1 i2 [i1, a] [i2, c]
theorem cells (n a c : Addr) (ha : a < n) (hc : c < n) : Cells (n + 4) (n + 2) (n + 3) n (n + 1) a c := by
  have D := PySem.W.ktu_apart n a c ha hc
  have no : ∀ {x y z : Addr}, x ≠ y → x ≠ z → x ∉ [y, z] := fun p q h => by
    rcases List.mem_cons.mp h with e | h
    · exact p e
    · exact q (List.mem_singleton.mp h)
  exact ⟨D, ⟨D.TIz, D.TOz, D.TITO, D.TIi1, List.mem_cons_self, no D.i1z.symm D.l1z.symm, no D.TOi1 D.l1TO.symm, D.TIi2, List.mem_cons_self, no D.i2z.symm D.l2z.symm, no D.TOi2 D.l2TO.symm, no D.i12 D.l2i1.symm, no D.i12.symm D.l1i2.symm⟩⟩
section
variable {G : Glb} {ad : List Addr} {S : Hp}
end
section
variable {G : Glb} {X : Cx} {W : WX} {O : Ow} {pos p : Pos} {a a2 : Expr} {ma : MA}
end
end DL

namespace DL
open PySem PySem.Spec PyProof.Rows L2
structure DK (G : Glb) (X : Cx) (W : WX) (O : Ow) (kws : List Keyword) (m : MA) : Prop where
  ex : ∃ t, PK X kws t ∧ ∀ (b : Act) S env st σ H Q, DI G b O S env st σ H → wpR (m env st) (fun ds st' => PostA G b.ad S H ds st' Q) (fun x st' => PostX G b.ad S H x st' fun c dd H' => W c dd σ H') → t σ H Q
section
variable {G : Glb} {X : Cx} {W : WX} {O : Ow} {pos p kpos : Pos} {x : Str} {e : Expr} {es : List Expr} {kws : List Keyword} {me : ME} {ma mk mr mc : MA} {nm : Option Str}
end
section
variable {X : Cx} {CX : CXT} {k n : Nat} {f C : Addr} {fd : FuncData} {ps ks : List Str} {sp : Sp} {E : L2.St → XK} {x : Str} {p pos : Pos} {e : Expr} {es : List Expr} {kws : List Keyword} {t tk : TA} {g : List Value → List Value → List Value} {gV : List V → List V → List V}
end
section
variable {G : Glb} {X : Cx} {W : WX} {O : Ow} {pos p : Pos} {x : Str} {e : Expr} {es : List Expr} {kws : List Keyword} {ma mk mc : MA} {k j n n' m' : Nat} {f : Addr} {fd : FuncData} {ps ks : List Str} {m : List D → M D} {ci : Nat} {g : List Value → List Value → List Value} {gV : List V → List V → List V}
end
end DL

namespace DL
open PySem PySem.Spec PyProof.Rows L2
/-- how such a body ends: the list is nobody else's -/
def PostSF (G : Glb) (b : Act) (OE : Ow → Prop) (W : WX) (D : Ends) (S : Hp) : Out → Prop
  | .rt (.lst ds) st => ∀ l vs S' H, Ext b.ad b.S b.H S' H → Same S' H → StoOk G b.ad S' st H → H l = none → Reps G b.ad S' vs ds → D.rt (.ref l) (upd H l (.lst vs))
  | .er x env st => ∀ cls dd O' S' σ H, OE O' → Same S S' → DI G b O' S' env st σ H → RepX G b.ad S' cls dd x → W cls dd σ H
  | _ => False
theorem PostSF.from_ {G : Glb} {b : Act} {OE : Ow → Prop} {W : WX} {D : Ends} {S S1 : Hp} {o : Out} (e : Same S S1) (h : PostSF G b OE W D S o) : PostSF G b OE W D S1 o := by
  cases o with
  | er x env st => exact fun cls dd O' S' σ H q x => h cls dd O' S' σ H q (e.trans x)
  | rt d st => cases d <;> exact h
  | _ => exact h
structure DSf (G : Glb) (X : Cx) (W : WX) (OE : Ow → Prop) (O : Ow) (s : List Stmt) (m : MS) : Prop where
  ex : ∃ t, PSs X s t ∧ ∀ (b : Act) S env st σ H D, DI G b O S env st σ H → PostSF G b OE W D S (m env st) → t D σ H
section
variable {G : Glb} {X : Cx} {W : WX} {Ob : Ow} {OE : Ow → Prop} {O O1 O2 : Ow} {pos : Pos} {s : Stmt} {rest : List Stmt} {m n : MS}
end
section
variable {P : Program} {w : World} {K : PySem.W.Frag} {mg : Str → Option Value} {base : Heap}
end
section
variable {G : Glb} {X : Cx} {W : WX} {O : Ow} {pos p : Pos} {x : Str} {e : Expr} {es : List Expr} {ma : MA} {k j n : Nat} {f : Addr} {fd : FuncData} {ps : List Str} {m : List D → M (List D)}
end
end DL

namespace DL
open PySem PySem.Spec PyProof.Rows L2
structure KTab (K : PySem.W.Frag) (w : World) (a : Addr) (tab : Str → Option (List Str)) : Prop where
  kd : ∃ es n, KDict K w a es n
  at_ : ∀ z xs, tab z = some xs → ∃ p, PySem.W.nsIn K a z = some (some (.ref p)) ∧ ∃ (o : Obj) (its : Array Value) (n : Nat), K.lookup p = some o ∧ o.cls = .type "tuple" ∧ o.data = .seq its n ∧ its.size ≤ sizeLine ∧ Vals (xs.map V.str) its.toList
section
variable {G : Glb} {X : Cx} {W : WX} {O : Ow} {pos : Pos} {a b : Expr} {ma mb : ME} {c : Nat} {tab : Str → Option (List Str)}
end
theorem Post.tpx {G : Glb} {ad : List Addr} {S H : Hp} {st : List D} {p : Addr} {o : Obj} {vs : List V} {ns : List Int} {ds : List D} {Q : VK} (su : Same S H) (so : StoOk G ad S st H) (hp : H p = none) (ho : o.dict = Option.none) (ev : vs = ns.map V.int) (r : Reps G ad S vs ds) (h : Post G ad S H (.tpx ds) st Q) : Q (.ref p) (upd H p (.frz o (.tup vs))) := by
  have hS : S p = none := by
    cases e : S p with
    | none => rfl
    | some u => have := su _ _ e; rw [hp] at this; cases this
  exact Post.new su so hp (.tpx ev upd_same ho (r.mono fun b u h => by rw [upd_ne (ne_of_none h hS)]; exact h)) h
section
variable {X : Cx} {es : List Expr} {t : TA} {pos : Pos}
end
section
variable {G : Glb} {X : Cx} {W : WX} {O : Ow} {pos : Pos} {es : List Expr} {mr : MA}
end
section
variable {X : Cx}
variable {o e : Expr} {to t1 : TE} {apos cpos : Pos}
end
section
variable {G : Glb} {X : Cx} {W : WX} {O : Ow} {apos cpos : Pos} {o e : Expr} {mo me : ME}
end
end DL

namespace DL
open PySem PySem.Spec PyProof.Rows L2 LamX
/-- what a def promises where no repr is under way -/
structure FnG (P : Program) (w : World) (K : PySem.W.Frag) (mg : Str → Option Value) (base : Heap) (CX : CXT) (k : Nat) (f : Addr) (fd : FuncData) (ps : List Str) (sp : Sp) : Prop where
  len : ∀ vs H Q E, sp vs H Q E → vs.length = ps.length
  run : ∀ (A : Around) (outer : List Env) (s : Shared) (H : Hp) (args : Args) (us : List Value) (vs : List V) (Q : VK) (E : XK), A.guards = some [] → Room k A → Env0 P w K mg base A outer s H → BindsTo s fd args (ps.zip us) → Vals vs us → sp vs H Q E →
    codeAny (model P w) A (.call (.ref f) args) (CR CX outer P w H s Q E) s
section
variable {P : Program} {w : World} {K : PySem.W.Frag} {mg : Str → Option Value} {base : Heap}
end
section
variable {X : Cx} {CX : CXT} {k : Nat} {f : Addr} {fd : FuncData} {ps : List Str} {sp : Sp} {E : L2.St → XK} {x : Str} {e : Expr} {es : List Expr} {t : TA} {p pos : Pos}
end
section
variable {G : Glb} {X : Cx} {W : WX} {O : Ow} {k j n : Nat} {x : Str} {f : Addr} {fd : FuncData} {ps : List Str} {m : List D → M D} {e : Expr} {es : List Expr} {ma : MA} {p pos : Pos}
end
section
variable {X : Cx} {G : Glb}
end
end DL

namespace DL
open PySem PySem.Spec PyProof.Rows L2
section
variable {M : Model} {A : Around} {E : Value → Shared → Prop} {s : Shared} {env ce : Env} {outer : List Env} {L e : Addr} {base : Heap} {Z : Obj → Prop}
/-- a frame notes it, whatever flight it had -/
theorem look_anyZ {fl : Value} {Q : Unit → Shared → Prop} (hZ : PXN.Steady1 Z) (hfr : A.frames = some (env :: outer)) (hf : env.frame = some L) (hkb : base.StaysIn s.heap) (hen : base.get? e = none) (hl : s.heap.FunFrames base (env :: outer))
    (ht : HandSPX.TracedZ s.heap base e Z fl) (hne : (fl == rawInt L) = false) (hQ : ∀ h', HandSPX.HeldZ base (env :: outer) e Z L h' → s.heap.UpToSlots h' → Q () { s with heap := h' }) : wpAny M A (noteFrame (.ref e) env) Q E s := by
  obtain ⟨oe, vs, T, oT, ts, he, hz, hd, h1, hnT, hTe, hT, hdT, h3⟩ := ht
  unfold noteFrame
  simp only [hf]
  refine wpAny_bind (wpAny_field he hd h1 ?_)
  rw [if_pos (show (Value.ref T != Value.none) = true from by simp)]
  refine wpAny_bind (wpAny_field hT hdT h3 ?_)
  rw [if_neg (by rw [hne]; decide)]
  refine wpAny_bind (wpAny_setField hT hdT (Array.getElem?_eq_some_iff.mp h3).1 ?_)
  have other : ∀ b, b ≠ T → (s.heap.update T (Obj.mapFields (·.setIfInBounds 3 Value.none))).get? b = s.heap.get? b := fun b hb => Heap.get?_update_other _ _ (Ne.symm hb)
  have noRecord : ∀ b o, s.heap.get? b = some o → (∀ vs, o.data ≠ .fields vs) → b ≠ T := fun b o hb hnf q => by
    rw [q, hT] at hb; injection hb with hb; subst hb; exact hnf ts hdT
  refine PXN.wpAny_entryZ hZ hfr (hl.of_keeps fun b o hb hnf => ⟨o, (other b (noRecord b o hb hnf)).trans hb, rfl⟩) hf ((other e (Ne.symm hTe)).trans he)
    (fun b o hbo => (other b fun q => by rw [q, hnT] at hbo; cases hbo).trans (hkb b o hbo)) hen hd (Array.getElem?_eq_some_iff.mp h1).1 hz fun h' hN => ?_
  obtain ⟨x1, x2, x3, x4⟩ := hN
  exact hQ h' ⟨x1, hen, x2, x3⟩ fun b o hb hnf => x4 b o ((other b (noRecord b o hb hnf)).trans hb) hnf
theorem note_same (u : Value) (h : ce.frame = env.frame) : noteFrame u ce = noteFrame u env := by
  unfold noteFrame PySem.frameOf
  rw [h]
end
/-- an exception in the air of a block of the frame L -/
def XB (X : Cx) (L : Addr) (W : WX) (u : Value) (s' : Shared) : Prop :=
  ∃ (a : Addr) (B : Heap) (sI : Shared) (pins : List (Addr × Obj)) (σ : L2.St) (H : Hp) (cls : Value) (d : Option Addr),
    u = .ref a ∧ Inv X pins σ H sI ∧ (∀ b o, sI.heap.get? b = some o → b ∉ frs X.stack → B.get? b = some o) ∧ sI.heap.UpToSlots s'.heap ∧
      (Sky B X.stack a (L2N.Zn cls d) X.env.locals s'.heap ∨ HandSPX.HeldZ B X.stack a (L2N.Zn cls d) L s'.heap) ∧ H a = none ∧ s'.os = sI.os ∧ AllBare s'.gens ∧ W cls d σ H
/-- .. noted at the frame -/
def XH (X : Cx) (L : Addr) (W : WX) (u : Value) (s' : Shared) : Prop :=
  ∃ (a : Addr) (B : Heap) (sI : Shared) (pins : List (Addr × Obj)) (σ : L2.St) (H : Hp) (cls : Value) (d : Option Addr),
    u = .ref a ∧ Inv X pins σ H sI ∧ (∀ b o, sI.heap.get? b = some o → b ∉ frs X.stack → B.get? b = some o) ∧ sI.heap.UpToSlots s'.heap ∧
      HandSPX.HeldZ B X.stack a (L2N.Zn cls d) L s'.heap ∧ H a = none ∧ s'.os = sI.os ∧ AllBare s'.gens ∧ W cls d σ H
section
variable {X : Cx} {L : Addr} {W : WX} {u : Value} {s s' : Shared} {env ce : Env} {outer : List Env} {E : Value → Shared → Prop}
theorem XB.noted (hs : X.stack = env :: outer) (hf : env.frame = some L) (hce : ce.frame = env.frame) (hL : X.env.locals ≠ L) (x : XB X L W u s') : wpAny (model X.prog X.w) X.A (noteFrame u ce) (fun _ s'' => XH X L W u s'') E s' := by
  obtain ⟨a, B, sI, pins, σ, H, cls, d, rfl, I, nb, up, sky, na, os, ag, w⟩ := x
  have hfr : X.A.frames = some (env :: outer) := by rw [I.ok.frames, hs]
  rw [note_same _ hce]
  have fin : ∀ h1, HandSPX.HeldZ B (env :: outer) a (L2N.Zn cls d) L h1 → s'.heap.UpToSlots h1 → XH X L W (.ref a) { s' with heap := h1 } := fun h1 hh up' =>
    ⟨a, B, sI, pins, σ, H, cls, d, rfl, I, nb, up.trans up', by rw [hs]; exact hh, na, os, ag, w⟩
  rw [hs] at sky
  rcases sky with (⟨hB, hn, hl, oe, vs, he, hz, hd, h1⟩ | fl | hh) | hh
  · exact PXN.look_newZ L2N.Zn.steady hfr hl hf he hB hn hd h1 hz fin
  · exact PXN.looks_onZ L2N.Zn.steady hfr hf fl fin
  · obtain ⟨f1, f2, f3, f4⟩ := hh
    exact look_anyZ L2N.Zn.steady hfr hf f1 f2 f3 f4 (by simp [rawInt]; exact fun e => hL (Int.ofNat_inj.mp e)) fin
  · exact HandSPX.againZ hf hh.2.2.2 (fin s'.heap hh (Heap.UpToSlots.refl _))
theorem XH.back (hf : ce.frame = some L) (x : XH X L W u s') : cameBackBy (model X.prog X.w) X.A ce (XB X L W) u s' := by
  obtain ⟨a, B, sI, pins, σ, H, cls, d, rfl, I, nb, up, hh, na, os, ag, w⟩ := x
  have hh0 := hh
  obtain ⟨f1, f2, f3, oe, vs, T, oT, ts, he, hz, hd, h1, hnT, hTe, hT, hdT, h3⟩ := hh
  unfold cameBackBy
  refine wpAny_bind (wpAny_field he hd h1 ?_)
  rw [if_neg (show ¬ ((Value.ref T == Value.none) = true) from by simp)]
  rw [hf]
  exact HandSPX.setFlight_onZ hh0 fun h' k up' => ⟨a, B, sI, pins, σ, H, cls, d, rfl, I, nb, up.trans up', .inr k, na, os, ag, w⟩
theorem XB.passes (hs : X.stack = env :: outer) (hf : env.frame = some L) (hce : ce.frame = env.frame) (hL : X.env.locals ≠ L) : PassesOwn (model X.prog X.w) X.A ce (XB X L W) := fun e s' x =>
  wpAny_mono (XB.noted (E := fun _ _ => False) hs hf hce hL x) (fun _ _ y => y.back (hce.trans hf)) fun _ _ z => z.elim
/-- frames over less ground -/
theorem ff_less {h h' B B' : Heap} : ∀ (l : List Env), (∀ b, B.get? b = none → B'.get? b = none) → (∀ b ∈ frs l, ∀ o, h.get? b = some o → h'.get? b = some o) → h.FunFrames B l → h'.FunFrames B' l
  | [], _, _, _ => trivial
  | env :: l, hn, hk, ⟨k, ⟨L, o, hf, n, ho, hd⟩, r⟩ => by
    have e : frs (env :: l) = L :: frs l := by
      unfold frs
      rw [List.filterMap_cons, hf]
    exact ⟨k, ⟨L, o, hf, hn L n, hk L (by rw [e]; exact List.mem_cons_self) o ho, hd⟩, ff_less l hn (fun b hb o ho => hk b (by rw [e]; exact List.mem_cons_of_mem _ hb) o ho) r⟩
theorem XH.fails {pins : List (Addr × Obj)} {σ : L2.St} {H3 : Hp} {s3 : Shared} {scope : Scope} {fp : List Addr} (I : Inv X pins σ H3 s3) (tk : L2N.Takes X W) (hW : ∀ c d σ σ' H, W c d σ H → W c d σ' H) (hf : ce.frame = some L) (hLX : L = X.env.locals)
    (hch : ∀ b ∈ fp, (b ∈ X.ex ∨ X.s_0.heap.objs.size ≤ b) ∧ b ≠ X.env.locals ∧ (∀ x c, X.env.cells.lookup x = some c → c ≠ b) ∧ ∀ p ∈ X.pn ++ pins, p.1 ≠ b) (hC : s3.heap.objs.size ≤ ce.locals)
    (x : XH (X.blk s3 H3 scope ce fp) L W u s) : CompFails (model X.prog X.w) X.A X.xe ce u s := by
  obtain ⟨a, B, sI, pins', σ', H, cls, d, rfl, J, nb, up, hh, na, os, ag, w⟩ := x
  have nC : H ce.locals = none := J.free
  have I7 : Inv X pins σ H sI := I.call' (ch := fp) J.os J.base J.hok J.bare hch
  obtain ⟨f0, f1, f2, f3, f4, f5⟩ := I.fpOk (H' := H) hC nC
  have ncs : ce.locals ∉ frs X.stack := fun hm => (List.mem_cons.mp (I.stkSub _ hm)).elim f1 f2
  obtain ⟨m, hn, _⟩ := J.loc
  have hn : sI.heap.Ns ce.locals m := hn
  obtain ⟨oc, es, ep, hoc, hdc, hkc⟩ := hn
  obtain ⟨slc, hoc'⟩ := up _ oc hoc (fun vs e => by rw [hdc] at e; cases e)
  refine ⟨m, ⟨_, es, ep, hoc', hdc, hkc⟩, fun h' m' hns' sb => ?_⟩
  -- the ground and the state without the block's names
  obtain ⟨G, g1, g2⟩ := restrict sI.heap fun b => decide (b ≠ ce.locals)
  obtain ⟨B', b1, b2⟩ := restrict B fun b => decide (b ≠ ce.locals)
  have gK : ∀ b o, b ≠ ce.locals → sI.heap.get? b = some o → G.get? b = some o := fun b o hb e => by rw [g1 b (decide_eq_true hb)]; exact e
  have gO : ∀ b o, G.get? b = some o → b ≠ ce.locals ∧ sI.heap.get? b = some o := fun b o e => by
    by_cases hb : b = ce.locals
    · rw [g2 b (decide_eq_false (fun z => z hb))] at e; cases e
    · rw [g1 b (decide_eq_true hb)] at e; exact ⟨hb, e⟩
  have bO : ∀ b o, B'.get? b = some o → b ≠ ce.locals ∧ B.get? b = some o := fun b o e => by
    by_cases hb : b = ce.locals
    · rw [b2 b (decide_eq_false (fun z => z hb))] at e; cases e
    · rw [b1 b (decide_eq_true hb)] at e; exact ⟨hb, e⟩
  have bN : ∀ b, B.get? b = none → B'.get? b = none := fun b e => by
    cases q : B'.get? b with
    | none => rfl
    | some o => rw [(bO b o q).2] at e; cases e
  have I8 : Inv X pins σ H { sI with heap := G } := I7.turned (t' := sI.toks) (fun b o hb e => gK b o hb e) f0 f1 f3 f4 f5
  obtain ⟨k1, k2, k3, oe, vs, T, oT, ts, he, hz, hd, h1, hnT, hTe, hT, hdT, h3⟩ := hh
  have nf : ∀ b o vs, s.heap.get? b = some o → o.data = .fields vs → b ≠ ce.locals := fun b o vs e q z => by
    subst z
    rw [hoc'] at e
    injection e with e
    subst e
    have q : oc.data = .fields vs := q
    rw [hdc] at q
    cases q
  have hh' : HandSPX.HeldZ B' X.stack a (L2N.Zn cls d) L h' := by
    refine ⟨fun b o e => ?_, bN a k2, ff_less X.stack bN (fun b hb o e => (sb.2 b (fun z => ncs (z ▸ hb))).trans e) k3, oe, vs, T, oT, ts, (sb.2 a (nf a oe vs he hd)).trans he, hz, hd, h1, bN T hnT, hTe, (sb.2 T (nf T oT ts hT hdT)).trans hT, hdT, h3⟩
    obtain ⟨q1, q2⟩ := bO b o e
    exact (sb.2 b q1).trans (k1 b o q2)
  have up' : G.UpToSlots h' := fun b o e hnf => by
    obtain ⟨q1, q2⟩ := gO b o e
    obtain ⟨sl, q⟩ := up b o q2 hnf
    exact ⟨sl, (sb.2 b q1).trans q⟩
  have hh0 := hh'
  obtain ⟨_, _, _, oe, vs, T, oT, ts, he, hz, hd, h1, _⟩ := hh'
  unfold PySem.passOn
  refine wpAny_bind (wpAny_field (s := { s with heap := h' }) he hd h1 ?_)
  rw [if_neg (show ¬ ((Value.ref T == Value.none) = true) from by simp)]
  rw [hf]
  refine wpAny_bind (HandSPX.setFlight_onZ (s := { s with heap := h' }) hh0 fun h2 k up2 => wpAny_throw ?_)
  refine tk _ _ ⟨a, B', { sI with heap := G }, pins, σ, H, cls, d, rfl, I8, fun b o e hb => ?_, up'.trans up2, .inr (.inr ?_), na, os, ag, hW _ _ _ _ _ w⟩
  · obtain ⟨q1, q2⟩ := gO b o e
    rw [b1 b (decide_eq_true q1)]
    exact nb b o q2 hb
  · rw [← hLX]; exact k
end
end DL

namespace DL
open PySem PySem.Spec PyProof.Rows L2
theorem ok_xe {Y : Cx} (ok : Y.Ok) (xe : Value → Shared → Prop) : ({ Y with xe := xe } : Cx).Ok :=
  ⟨ok.mod, ok.kind, ok.glob, ok.blt, ok.above, ok.inj, ok.has, ok.cab, ok.hd, ok.frames, ok.stk, ok.exf, ok.bs, ok.bsz, ok.noex, ok.exfs, ok.funs, ok.frf⟩
theorem inv_xe {Y : Cx} {pins : List (Addr × Obj)} {σ : L2.St} {H : Hp} {s : Shared} (I : Inv Y pins σ H s) (xe : Value → Shared → Prop) : Inv ({ Y with xe := xe } : Cx) pins σ H s :=
  ⟨ok_xe I.ok xe, I.os, I.bare, I.base, I.loc, I.cell, I.free, I.freeC, I.pin, I.hok, I.len⟩
theorem ok_un {Y : Cx} {xe : Value → Shared → Prop} (ok : ({ Y with xe := xe } : Cx).Ok) : Y.Ok :=
  ⟨ok.mod, ok.kind, ok.glob, ok.blt, ok.above, ok.inj, ok.has, ok.cab, ok.hd, ok.frames, ok.stk, ok.exf, ok.bs, ok.bsz, ok.noex, ok.exfs, ok.funs, ok.frf⟩
theorem inv_un {Y : Cx} {xe : Value → Shared → Prop} {pins : List (Addr × Obj)} {σ : L2.St} {H : Hp} {s : Shared} (I : Inv ({ Y with xe := xe } : Cx) pins σ H s) : Inv Y pins σ H s :=
  ⟨ok_un I.ok, I.os, I.bare, I.base, I.loc, I.cell, I.free, I.freeC, I.pin, I.hok, I.len⟩
/-- a comprehension's block that lets errors out -/
abbrev blkE (X : Cx) (s : Shared) (H : Hp) (scope : Scope) (cenv : Env) (fp : List Addr) (W : WX) : Cx := { X.blk s H scope cenv fp with xe := XB (X.blk s H scope cenv fp) X.env.locals W }
section
variable {X : Cx} {W : WX}
theorem takes_blk {s : Shared} {H : Hp} {scope : Scope} {cenv : Env} {fp : List Addr} : L2N.Takes (blkE X s H scope cenv fp W) W := fun u s' ⟨a, B, sI, pins, σ, H', cls, d, e, I, nb, up, sky, na, os, ag, w⟩ =>
  ⟨a, B, sI, pins, σ, H', cls, d, e, inv_un I, nb, up, .inl sky, na, os, ag, w⟩
theorem lc_coreE {pins : List (Addr × Obj)} {s : Shared} {σ : L2.St} {H : Hp} {Q : VK} {elt tg iter : Expr} {ifs : List Expr} {scope : Scope} {own : List (Str × Nat)} {pos pos' : Pos} {wi : TI} {g : TG} {tt : TT} {te : TE} {use : Option (Value → Sem Unit)} {Qf : Value → Shared → Prop}
    (hc : X.calm = true) (tk : L2N.Takes X W) (xt : XT X) (hW : ∀ c d σ σ' H, W c d σ H → W c d σ' H) (hN : X.N.Nodup) (I : Inv X pins σ H s) (hi : PI X tg iter wi) (ok : BlkOk X.N X.env.scope scope own)
    (hg : ∀ (s : Shared) (H : Hp) (C : Addr) (cl : List (Str × Addr)) (fp : List Addr), PG (blkE X s H scope (compEnvC scope cl C X.env) fp W) tg g) (ht : ∀ (s : Shared) (H : Hp) (C : Addr) (cl : List (Str × Addr)) (fp : List Addr), PTs (blkE X s H scope (compEnvC scope cl C X.env) fp W) ifs tt)
    (he : ∀ (s : Shared) (H : Hp) (C : Addr) (cl : List (Str × Addr)) (fp : List Addr), C ≠ X.env.locals → PE (blkE X s H scope (compEnvC scope cl C X.env) fp W) elt te) (hs : ∀ x, foldedSetIterable iter X.env x = pure x)
    (h : tLc wi g tt te (own.map (·.2)) σ H Q)
    (hRR : ∀ D C s' m H' ce, Inv X pins σ H' s' → Q (.ref D) H' → s'.heap.Ns C m → FpOk X pins H' C → ce.locals = C → compEnds (model X.prog X.w) X.A X.xe use Qf (.ref D) ce (.ok .next) s') :
    wpAny (model X.prog X.w) X.A (comprehension (.ListComp elt [⟨tg, iter, ifs, 0⟩] scope pos) scope X.env pos' (newList []) false (eval iter X.env) use) Qf X.xe s := by
  have hfree : ∀ y ∈ scope.names, y.2 = .free → ∃ c, X.env.cells.lookup y.1 = some c := fun y hy e => by
    rcases ok.free y hy e with k | k
    · exact I.ok.has _ (.inl k)
    · exact I.ok.has _ (.inr k)
  refine comprehension_at (use := use) rfl hs (closure_ok hfree) ok.kind (fun y hy e => by rw [ok.uniq y hy, e])
    (thn (hi.run pins s σ H _ I h) fun xv s1 hx => thn hx fun itv s2 h2 => ?_)
  obtain ⟨it, fp, tn, J, H2, e, I2, T, st2, f2, q⟩ := h2
  subst e
  refine wpAny_newObj_type (newEnv_comp ?_) (by show 0 ≤ sizeLine; decide)
  generalize hD : s2.heap.objs.size = D
  have hDn : H2 D = none := I2.hok.fresh (Nat.le_of_eq hD)
  obtain ⟨Wv, ⟨m0, w0⟩, turn⟩ := q D hDn
  generalize hs3 : ({ s2 with heap := s2.heap.push { cls := .type "list", data := .seq ([] : List Value).toArray } } : Shared) = s3
  have I3 : Inv X pins σ (upd H2 D (.lst [])) s3 := by
    rw [← hs3]
    refine I2.laid (t' := s2.toks) (fun b o e => Heap.get?_push_of_some _ e) (Nat.le_of_eq hD) ⟨Nat.zero_le _, [], 0, .nil, ?_⟩
    rw [← hD]
    exact Heap.get?_push_size _ rfl
  have h3 : s3.heap = s2.heap.push { cls := .type "list", data := .seq ([] : List Value).toArray } := by rw [← hs3]
  have sz : ∀ b ∈ fp, b < s2.heap.objs.size := fun b hb => by
    obtain ⟨o, e, _⟩ := T.obj _ _ st2 b hb
    exact Heap.lt_size e
  have f3 : ∀ b ∈ fp, FpOk X pins (upd H2 D (.lst [])) b ∧ b < s3.heap.objs.size := fun b hb => by
    have hlt := sz b hb
    refine ⟨⟨?_, (f2 b hb).2⟩, by rw [h3, Heap.size_push]; exact Nat.lt_succ_of_lt hlt⟩
    rw [upd_ne (by rw [← hD]; exact Nat.ne_of_lt hlt)]
    exact (f2 b hb).1
  have st3 : tn 0 s3.heap := T.keep _ _ _ st2 fun b _ o e => by rw [h3]; exact Heap.get?_push_of_some _ e
  have I4' := block_start I3 ok hN f3
  have hLC : s3.heap.objs.size ≠ X.env.locals := (I3.fpOk (H' := upd H2 D (.lst [])) (Nat.le_refl _) (I3.hok.fresh (Nat.le_refl _))).2.1
  have pg := hg s3 (upd H2 D (.lst [])) s3.heap.objs.size (cellsFrom (s3.heap.objs.size + 1) scope.names (cloFrom X.env.cells scope.names [])) fp
  have pt := ht s3 (upd H2 D (.lst [])) s3.heap.objs.size (cellsFrom (s3.heap.objs.size + 1) scope.names (cloFrom X.env.cells scope.names [])) fp
  have pe := he s3 (upd H2 D (.lst [])) s3.heap.objs.size (cellsFrom (s3.heap.objs.size + 1) scope.names (cloFrom X.env.cells scope.names [])) fp hLC
  show codeAny _ _ (.compStart (.ListComp elt [⟨tg, iter, ifs, 0⟩] scope pos) 0 (.ref it) (.ref D) (compEnvC scope (cellsFrom (s3.heap.objs.size + 1) scope.names (cloFrom X.env.cells scope.names [])) s3.heap.objs.size X.env)) (compEnds (model X.prog X.w) X.A X.xe use Qf (.ref D) (compEnvC scope (cellsFrom (s3.heap.objs.size + 1) scope.names (cloFrom X.env.cells scope.names [])) s3.heap.objs.size X.env)) { s3 with heap := pushCells (s3.heap.push { cls := .type "dict", data := .dict #[] }) scope.names }
  have nfp : ∀ b ∈ fp, (upd H2 D (.lst [])) b = none := fun b hb => (f3 b hb).1.1
  generalize hce : compEnvC scope (cellsFrom (s3.heap.objs.size + 1) scope.names (cloFrom X.env.cells scope.names [])) s3.heap.objs.size X.env = ce at I4' pg pt pe ⊢
  have cL : ce.locals = s3.heap.objs.size := by subst hce; rfl
  have cF : ce.frame = X.env.frame := by subst hce; rfl
  generalize hH3 : upd H2 D (.lst []) = H3 at I3 I4' pg pt pe w0 nfp f3
  generalize hs4 : ({ s3 with heap := pushCells (s3.heap.push { cls := .type "dict", data := .dict #[] }) scope.names } : Shared) = s4 at I4' ⊢
  have I4 : Inv (blkE X s3 H3 scope ce fp W) [] (wipe σ (own.map (·.2))) H3 s4 := inv_xe I4' _
  have st4 : tn 0 s4.heap := T.keep _ _ _ st3 fun b _ o e => by rw [← hs4]; exact pushCells_keeps _ _ _ _ (Heap.get?_push_of_some _ e)
  have stat : ∀ {σ' : L2.St} {H' : Hp} {s' : Shared}, Inv (blkE X s3 H3 scope ce fp W) [] σ' H' s' → (∀ b ∈ fp, H' b = none) → ∀ b ∈ fp, FpOk (blkE X s3 H3 scope ce fp W) [] H' b := fun {σ' H' s'} I' hn b hb =>
    ⟨hn b hb, (I'.ok.exf b hb).1, I'.ok.exfs b hb, .inl hb, fun x c e => (I'.ok.exf b hb).2 x c e, fun p hp => absurd (show p ∈ ([] : List (Addr × Obj)) ++ [] from hp) (by simp)⟩
  have hch : ∀ b ∈ fp, (b ∈ X.ex ∨ X.s_0.heap.objs.size ≤ b) ∧ b ≠ X.env.locals ∧ (∀ x c, X.env.cells.lookup x = some c → c ≠ b) ∧ ∀ p ∈ X.pn ++ pins, p.1 ≠ b := fun b hb => ⟨(f3 b hb).1.2.2.2.1, (f3 b hb).1.2.1, (f3 b hb).1.2.2.2.2.1, (f3 b hb).1.2.2.2.2.2⟩
  -- an error on its way out
  have errs : ∀ e s', XB (X.blk s3 H3 scope ce fp) X.env.locals W e s' → notedBy (model X.prog X.w) X.A ce (fun e s' => compEnds (model X.prog X.w) X.A X.xe use Qf (.ref D) ce (.error e) s') e s' := fun e s' x => by
    refine wpAny_mono (XB.noted (X := X.blk s3 H3 scope ce fp) (E := fun _ _ => False) (env := X.env) (outer := X.outer) xt.stk xt.fr cF (by show ce.locals ≠ _; rw [cL]; exact hLC) x) (fun _ s'' y => ?_) fun _ _ z => z.elim
    have z : CompFails (model X.prog X.w) X.A X.xe ce e s'' := XH.fails I3 tk hW (cF.trans xt.fr) rfl hch (by rw [cL]; exact Nat.le_refl _) y
    cases use <;> exact z
  have loop : codeAny (model X.prog X.w) X.A (.compLoop (.ListComp elt [⟨tg, iter, ifs, 0⟩] scope pos) 0 (.ref it) (.ref D) ce) (compEnds (model X.prog X.w) X.A X.xe use Qf (.ref D) ce) s4 := by
    refine compLoop_any (fun n s' => ∃ i H', Inv (blkE X s3 H3 scope ce fp W) [] (wipe σ (own.map (·.2))) H' s' ∧ tn i s'.heap ∧ (∀ b ∈ fp, H' b = none) ∧ Wv i n H') ?_ m0 ⟨0, H3, I4, st4, nfp, w0⟩
    rintro n s5 ⟨i, H5, I5, st5, n5, w5⟩
    rcases turn i n H5 w5 with ⟨stop, qq⟩ | ⟨go, Nx, hNx, step⟩
    · have td := T.done (blkE X s3 H3 scope ce fp W) rfl rfl rfl hc i [] s5 _ H5 (fun _ _ => False) I5 (stat I5 n5) st5 stop
      refine thnF td fun r s6 ⟨hr, I6⟩ => ?_
      subst hr
      have I7 : Inv X pins σ H5 s6 := I3.call' (ch := fp) I6.os I6.base I6.hok I6.bare hch
      have nC : H5 s3.heap.objs.size = none := by
        have z : H5 ce.locals = none := I6.free
        rw [cL] at z
        exact z
      obtain ⟨m, hn, _⟩ := I6.loc
      have hn : s6.heap.Ns ce.locals m := hn
      rw [cL] at hn
      exact hRR D s3.heap.objs.size s6 m H5 ce I7 qq hn (I3.fpOk (Nat.le_refl _) nC) cL
    · have ti := T.item (blkE X s3 H3 scope ce fp W) rfl rfl rfl hc i [] s5 _ H5 (fun _ _ => False) I5 (stat I5 n5) st5 go
      refine thnF ti fun r s6 ⟨u, hr, h6⟩ => ?_
      subst hr
      refine thnF h6 fun _ s7 ⟨x, H7, I7, r7, y7, st7, n7⟩ => ?_
      have I7' := I7.pinned (stat I7 n7) (T.obj _ _ st7)
      refine wpAny_mono (pg.run _ s7 _ H7 x u _ I7' r7 (step x H7 y7)) (fun _ s8 ⟨σ8, H8, I8, hw8, q8⟩ => ?_) errs
      refine wpAny_mono (pt.run _ s8 σ8 H8 _ I8 q8) (fun b s9 ⟨H9, I9, q9⟩ => ?_) errs
      have fin : ∀ {s' : Shared} {H' : Hp}, Inv (blkE X s3 H3 scope ce fp W) ([] ++ pinsAt fp s7.heap) σ8 H' s' → Nx H' → ∃ m, m < n ∧ ∃ i H', Inv (blkE X s3 H3 scope ce fp W) [] (wipe σ (own.map (·.2))) H' s' ∧ tn i s'.heap ∧ (∀ b ∈ fp, H' b = none) ∧ Wv i m H' := fun {s' H'} I' nx => by
        obtain ⟨m', hm, w'⟩ := hNx H' nx
        have pin' : ∀ b ∈ fp, ∀ o, s7.heap.get? b = some o → s'.heap.get? b = some o ∧ H' b = none := fun b hb o e =>
          let z := I'.pin (b, o) (List.mem_append_right _ (List.mem_append_right _ (mem_pinsAt hb e)))
          ⟨z.1, z.2.1⟩
        have hl : (wipe σ (own.map (·.2))).length = σ8.length := by rw [← hw8, wipe_length]
        refine ⟨m', hm, i + 1, H', (I'.unpinned (pins := [])).weak hl (fun j v e => ?_), T.keep _ _ _ st7 fun b hb o e => (pin' b hb o e).1, fun b hb => ?_, w'⟩
        · rw [← hw8] at e
          exact (wipe_some e).1
        · obtain ⟨o, e, _⟩ := T.obj _ _ st7 b hb
          exact (pin' b hb o e).2
      cases b with
      | false =>
        simp only [Bool.false_eq_true, if_false] at q9 ⊢
        exact fin I9 q9
      | true =>
        simp only [if_true] at q9 ⊢
        refine wpAny_mono (pe.run _ s9 σ8 H9 _ I9 q9) (fun z s10 ⟨yv, H10, I10, r10, acc, hD10, hz10, nx⟩ => ?_) errs
        exact app_ok (X := blkE X s3 H3 scope ce fp W) I10 hD10 hz10 r10 fun s11 I11 => fin I11 nx
  exact codeAny_compStart_list loop (T.self X.A 0 _ _ _ st4 loop)
theorem ps_setLcE {i : Nat} {y : Str} {py : Pos} {elt tg iter : Expr} {ifs : List Expr} {scope : Scope} {own : List (Str × Nat)} {pos spos : Pos} {wi : TI} {g : TG} {tt : TT} {te : TE} (hc : X.calm = true) (tk : L2N.Takes X W) (xt : XT X) (hW : ∀ c d σ σ' H, W c d σ H → W c d σ' H) (hN : X.N.Nodup) (hy : X.N[i]? = some y) (hyl : X.env.scope.names.lookup y = some .local)
    (hsw : swapsWith (.ListComp elt [⟨tg, iter, ifs, 0⟩] scope pos) (some (.Name y py)) spos.line X.env = pure true) (hi : PI X tg iter wi) (ok : BlkOk X.N X.env.scope scope own)
    (hg : ∀ (s : Shared) (H : Hp) (C : Addr) (cl : List (Str × Addr)) (fp : List Addr), PG (blkE X s H scope (compEnvC scope cl C X.env) fp W) tg g) (ht : ∀ (s : Shared) (H : Hp) (C : Addr) (cl : List (Str × Addr)) (fp : List Addr), PTs (blkE X s H scope (compEnvC scope cl C X.env) fp W) ifs tt)
    (he : ∀ (s : Shared) (H : Hp) (C : Addr) (cl : List (Str × Addr)) (fp : List Addr), C ≠ X.env.locals → PE (blkE X s H scope (compEnvC scope cl C X.env) fp W) elt te) (hs : ∀ x, foldedSetIterable iter X.env x = pure x := by intro _; rfl) :
    PS X (.Assign [.Name y py] (.ListComp elt [⟨tg, iter, ifs, 0⟩] scope pos) spos) (tAsg (tLc wi g tt te (own.map (·.2))) (gName i)) := by
  refine ⟨fun pins s σ H D I h => ?_⟩
  rw [exec_Assign_Name_used _ _ _ _ hsw]
  refine wpAny_bind (wpAny_standAt (wpAny_bind ?_))
  show wpAny _ X.A (do let _ ← comprehension (.ListComp elt [⟨tg, iter, ifs, 0⟩] scope pos) scope X.env (firstIterPos [⟨tg, iter, ifs, 0⟩] pos) (newList []) false (eval iter X.env) (some (assign (.Name y py) X.env))) _ _ s
  have h : tLc wi g tt te (own.map (·.2)) σ H (fun x H1 => gName i x σ H1 D.nx) := h
  refine wpAny_bind (thn (lc_coreE (Qf := fun _ s' => SP X pins D .next s') hc tk xt hW hN I hi ok hg ht he hs h fun L C s' m H' ce I' q hn f eC => ?_) fun _ s' hq => wpAny_pure (wpAny_pure hq))
  show wpAny _ _ (assign (.Name y py) X.env (.ref L)) _ _ _
  refine wpAny_assign_Name (store_ok2 (v := V.ref L) I' hN hy (.inl hyl) rfl (fun s2 I2 ⟨a, sb, ha⟩ => ?_) (.inr hyl))
  obtain ⟨f0, f1, f2, f3, f4, f5⟩ := f
  have haC : C ≠ a := by
    rcases ha with z | z
    · rw [z]; exact f1
    · exact fun e => f4 y a z e.symm
  refine ⟨m, by rw [eC]; exact hn.sameBut sb haC, fun h3 sb3 => ?_⟩
  rw [eC] at sb3
  exact ⟨_, H', I2.turned (t' := s2.toks) (fun b o hb e => (sb3.2 b hb).trans e) f0 f1 f3 f4 f5, q⟩
end
end DL

namespace DL
open PySem PySem.Spec PyProof.Rows L2
/-- the items that a comprehension makes; an item's error leaves it -/
def lcX (env : Env') (g : MG) (mt : MT) (me : ME) : List D → M (List D)
  | [] => fun st => .ok [] st
  | d :: ds => fun st => match g d env with
    | none => .bad
    | some env1 => (noEr (mt env1 st)).bind fun k st1 =>
      if k = true then (me env1 st1).bind fun y st2 => (lcX env g mt me ds st2).bind fun ys st3 => .ok (y :: ys) st3
      else lcX env g mt me ds st1
def mLX (mi : MA) (vs : List Nat) (g : MG) (mt : MT) (me : ME) : ME := fun env st => (mi env st).bind fun ds st1 => if ds.length ≤ sizeLine then (lcX (wipeE env vs) g mt me ds st1).bind lstOk else .bad
theorem lcX_cons (env : Env') (g : MG) (mt : MT) (me : ME) (d : D) (ds : List D) (st : List D) : lcX env g mt me (d :: ds) st = match g d env with
    | none => .bad
    | some env1 => (noEr (mt env1 st)).bind fun k st1 =>
      if k = true then (me env1 st1).bind fun y st2 => (lcX env g mt me ds st2).bind fun ys st3 => .ok (y :: ys) st3
      else lcX env g mt me ds st1 := rfl
section
variable {G : Glb} {X : Cx} {W : WX} {pos : Pos} {k : Nat}
/-- the walk of a comprehension that an error may leave -/
theorem lc_goX {O : Ow} {vs ix : List Nat} {g : MG} {mt : MT} {me : ME} {b : Act} {S1 H1 : Hp} {st1 : List D} {σ : L2.St} {env : Env'} {J : It} {ds : List D} {Q : VK} {D : Addr} (hW : ∀ c d σ σ' H, W c d σ H → W c d σ' H) (hv : ∀ v ∈ vs, O.has v = false) (hix : ∀ i ∈ ix, i ∈ vs) (I : DI G b O S1 env st1 σ H1) (it : IterOK G b.ad S1 J ds) (hD : H1 D = none) (hds : ds.length ≤ sizeLine)
    (hr : wpR (lcX (wipeE env vs) g mt me ds st1) (fun ys st' => ys.length ≤ sizeLine ∧ Post G b.ad S1 H1 (.lst ys) st' Q) (fun x st' => PostX G b.ad S1 H1 x st' fun c dd H' => W c dd σ H')) :
    ∃ Wv : Nat → Nat → Hp → Prop, (∃ m, Wv 0 m (upd H1 D (.lst []))) ∧ ∀ i m H, Wv i m H →
      (J.stop i H ∧ Q (.ref D) H) ∨ (J.go i H ∧ ∃ Nx : Hp → Prop, (∀ H', Nx H' → ∃ m', m' < m ∧ Wv (i + 1) m' H') ∧ ∀ x H', J.yld i H x H' → cG G O ix g x (wipe σ vs) H' fun σ2 H2 => wipe σ2 vs = wipe σ vs ∧ cT G W O mt σ2 H2 fun b H3 =>
        if b = true then cE G W O me σ2 H3 fun y H4 => ∃ acc, H4 D = some (.lst acc) ∧ acc.length < sizeLine ∧ Nx (upd H4 D (.lst (acc ++ [y]))) else Nx H3) := by
  have hDad : D ∉ b.ad := fun z => by
    obtain ⟨_, ws, hw⟩ := I.sto.has z
    rw [hD] at hw; cases hw
  refine ⟨fun i m H => m = ds.length - i ∧ i ≤ ds.length ∧ ∃ S2 st2 acc es, es.length ≤ i ∧ Ext b.ad S1 H1 S2 H ∧ Same S2 H ∧ StoOk G b.ad S2 st2 H ∧ S2 D = none ∧ H D = some (.lst acc) ∧ Reps G b.ad S2 acc es ∧
    wpR (lcX (wipeE env vs) g mt me (ds.drop i) st2) (fun rest st' => es.length + rest.length ≤ sizeLine ∧ Post G b.ad S1 H1 (.lst (es ++ rest)) st' Q) (fun x st' => PostX G b.ad S1 H1 x st' fun c dd H' => W c dd σ H'), ⟨ds.length, ?_⟩, ?_⟩
  · have so := I.sto
    have hS : S1 D = none := I.sub.free hD
    refine ⟨by simp, Nat.zero_le _, S1, st1, [], [], Nat.zero_le _, ⟨.refl _, fun _ _ z => .inl z, fun c o hc _ => .refl (by rw [upd_ne (ne_of_none hc hD)]; exact hc)⟩, fun c o hc => by rw [upd_ne (ne_of_none hc hS)]; exact I.sub _ _ hc,
      ⟨so.len, so.nd, fun n a ha => ?_, so.tab.keep fun b u h _ => by rw [upd_ne (ne_of_none h hD)]; exact h⟩, hS, upd_same, .nil, wpR_imp hr (fun ys st' ⟨q1, q2⟩ => ⟨by simpa using q1, q2⟩) fun _ _ z => z⟩
    obtain ⟨g1, dc, g2, g3⟩ := so.at_ n a ha
    exact ⟨g1, dc, g2, g3.fresh hD⟩
  · rintro i m H ⟨rfl, hi, S2, st2, acc, es, hes, x2, su2, so2, hS2, hacc, racc, hr2⟩
    by_cases hlt : i < ds.length
    · right
      obtain ⟨go, yl⟩ := (it i S2 H x2.same su2).2 _ (List.getElem?_eq_getElem hlt)
      refine ⟨go, fun H' => ∃ S3 st3 acc3 es3, es3.length ≤ i + 1 ∧ Ext b.ad S1 H1 S3 H' ∧ Same S3 H' ∧ StoOk G b.ad S3 st3 H' ∧ S3 D = none ∧ H' D = some (.lst acc3) ∧ Reps G b.ad S3 acc3 es3 ∧
        wpR (lcX (wipeE env vs) g mt me (ds.drop (i + 1)) st3) (fun rest st' => es3.length + rest.length ≤ sizeLine ∧ Post G b.ad S1 H1 (.lst (es3 ++ rest)) st' Q) (fun x st' => PostX G b.ad S1 H1 x st' fun c dd H' => W c dd σ H'), fun H' z => ⟨ds.length - (i + 1), by omega, rfl, hlt, z⟩, fun x H' y => ?_⟩
      obtain ⟨S3, x3, su3, so3, r3⟩ := yl x H' y
      have so3' := so3 _ so2
      have I3 : DI G b O S3 (wipeE env vs) st2 (wipe σ vs) H' := DI.ext (DI.wipe (DI.ext I x2 su2 so2) hv) x3 su3 so3'
      have hD3 : H' D = some (.lst acc) := (x3.keep D _ hacc hDad).lst
      have hS3 : S3 D = none := by
        cases e : S3 D with
        | none => rfl
        | some o =>
          rcases x3.new D o e with z | z
          · rw [hS2] at z; cases z
          · rw [hacc] at z; cases z
      have x3' := x2.trans so2 x3
      rw [List.drop_eq_getElem_cons hlt, lcX_cons] at hr2
      cases eg : g ds[i] (wipeE env vs) with
      | none => rw [eg] at hr2; exact hr2.elim
      | some env1 =>
        rw [eg] at hr2
        refine ⟨b, S3, _, env1, st2, ds[i], I3, r3, eg, fun σ2 hs2 I4 => ⟨wipe_stay hs2 hix, b, S3, env1, st2, I4, ?_⟩⟩
        dsimp only at hr2
        cases et : mt env1 st2 with
        | err x st => rw [et] at hr2; exact hr2.elim
        | bad => rw [et] at hr2; exact hr2.elim
        | ok kk st4 =>
          rw [et] at hr2
          have hr2 : wpR (if kk = true then (me env1 st4).bind fun y st2 => (lcX (wipeE env vs) g mt me (ds.drop (i + 1)) st2).bind fun ys st3 => Res.ok (y :: ys) st3 else lcX (wipeE env vs) g mt me (ds.drop (i + 1)) st4) (fun rest st' => es.length + rest.length ≤ sizeLine ∧ Post G b.ad S1 H1 (.lst (es ++ rest)) st' Q) (fun x st' => PostX G b.ad S1 H1 x st' fun c dd H' => W c dd σ H') := hr2
          intro S5 H5 x5 su5 so5
          have hD5 : H5 D = some (.lst acc) := (x5.keep D _ hD3 hDad).lst
          have hS5 : S5 D = none := by
            cases e : S5 D with
            | none => rfl
            | some o =>
              rcases x5.new D o e with z | z
              · rw [hS3] at z; cases z
              · rw [hD3] at z; cases z
          have x5' := x3'.trans so3' x5
          cases kk with
          | false =>
            rw [if_neg Bool.false_ne_true] at hr2 ⊢
            exact ⟨S5, st4, acc, es, Nat.le_succ_of_le hes, x5', su5, so5, hS5, hD5, (racc.mono x3.same).mono x5.same, hr2⟩
          | true =>
            rw [if_pos rfl] at hr2 ⊢
            refine ⟨b, S5, env1, st4, I4.ext x5 su5 so5, ?_⟩
            refine wpR_imp (wpR_bind hr2) (fun y0 st6 h6 => ?_) fun x st' z => ?_
            · intro v S6 H6 x6 su6 so6 r6
              have hD6 : H6 D = some (.lst acc) := (x6.keep D _ hD5 hDad).lst
              have hS6 : S6 D = none := by
                cases e : S6 D with
                | none => rfl
                | some o =>
                  rcases x6.new D o e with z | z
                  · rw [hS5] at z; cases z
                  · rw [hD5] at z; cases z
              have x6' := x5'.trans so5 x6
              have racc6 := ((racc.mono x3.same).mono x5.same).mono x6.same
              have h7 := wpR_bind h6
              have hlen : acc.length < sizeLine := by
                rw [racc6.len]; omega
              refine ⟨acc, hD6, hlen, S6, st6, acc ++ [v], es ++ [y0], by rw [List.length_append, List.length_singleton]; omega, ⟨x6'.same, x6'.new, fun c o hc hca => ?_⟩, fun c o hc => ?_, ⟨so6.len, so6.nd, fun n a ha => ?_, so6.tab.keep fun b u h n => by rw [upd_ne (fun z => by rw [z, hD6] at h; cases h; exact n.lst)]; exact h⟩, hS6, upd_same, racc6.append (.cons r6 .nil), wpR_imp h7 (fun ys st' ⟨q1, q2⟩ => ⟨?_, ?_⟩) fun _ _ z => z⟩
              · exact (x6'.keep c o hc hca).map fun o' h' => by rw [upd_ne (ne_of_none hc hD)]; exact h'
              · rw [upd_ne (ne_of_none hc hS6)]; exact su6 _ _ hc
              · obtain ⟨g1, dc, g2, g3⟩ := so6.at_ n a ha
                exact ⟨g1, dc, g2, g3.updL hD6 fun z => hDad (by subst z; exact List.mem_iff_getElem?.mpr ⟨n, ha⟩)⟩
              · rw [List.length_cons] at q1
                rw [List.length_append, List.length_singleton]
                omega
              · rw [List.append_assoc]
                exact q2
            · intro cls dd S6 H6 x6 su6 so6 r6
              exact hW _ _ _ _ _ (z cls dd S6 H6 (x5'.trans so5 x6) su6 so6 r6)
    · left
      have hi' : i = ds.length := Nat.le_antisymm hi (Nat.le_of_not_lt hlt)
      refine ⟨(it i S2 H x2.same su2).1 hi', ?_⟩
      rw [hi', List.drop_length] at hr2
      obtain ⟨_, q⟩ : es.length + ([] : List DL.D).length ≤ sizeLine ∧ Post G b.ad S1 H1 (.lst (es ++ [])) st2 Q := hr2
      rw [List.append_nil] at q
      have key : Same S2 (upd S2 D (.lst acc)) := fun c o hc => by rw [upd_ne (ne_of_none hc hS2)]; exact hc
      refine q (.ref D) (upd S2 D (.lst acc)) H ⟨x2.same.trans key, fun c o hc => ?_, x2.keep⟩ (fun c o hc => ?_) ⟨so2.len, so2.nd, fun n a ha => ?_, so2.tab.known fun a ⟨_, hh⟩ ha => by rw [upd_ne (fun z => by rw [z, hacc] at hh; cases hh)]; exact ha⟩ (.lst upd_same (racc.mono key))
      · by_cases hcD : c = D
        · subst hcD; exact .inr hD
        · rw [upd_ne hcD] at hc; exact x2.new c o hc
      · by_cases hcD : c = D
        · subst hcD; rw [upd_same] at hc; cases hc; exact hacc
        · rw [upd_ne hcD] at hc; exact su2 _ _ hc
      · obtain ⟨g1, dc, g2, g3⟩ := so2.at_ n a ha
        exact ⟨by rw [upd_ne fun z => hDad (by subst z; exact List.mem_iff_getElem?.mpr ⟨n, ha⟩)]; exact g1, dc, g2, g3.mono key⟩
theorem xc_blkE (xc : XC k G X W) (xt : XT X) {s : Shared} {H : Hp} {scope : Scope} {C : Addr} {cl : List (Str × Addr)} {fp : List Addr} (hC : C ≠ X.env.locals) : XC k G (blkE X s H scope (compEnvC scope cl C X.env) fp W) W :=
  ⟨takes_blk, XB.passes (X := X.blk s H scope (compEnvC scope cl C X.env) fp) (env := X.env) (outer := X.outer) xt.stk xt.fr rfl hC, xc.calm, xc.hr, xc.K⟩
theorem lc_walkX {O : Ow} {vs ix : List Nat} {mi : MA} {g : MG} {mt : MT} {me : ME} {b : Act} {S H : Hp} {st : List D} {σ : L2.St} {env : Env'} {Q : VK} {wi : TI} (hW : ∀ c d σ σ' H, W c d σ H → W c d σ' H) (hv : ∀ v ∈ vs, O.has v = false) (hix : ∀ i ∈ ix, i ∈ vs)
    (wwi : ∀ (b : Act) S env st σ H R, DI G b O S env st σ H → wpR (mi env st) (fun ds st' => ∀ J S' H', Ext b.ad S H S' H' → Same S' H' → StoOk G b.ad S' st' H' → IterOK G b.ad S' J ds → R J H') (fun x st' => PostX G b.ad S H x st' fun c dd H' => W c dd σ H') → wi σ H R)
    (I : DI G b O S env st σ H) (h : wpR (mLX mi vs g mt me env st) (fun d st' => Post G b.ad S H d st' Q) (fun x st' => PostX G b.ad S H x st' fun c dd H' => W c dd σ H')) : tLc wi (cG G O ix g) (cT G W O mt) (cE G W O me) vs σ H Q := by
  refine wwi b S env st σ H _ I (wpR_imp (wpR_bind h) (fun ds st1 h1 => ?_) fun _ _ z => z)
  intro J S1 H1 x1 su1 so1 it D hD
  by_cases hds : ds.length ≤ sizeLine
  · have h1 : wpR (if ds.length ≤ sizeLine then (lcX (wipeE env vs) g mt me ds st1).bind lstOk else .bad) (fun d st' => Post G b.ad S H d st' Q) (fun x st' => PostX G b.ad S H x st' fun c dd H' => W c dd σ H') := h1
    rw [if_pos hds] at h1
    refine lc_goX hW hv hix (I.ext x1 su1 so1) it hD hds (wpR_imp (wpR_bind h1) (fun ys st' z => ?_) fun x st' z => z.from_ x1 so1)
    unfold lstOk at z
    split at z
    · rename_i hl
      exact ⟨hl, Post.from_ x1 so1 z⟩
    · exact z.elim
  · have h1 : wpR (if ds.length ≤ sizeLine then (lcX (wipeE env vs) g mt me ds st1).bind lstOk else .bad) (fun d st' => Post G b.ad S H d st' Q) (fun x st' => PostX G b.ad S H x st' fun c dd H' => W c dd σ H') := h1
    rw [if_neg hds] at h1
    exact h1.elim
/-- y = [..], an item's error leaves it and the def -/
theorem ds_setLcX {O : Ow} {Ob : Ow} {OE : Ow → Prop} {y : Str} {py spos : Pos} {elt tg iter : Expr} {ifs : List Expr} {scope : Scope} {own : List (Str × Nat)} {ix : List Nat} {mi : MA} {g : MG} {mt : MT} {me : ME} (i : Nat) (xc : XC k G X W) (xt : XT X) (hW : ∀ c d σ σ' H, W c d σ H → W c d σ' H) (hN : X.N.Nodup) (hi : DIt G X W O tg iter mi) (ok : BlkOk X.N X.env.scope scope own)
    (hsw : swapsWith (.ListComp elt [⟨tg, iter, ifs, 0⟩] scope pos) (some (.Name y py)) spos.line X.env = pure true)
    (hg : ∀ (s : Shared) (H : Hp) (C : Addr) (cl : List (Str × Addr)) (fp : List Addr), DG G (blkE X s H scope (compEnvC scope cl C X.env) fp W) O ix tg g)
    (ht : ∀ (s : Shared) (H : Hp) (C : Addr) (cl : List (Str × Addr)) (fp : List Addr), DTs G (blkE X s H scope (compEnvC scope cl C X.env) fp W) W O ifs mt)
    (he : ∀ (s : Shared) (H : Hp) (C : Addr) (cl : List (Str × Addr)) (fp : List Addr), XC k G (blkE X s H scope (compEnvC scope cl C X.env) fp W) W → DE G (blkE X s H scope (compEnvC scope cl C X.env) fp W) W O elt me)
    (hO : OE O := by first | trivial | rfl) (hy : X.N[i]? = some y := by rfl) (hyl : X.env.scope.names.lookup y = some .local := by rfl) (ho : O.has i = false := by rfl)
    (hv : ∀ v ∈ own.map (·.2), O.has v = false := by intro v hv; revert v; decide) (hix : ∀ i ∈ ix, i ∈ own.map (·.2) := by decide) (hs : ∀ x, foldedSetIterable iter X.env x = pure x := by intro _; rfl) :
    DS G X W Ob OE O (.Assign [.Name y py] (.ListComp elt [⟨tg, iter, ifs, 0⟩] scope pos) spos) O (mSet i (mLX mi (own.map (·.2)) g mt me)) := by
  obtain ⟨wi, pi, wwi⟩ := hi.ex
  refine ⟨_, ps_setLcE (i := i) xc.calm xc.tk xt hW hN hy hyl hsw pi ok (fun s H C cl fp => (hg s H C cl fp).c) (fun s H C cl fp => (ht s H C cl fp).c) (fun s H C cl fp hC => (he s H C cl fp (xc_blkE xc xt hC)).c) hs, fun b S env st σ H D I h => ?_⟩
  exact do_part (me := mLX mi (own.map (·.2)) g mt me) (t := tLc wi (cG G O ix g) (cT G W O mt) (cE G W O me) (own.map (·.2))) hO (fun b S env st σ H Q I h => lc_walkX hW hv hix wwi I h) I h fun v d S' H' st' I' r q => q _ _ _ (.refl _) (I'.set r ho)
end
end DL

namespace DL
open PySem PySem.Spec PyProof.Rows L2
/-- a text's method with one argument -/
structure Mt1D (G : Glb) (r : V → List V → Hp → VK → Prop) (f : D → D → Option D) : Prop where
  go : ∀ ad S H st (a : Str) y dy d Q, Same S H → StoOk G ad S st H → Rep G ad S y dy → f (.str a) dy = some d → Post G ad S H d st Q → r (.str a) [y] H Q
section
variable {G : Glb} {X : Cx} {W : WX} {O : Ow} {pos apos p : Pos} {o e : Expr} {mo me : ME} {name : Str} {id : String} {r : V → List V → Hp → VK → Prop} {f : D → D → Option D}
end
section
variable {G : Glb} {X : Cx}
end
def mJs : List ME → Str → ME
  | [], acc => fun _ st => .ok (.str acc) st
  | m :: ms, acc => fun env st => (m env st).bind fun d st1 => match d with
    | .str y => if (acc ++ y).length ≤ sizeLine then mJs ms (acc ++ y) env st1 else .bad
    | _ => .bad
section
variable {G : Glb} {X : Cx} {W : WX} {O : Ow} {pos p p2 : Pos} {e tg : Expr} {me : ME}
/-- the parts of an f-string -/
inductive DJs (G : Glb) (X : Cx) (W : WX) (O : Ow) : List Expr → List ME → Prop where
  | nil : DJs G X W O [] []
  | cons {e : Expr} {m : ME} {es : List Expr} {ms : List ME} (h : DE G X W O e m) (r : DJs G X W O es ms) : DJs G X W O (e :: es) (m :: ms)
theorem DJs.walk {es : List Expr} {ms : List ME} (h : DJs G X W O es ms) : ∃ ts, PJ X es ts ∧ ∀ (acc : Str) (b : Act) S env st σ H Q, DI G b O S env st σ H → wpR (mJs ms acc env st) (fun d st' => Post G b.ad S H d st' Q) (fun x st' => PostX G b.ad S H x st' fun c dd H' => W c dd σ H') → tJs ts acc σ H fun out H1 => Q (.str out) H1 := by
  induction h with
  | nil => exact ⟨[], .nil, fun acc b S env st σ H Q I h => h (.str acc) S H (.refl _ _ _) I.sub I.sto (.str acc)⟩
  | @cons e m es ms he r ih =>
    obtain ⟨t, p, w⟩ := he.ex
    obtain ⟨ts, pj, wj⟩ := ih
    refine ⟨t :: ts, .cons p pj, fun acc b S env st σ H Q I h => ?_⟩
    refine w b S env st σ H _ I (wpR_imp (wpR_bind h) (fun dx st1 h1 => ?_) fun _ _ z => z)
    intro x S1 H1 x1 su1 so1 r1
    cases r1 with
    | str y =>
      have h1 : wpR (if (acc ++ y).length ≤ sizeLine then mJs ms (acc ++ y) env st1 else .bad) (fun d st' => Post G b.ad S H d st' Q) (fun x st' => PostX G b.ad S H x st' fun c dd H' => W c dd σ H') := h1
      by_cases hl : (acc ++ y).length ≤ sizeLine
      · rw [if_pos hl] at h1
        exact ⟨y, rfl, hl, wj (acc ++ y) b S1 env st1 σ H1 Q (I.ext x1 su1 so1) (wpR_imp h1 (fun d st' z => Post.from_ x1 so1 z) fun x st' z => z.from_ x1 so1)⟩
      · rw [if_neg hl] at h1
        exact h1.elim
    | _ => exact h1.elim
end
section
variable {X : Cx}
end
section
variable {G : Glb} {X : Cx} {W : WX} {O : Ow} {apos cpos : Pos} {o e : Expr} {mo me : ME}
end
end DL

namespace DL
open PySem PySem.Spec PyProof.Rows L2
structure DefKOk (K : PySem.W.Frag) (mg : Str → Option Value) (x : Str) (st : Stmt) (ps : List Str) (kws : List (Str × V)) (f : Addr) (fd : FuncData) : Prop where
  F : FunD K x x (defArgs st) (defBody st) (defScope st) [] kws f fd
  g : mg x = some (.ref f)
  b : ∃ ds, Vals (kws.map (·.2)) ds ∧ Binds K fd ps ds
theorem DefKOk.kp {K : PySem.W.Frag} {mg : Str → Option Value} {x : Str} {st : Stmt} {ps : List Str} {kws : List (Str × V)} {f : Addr} {fd : FuncData} (d : DefKOk K mg x st ps kws f fd) : PySem.W.keepIn K (.ref f) = true := d.F.kp
section
variable {P : Program} {w : World} {K : PySem.W.Frag} {mg : Str → Option Value} {base : Heap}
end
section
variable {G : Glb} {X : Cx} {W : WX} {O : Ow} {pos p : Pos} {x : Str} {e : Expr} {es : List Expr} {ma : MA} {k j n n' : Nat} {f : Addr} {fd : FuncData} {ps : List Str} {m : List D → M D} {dvs : List V} {dds : List D}
end
/-- a dict's values, one behind another -/
structure DKV (G : Glb) (X : Cx) (W : WX) (O : Ow) (pos : Pos) (ks : List Str) (keys : List (Option Expr)) (es : List Expr) (m : MA) : Prop where
  ex : ∃ trs, PPs X pos keys es trs ∧ ∀ (b : Act) S env st σ H (Q : List (V × V) → Hp → Prop), DI G b O S env st σ H → wpR (m env st) (fun ds st' => PostA G b.ad S H ds st' fun vs H' => Q (List.zipWith (fun k v => (V.str k, v)) ks vs) H') (fun x st' => PostX G b.ad S H x st' fun c dd H' => W c dd σ H') → tPairs trs σ H Q
section
variable {G : Glb} {X : Cx} {W : WX} {O : Ow} {pos p : Pos} {k : Str} {ks : List Str} {keys : List (Option Expr)} {e : Expr} {es : List Expr} {me : ME} {ma : MA}
variable {apos cpos : Pos} {o ek ef : Expr} {mo mk mf : ME}
end
section
variable {X : Cx}
end
section
variable {G : Glb} {X : Cx} {W : WX} {O : Ow} {apos cpos : Pos} {o e : Expr} {mo me : ME}
end
section
variable {X : Cx}
end
section
variable {P : Program} {w : World} {K : PySem.W.Frag} {mg : Str → Option Value} {base : Heap}
end
/-- what such a class has -/
structure OexT0 (G : Glb) (mg : Str → Option Value) (x : Str) (c : Nat) (fI : Addr) : Prop where
  oc : OexC G.K (G.cl c)
  in_ : PySem.W.findIn G.K (.ref (G.cl c)) "__init__" = some (some (.ref fI))
  tI : PySem.W.typeIn G.K (.ref fI) = some (.type "function")
  g : mg x = some (.ref (G.cl c))
section
variable {G : Glb} {X : Cx} {W : WX} {Ob : Ow} {OE : Ow → Prop} {O O1 : Ow} {pos p pos' : Pos} {k j : Nat} {x : Str} {c : Nat} {fI : Addr} {fd : FuncData} {ps : List Str}
end
structure KTabN (K : PySem.W.Frag) (w : World) (a : Addr) (tab : Str → Option (List Str)) : Prop where
  t : KTab K w a tab
  no : ∀ z, tab z = none → PySem.W.nsIn K a z = some none
section
variable {G : Glb} {X : Cx} {W : WX} {O : Ow} {pos : Pos} {a b : Expr} {ma mb : ME} {c : Nat} {tab : Str → Option (List Str)}
end
end DL

namespace DL
open PySem PySem.Spec PyProof.Rows L2
section
variable {X : Cx} {CX : CXT} {x : Str} {C fI : Addr} {k : Nat} {fd : FuncData} {ps : List Str} {sp : Sp} {e : Expr} {es : List Expr} {ta : TA} {p pos : Pos}
end
section
variable {G : Glb} {X : Cx} {W : WX} {O : Ow} {pos p : Pos} {k j : Nat} {x : Str} {c : Nat} {fI : Addr} {fd : FuncData} {ps fs : List Str} {e : Expr} {es : List Expr} {ma : MA} {okV : List V → Prop} {okD : List D → Bool}
end
section
variable {G : Glb} {X : Cx} {W : WX} {O : Ow} {pos p : Pos} {k j : Nat} {x : Str} {c : Nat} {fI : Addr} {fd : FuncData} {ps : List Str}
end
section
variable {G : Glb} {X : Cx} {W : WX} {O : Ow} {pos : Pos} {e : Expr} {te : TE} {f : Str} {m : ME} {okX : Nat → Str → Bool}
end
structure BaseI (K : PySem.W.Frag) (B : Addr) : Prop where
  ga : PySem.W.specialIn K (.ref B) "__getattribute__" = some (some (.builtin "type.__getattribute__"))
  rd : PySem.W.readsIn K B (.type "type") = true
  fi : PySem.W.findCls K (.ref B) (.type "type") "__init__" = some (.val (.builtin "ValueError.__init__"))
section
variable {X : Cx} {e : Expr} {es : List Expr} {ta : TA} {x : Str} {B : Addr} {p1 p2 pos : Pos}
end
section
variable {P : Program} {w : World} {K : PySem.W.Frag} {mg : Str → Option Value} {base : Heap}
end
structure ErrA (K : PySem.W.Frag) (C : Addr) (mro : List Value) : Prop where
  ex : ExcC K C
  mr : (PySem.W.clsIn K C).map (·.mro) = some mro
  ty : PySem.W.typeIn K (.ref C) = some (.type "type")
def mroVE : List Value := [.type "ValueError", .type "Exception", .type "BaseException", .type "object"]
/-- the order of an error class: its own classes, then the built-in ones -/
def MroE (K : PySem.W.Frag) (C : Addr) (m : List Addr) : Prop := (PySem.W.clsIn K C).map (·.mro) = some (m.map (fun a => .ref a) ++ mroVE)
theorem MroE.eq {K : PySem.W.Frag} {C : Addr} {m : List Addr} (h : MroE K C m) : (PySem.W.clsIn K C).map (·.mro) = some (m.map (fun a => .ref a) ++ mroVE) := h
theorem MroE.one {K : PySem.W.Frag} {C : Addr} (h : (PySem.W.clsIn K C).map (·.mro) = some [.ref C, .type "ValueError", .type "Exception", .type "BaseException", .type "object"]) : MroE K C [C] := h
theorem MroE.two {K : PySem.W.Frag} {C B : Addr} (h : (PySem.W.clsIn K C).map (·.mro) = some [.ref C, .ref B, .type "ValueError", .type "Exception", .type "BaseException", .type "object"]) : MroE K C [C, B] := h
theorem MroE.of {K : PySem.W.Frag} {C : Addr} {m : List Addr} {cl : Value} {dict : Option Addr} {cd : ClassData} {sl : Array (Option Value)} (h : K.lookup C = some ⟨cl, dict, .cls cd, sl⟩) (e : cd.mro = m.map (fun a => .ref a) ++ mroVE) : MroE K C m := by
  unfold MroE PySem.W.clsIn
  rw [h]
  show some cd.mro = _
  rw [e]
end DL

namespace DL
open PySem PySem.Spec PyProof.Rows L2
def NoLst (S : Hp) : Prop := ∀ (c : Addr) (ws : List V), S c ≠ some (.lst ws)
def PostN (G : Glb) (b : Act) (D : Ends) : Out → Prop
  | .rt d st => ∀ v S' H, Ext b.ad b.S b.H S' H → Same S' H → StoOk G b.ad S' st H → Rep G b.ad S' v d → D.rt v H
  | _ => False
structure DSsN (G : Glb) (X : Cx) (W : WX) (O : Ow) (s : List Stmt) (m : MS) : Prop where
  ex : ∃ t, PSs X s t ∧ ∀ (b : Act) S env st σ H D, NoLst b.S → DI G b O S env st σ H → PostN G b D (m env st) → t D σ H
section
variable {G : Glb} {X : Cx} {W : WX} {Ob : Ow} {OE : Ow → Prop} {O O1 O2 : Ow} {pos : Pos} {s : Stmt} {rest : List Stmt} {m n : MS}
end
section
variable {P : Program} {w : World} {K : PySem.W.Frag} {mg : Str → Option Value} {base : Heap}
end
section
variable {G : Glb} {X : Cx} {W : WX} {O : Ow} {pos p : Pos} {x : Str} {e : Expr} {es : List Expr} {ma : MA} {k j n : Nat} {f : Addr} {fd : FuncData} {ps : List Str} {m : List D → M D}
end
end DL

namespace DL
open PySem PySem.Spec PyProof.Rows L2
/-- new lists, nobody else's -/
inductive FL (G : Glb) (ad : List Addr) (H1 : Hp) (D : Addr) (S H : Hp) : List (Addr × List V) → List (List DL.D) → Prop
  | nil : FL G ad H1 D S H [] []
  | cons {a : Addr} {vs : List V} {ds : List DL.D} {ls : List (Addr × List V)} {ess : List (List DL.D)} : S a = none → H a = some (.lst vs) → Reps G ad S vs ds → a ∉ ad → a ≠ D → H1 a = none → FL G ad H1 D S H ls ess → FL G ad H1 D S H ((a, vs) :: ls) (ds :: ess)
theorem FL.len {G : Glb} {ad : List Addr} {H1 : Hp} {D : Addr} {S H : Hp} : ∀ {ls : List (Addr × List V)} {ess : List (List DL.D)}, FL G ad H1 D S H ls ess → ls.length = ess.length
  | _, _, .nil => rfl
  | _, _, .cons _ _ _ _ _ _ r => congrArg (· + 1) r.len
theorem FL.at_ {G : Glb} {ad : List Addr} {H1 : Hp} {D : Addr} {S H : Hp} : ∀ {ls : List (Addr × List V)} {ess : List (List DL.D)} {n : Nat} {p : Addr × List V}, FL G ad H1 D S H ls ess → ls[n]? = some p →
    ∃ ds, ess[n]? = some ds ∧ S p.1 = none ∧ H p.1 = some (.lst p.2) ∧ Reps G ad S p.2 ds ∧ p.1 ∉ ad ∧ p.1 ≠ D ∧ H1 p.1 = none
  | _, _, 0, _, .cons h1 h2 h3 h4 h5 h6 r, e => by cases e; exact ⟨_, rfl, h1, h2, h3, h4, h5, h6⟩
  | _, _, n + 1, _, .cons h1 h2 h3 h4 h5 h6 r, e => FL.at_ (n := n) r e
theorem FL.of_at {G : Glb} {ad : List Addr} {H1 : Hp} {D : Addr} {S H : Hp} : ∀ {ls : List (Addr × List V)} {ess : List (List DL.D)}, ls.length = ess.length → (∀ (n : Nat) (p : Addr × List V) (ds : List DL.D), ls[n]? = some p → ess[n]? = some ds → S p.1 = none ∧ H p.1 = some (.lst p.2) ∧ Reps G ad S p.2 ds ∧ p.1 ∉ ad ∧ p.1 ≠ D ∧ H1 p.1 = none) → FL G ad H1 D S H ls ess
  | [], [], _, _ => .nil
  | (a, vs) :: ls, ds :: ess, hl, h => by
    obtain ⟨h1, h2, h3, h4, h5, h6⟩ := h 0 (a, vs) ds rfl rfl
    exact .cons h1 h2 h3 h4 h5 h6 (FL.of_at (by simpa using hl) fun n p q e1 e2 => h (n + 1) p q e1 e2)
  | [], _ :: _, hl, _ => by simp at hl
  | _ :: _, [], hl, _ => by simp at hl
/-- where such lists stand -/
structure LS (G : Glb) (ad : List Addr) (S1 H1 : Hp) (D : Addr) (S2 H : Hp) (st : List DL.D) (ls : List (Addr × List V)) (ess : List (List DL.D)) : Prop where
  x : Ext ad S1 H1 S2 H
  su : Same S2 H
  so : StoOk G ad S2 st H
  d0 : S2 D = none
  dn : D ∉ ad
  dl : H D = some (.lst (ls.map fun p => V.ref p.1))
  fl : FL G ad H1 D S2 H ls ess
  nd : (ls.map (·.1)).Nodup
theorem LS.ext {G : Glb} {ad : List Addr} {S1 H1 : Hp} {D : Addr} {S2 H S3 H' : Hp} {st st' : List DL.D} {ls : List (Addr × List V)} {ess : List (List DL.D)} (L : LS G ad S1 H1 D S2 H st ls ess) (x : Ext ad S2 H S3 H') (su : Same S3 H') (so : StoOk G ad S3 st' H') : LS G ad S1 H1 D S3 H' st' ls ess := by
  have no : ∀ {a o}, S2 a = none → H a = some o → S3 a = none := fun {a o} h1 h2 => by
    cases e : S3 a with
    | none => rfl
    | some u =>
      rcases x.new a u e with z | z
      · rw [h1] at z; cases z
      · rw [h2] at z; cases z
  refine ⟨L.x.trans L.so x, su, so, no L.d0 L.dl, L.dn, (x.keep _ _ L.dl L.dn).lst, .of_at L.fl.len fun n p ds e1 e2 => ?_, L.nd⟩
  obtain ⟨ds', q0, q1, q2, q3, q4, q5, q6⟩ := L.fl.at_ e1
  rw [e2] at q0
  cases q0
  exact ⟨no q1 q2, (x.keep _ _ q2 q4).lst, q3.mono x.same, q4, q5, q6⟩
def cF (G : Glb) (W : WX) (O : Ow) (m : MA) : TE := fun σ H Q => ∃ (b : Act) (S : Hp) (env : Env') (st : List DL.D), DI G b O S env st σ H ∧ wpR (m env st) (fun ds st' => PostF G b.ad S H ds st' Q) (fun x st' => PostX G b.ad S H x st' fun c dd H' => W c dd σ H')
section
variable {G : Glb} {X : Cx} {W : WX} {pos : Pos} {k : Nat}
theorem DF.c {O : Ow} {e : Expr} {m : MA} (h : DF G X W O e m) : PE X e (cF G W O m) := by
  obtain ⟨t, p, w⟩ := h.ex
  exact ⟨fun pins s σ H Q I ⟨b, S, env, st, J, q⟩ => p.run pins s σ H Q I (w b S env st σ H Q J q)⟩
end
section
variable {G : Glb} {X : Cx} {W : WX} {pos : Pos} {k : Nat} {O O2 Ob : Ow} {OE : Ow → Prop}
end
end DL

namespace DL
open PySem PySem.Spec PyProof.Rows L2 PySem.W
section
variable {prog : Program} {w : World} {A : Around} {E : Value → Shared → Prop} {s : Shared} {K : Frag} {x C L f : Addr} {h₀ : Heap} {m : Str → Option Value} {ox : Obj} {od : Option Obj} {b tb : Value}
end
section
variable {X : Cx} {n : Nat} {C f : Addr} {fd : FuncData} {ps : List Str} {sp : Sp}
end
/-- the != of the class c -/
structure NeAt (P : Program) (w : World) (G : Glb) (K : PySem.W.Frag) (mg : Str → Option Value) (base : Heap) (k : Nat) (okT : Tag → Bool) (c : Nat) (m : List D → M D) : Prop where
  eq : EqAt P w G K mg base k okT c m
  ne : PySem.W.findIn G.K (.ref (G.cl c)) "__ne__" = some (some (.builtin "object.__ne__"))
  so : PySem.W.subIn G.K (.ref (G.cl c)) (.type "object") = some true
section
variable {G : Glb} {X : Cx} {W : WX} {O : Ow} {pos : Pos} {a b : Expr} {ma mb : ME} {k kk : Nat} {okI : Nat → Bool} {okT : Tag → Bool} {eqs : Nat → Option (List D → M D)}
end
section
variable {X : Cx} {W : WX} {n : Nat} {C f : Addr} {fd : FuncData} {ps : List Str} {sp : Sp} {cd : ClassData} {rest : List Value} {a b : Expr} {ta tb : TE} {pos : Pos}
end
section
variable {G : Glb} {X : Cx} {W : WX} {O : Ow} {pos : Pos} {a b : Expr} {ma mb : ME} {k j : Nat} {f : Addr} {fd : FuncData} {ps : List Str} {m : List D → M D} {ci : Nat}
end
end DL

namespace DL
open PySem PySem.Spec PyProof.Rows L2

section
variable {P : Program} {w : World} {K : PySem.W.Frag} {mg : Str → Option Value} {base : Heap}
end
section
variable {G : Glb} {ad : List Addr} {S H : Hp} {st : List D} {a dx : Addr} {c : Nat} {vs : List (Str × V)} {fs : List (Str × D)}
theorem StoOk.obj (so : StoOk G ad S st H) (hS : S a = none) (hn : a ∉ ad) (h1 : H a = some (.ins (G.cl c) dx vs)) (h2 : H dx = some (.own a)) (r : RepF G ad S vs fs) : StoOk G (ad ++ [a]) S (st ++ [.obj c fs]) H := by
  have hln := so.len
  refine ⟨by simp [hln], ?_, fun n b hb => ?_, so.tab⟩
  · rw [List.nodup_append]
    refine ⟨so.nd, by simp, fun x hx y hy => ?_⟩
    have hy := List.mem_singleton.mp hy
    subst hy
    exact fun z => hn (z ▸ hx)
  · by_cases hc : n < ad.length
    · rw [List.getElem?_append_left hc] at hb
      obtain ⟨z1, dc, z2, z3⟩ := so.at_ n b hb
      exact ⟨z1, dc, by rw [List.getElem?_append_left (by omega)]; exact z2, z3.more⟩
    · have hn' := (List.getElem?_eq_some_iff.mp hb).1
      rw [List.length_append, List.length_singleton] at hn'
      have en : n = ad.length := by omega
      subst en
      rw [List.getElem?_append_right (Nat.le_refl _)] at hb
      simp at hb
      subst hb
      exact ⟨hS, .obj c fs, by rw [List.getElem?_append_right (by omega), hln]; simp, .ins h1 h2 r.more⟩
end
section
variable {G : Glb} {X : Cx} {W : WX} {O : Ow} {pos pos' p p' apos : Pos} {x y name : Str} {e e1 : Expr} {es : List Expr} {m1 : ME} {ma : MA} {k j ji n : Nat} {f fi : Addr} {fd fdi : FuncData} {ps psi : List Str} {m mi : List D → M D} {ci : Nat}
end
section
variable {G : Glb} {X : Cx} {W : WX} {Ob : Ow} {OE : Ow → Prop} {O O1 : Ow} {pos pos' p' p2 rpos : Pos} {y : Str} {e er : Expr} {es : List Expr} {me : ME} {ma : MA} {k ji n : Nat} {fi : Addr} {fdi : FuncData} {psi : List Str} {mi : List D → M D} {ci : Nat}
end
section
variable {G : Glb} {X : Cx} {W : WX} {Ob : Ow} {OE : Ow → Prop} {O : Ow} {pos pos' : Pos} {e : Expr} {me : ME} {okF : Nat → Str → Bool}
end
structure PropAt (K : PySem.W.Frag) (C : Addr) (f : Str) (g : Addr) : Prop where
  ex : ∃ p, PropOf K C f p g
section
variable {X : Cx}
end
section
variable {G : Glb} {X : Cx} {W : WX} {O : Ow} {apos cpos : Pos} {o e : Expr} {mo me : ME}
end
end DL

namespace DL
open PySem PySem.Spec PyProof.Rows L2

section
variable {G : Glb} {b : Act} {O : Ow} {S1 H1 S H S' H' : Hp} {D : Addr} {st st' : List DL.D} {acc : List V} {es : List DL.D}
/-- a list is on its way at D -/
structure LGo (G : Glb) (b : Act) (S1 H1 : Hp) (D : Addr) (S H : Hp) (st : List DL.D) (acc : List V) (es : List DL.D) : Prop where
  x : Ext b.ad S1 H1 S H
  su : Same S H
  so : StoOk G b.ad S st H
  hS : S D = none
  hD : H D = some (.lst acc)
  r : Reps G b.ad S acc es
theorem LGo.start (su : Same S1 H1) (so : StoOk G b.ad S1 st H1) (hD : H1 D = none) : LGo G b S1 H1 D S1 (upd H1 D (.lst [])) st [] [] := by
  have hS : S1 D = none := su.free hD
  refine ⟨⟨.refl _, fun _ _ z => .inl z, fun c o hc _ => .refl (by rw [upd_ne (ne_of_none hc hD)]; exact hc)⟩, fun c o hc => by rw [upd_ne (ne_of_none hc hS)]; exact su _ _ hc,
      ⟨so.len, so.nd, fun n a ha => ?_, so.tab.keep fun b u h _ => by rw [upd_ne (ne_of_none h hD)]; exact h⟩, hS, upd_same, .nil⟩
  obtain ⟨g1, dc, g2, g3⟩ := so.at_ n a ha
  exact ⟨g1, dc, g2, g3.fresh hD⟩
theorem LGo.ext (L : LGo G b S1 H1 D S H st acc es) (hDad : D ∉ b.ad) (x : Ext b.ad S H S' H') (su : Same S' H') (so : StoOk G b.ad S' st' H') : LGo G b S1 H1 D S' H' st' acc es := by
  refine ⟨L.x.trans L.so x, su, so, ?_, (x.keep D _ L.hD hDad).lst, L.r.mono x.same⟩
  cases e : S' D with
  | none => rfl
  | some o =>
    rcases x.new D o e with z | z
    · rw [L.hS] at z; cases z
    · rw [L.hD] at z; cases z
theorem LGo.push {v : V} {y : DL.D} (L : LGo G b S1 H1 D S H st acc es) (hD1 : H1 D = none) (hDad : D ∉ b.ad) (r : Rep G b.ad S v y) : LGo G b S1 H1 D S (upd H D (.lst (acc ++ [v]))) st (acc ++ [v]) (es ++ [y]) := by
  refine ⟨⟨L.x.same, L.x.new, fun c o hc hca => ?_⟩, fun c o hc => ?_, ⟨L.so.len, L.so.nd, fun n a ha => ?_, L.so.tab.keep fun b u h n => by rw [upd_ne (fun z => by rw [z, L.hD] at h; cases h; exact n.lst)]; exact h⟩, L.hS, upd_same, L.r.append (.cons r .nil)⟩
  · exact (L.x.keep c o hc hca).map fun o' h' => by rw [upd_ne (ne_of_none hc hD1)]; exact h'
  · rw [upd_ne (ne_of_none hc L.hS)]; exact L.su _ _ hc
  · obtain ⟨g1, dc, g2, g3⟩ := L.so.at_ n a ha
    exact ⟨g1, dc, g2, g3.updL L.hD fun z => hDad (by subst z; exact List.mem_iff_getElem?.mpr ⟨n, ha⟩)⟩
theorem LGo.stop {Q : VK} (L : LGo G b S1 H1 D S H st acc es) (hD1 : H1 D = none) (hDad : D ∉ b.ad) (q : Post G b.ad S1 H1 (.lst es) st Q) : Q (.ref D) H := by
  have key : Same S (upd S D (.lst acc)) := fun c o hc => by rw [upd_ne (ne_of_none hc L.hS)]; exact hc
  refine q (.ref D) (upd S D (.lst acc)) H ⟨L.x.same.trans key, fun c o hc => ?_, L.x.keep⟩ (fun c o hc => ?_) ⟨L.so.len, L.so.nd, fun n a ha => ?_, L.so.tab.known fun a ⟨_, hh⟩ ha => by rw [upd_ne (fun z => by rw [z, L.hD] at hh; cases hh)]; exact ha⟩ (.lst upd_same (L.r.mono key))
  · by_cases hcD : c = D
    · subst hcD; exact .inr hD1
    · rw [upd_ne hcD] at hc; exact L.x.new c o hc
  · by_cases hcD : c = D
    · subst hcD; rw [upd_same] at hc; cases hc; exact L.hD
    · rw [upd_ne hcD] at hc; exact L.su _ _ hc
  · obtain ⟨g1, dc, g2, g3⟩ := L.so.at_ n a ha
    exact ⟨by rw [upd_ne fun z => hDad (by subst z; exact List.mem_iff_getElem?.mpr ⟨n, ha⟩)]; exact g1, dc, g2, g3.mono key⟩
/-- canonical reading of an iterator -/
def cI (G : Glb) (W : WX) (O : Ow) (m : MA) : TI := fun σ H R => ∃ (b : Act) (S : Hp) (env : Env') (st : List DL.D), DI G b O S env st σ H ∧
  wpR (m env st) (fun ds st' => ∀ J S' H', Ext b.ad S H S' H' → Same S' H' → StoOk G b.ad S' st' H' → IterOK G b.ad S' J ds → R J H') (fun x st' => PostX G b.ad S H x st' fun c dd H' => W c dd σ H')
theorem DIt.c {X : Cx} {W : WX} {tg iter : Expr} {m : MA} (h : DIt G X W O tg iter m) : PI X tg iter (cI G W O m) := by
  obtain ⟨t, p, w⟩ := h.ex
  exact ⟨fun pins s σ H R I ⟨b, S, env, st, J, q⟩ => p.run pins s σ H R I (w b S env st σ H R J q)⟩
end
section
variable {G : Glb} {X : Cx} {W : WX} {pos : Pos} {k : Nat} {O : Ow}
end
end DL

/-! DL while an exception is handled: the ends of lists and tuples, loops, comprehensions, own defs. -/
namespace DL
open PySem PySem.Spec PyProof.Rows L2 HotX L2H
section
variable {prog : Program} {w : World} {A : Around} {E : Value → Shared → Prop} {s : Shared}
theorem list_end_hot {it l x1 : Addr} {i : Nat} {items} {Q : Option Value → Shared → Prop} (hot : HotAt A x1 s.heap) (hne : x1 ≠ it)
    (hit : s.heap.IsListIter it l i) (hl : s.heap.IsList l items) (hx : items[i]? = none)
    (hQ : ∀ h', Heap.ExtBut it s.heap h' → Q none { s with heap := h' }) : wpAny (model prog w) A (pyNext (.ref it)) Q E s := by
  obtain ⟨hh, o1, vs1, g1, d1, c1⟩ := hot
  obtain ⟨o, ho, hc, hd⟩ := id hit
  obtain ⟨ol, hol, _, nl, hdl⟩ := hl
  unfold pyNext
  refine wpAny_bind (wpAny_attempt (wpAny_callSpecial?_slot (name := Str.ofString "__next__") hit.typeIs slot_listiter_next
    (wpAny_call_entry slot_listiter_next hit.typeIs entry_listiter_next ?_ (args_listiter_next _))))
  show wpAny _ _ (field (.ref it) 0 >>= _) _ _ s
  refine wpAny_bind (wpAny_field ho hd (x := .ref l) rfl ?_)
  show wpAny _ _ (if (Value.ref l == Value.none) = true then _ else _) _ _ s
  rw [if_neg (show ¬ ((Value.ref l == Value.none) = true) from Bool.false_ne_true)]
  show wpAny _ _ (field (.ref it) 1 >>= _) _ _ s
  refine wpAny_bind (wpAny_field ho hd (x := .int i 0) rfl ?_)
  show wpAny _ _ (seqItems? (.ref l) >>= _) _ _ s
  refine wpAny_bind (wpAny_seqItems hol hdl ?_)
  simp only [Int.toNat_natCast, hx]
  refine wpAny_bind (wpAny_rule (wpAny_bind (wpAny_setField ho hd (by simp) ?_)))
  show wpAny _ _ (newExc (.type "StopIteration") [] >>= _) _ _ _
  refine wpAny_bind ?_
  simp only [newExc, newTuple]
  refine wpAny_bind (wpAny_newObj_type ?_ (by size_fits))
  refine wpAny_bind (m := firstArgMember _ _) (wpAny_of_eq (a := Value.none) (by first | rfl | (simp only [firstArgMember]; rfl)) ?_)
  refine wpAny_newObj_type ?_ (by size_fits)
  have g2 := fun (f : Obj → Obj) => (Heap.get?_update_other s.heap f (Ne.symm hne)).trans g1
  refine raiseNew_hot ⟨hh, o1, vs1, Heap.get?_push_of_some _ (Heap.get?_push_of_some _ (g2 _)), d1, c1⟩ (Nat.ne_of_lt (Heap.lt_size (Heap.get?_push_of_some _ (g2 _)))) (Heap.get?_push_size _ rfl) rfl (by first | (simp; done) | (simp; omega) | (simp only [Array.size_append]; simp; omega)) ?_
  refine wpAny_bind (wpAny_isInstance (T := "StopIteration") (b := true) ⟨_, Heap.get?_update_self _ (Heap.get?_push_size _ rfl) rfl, rfl⟩ isSubtype_stop ?_)
  refine wpAny_pure (hQ _ fun b o' hb e => ?_)
  refine (Heap.get?_update_other _ _ (Nat.ne_of_gt ?_)).trans ?_
  · exact Heap.lt_size (((Heap.SameBut.update ..).extBut.push _) b o' hb e)
  · exact (((Heap.SameBut.update ..).extBut.push _).push _) b o' hb e
theorem tuple_end_hot {it t x1 : Addr} {i : Nat} {items} {Q : Option Value → Shared → Prop} (hot : HotAt A x1 s.heap) (hne : x1 ≠ it)
    (hit : s.heap.IsTupleIter it t i) (ht : s.heap.IsTuple t items) (hx : items[i]? = none)
    (hQ : ∀ h', Heap.ExtBut it s.heap h' → Q none { s with heap := h' }) : wpAny (model prog w) A (pyNext (.ref it)) Q E s := by
  obtain ⟨hh, o1, vs1, g1, d1, c1⟩ := hot
  obtain ⟨o, ho, hc, hd⟩ := id hit
  obtain ⟨ol, hol, _, nl, hdl⟩ := ht
  unfold pyNext
  refine wpAny_bind (wpAny_attempt (wpAny_callSpecial?_slot (name := Str.ofString "__next__") hit.typeIs F.slot_tuple_iterator_next
    (wpAny_call_entry F.slot_tuple_iterator_next hit.typeIs F.entry_tuple_iterator_next ?_ (F.args_tuple_iterator_next_1 _))))
  show wpAny _ _ (field (.ref it) 0 >>= _) _ _ s
  refine wpAny_bind (wpAny_field ho hd (x := .ref t) rfl ?_)
  show wpAny _ _ (if (Value.ref t == Value.none) = true then _ else _) _ _ s
  rw [if_neg (show ¬ ((Value.ref t == Value.none) = true) from Bool.false_ne_true)]
  show wpAny _ _ (field (.ref it) 1 >>= _) _ _ s
  refine wpAny_bind (wpAny_field ho hd (x := .int i 0) rfl ?_)
  show wpAny _ _ (seqItems? (.ref t) >>= _) _ _ s
  refine wpAny_bind (wpAny_seqItems hol hdl ?_)
  simp only [Int.toNat_natCast, hx]
  refine wpAny_bind (wpAny_rule (wpAny_bind (wpAny_setField ho hd (by simp) ?_)))
  show wpAny _ _ (newExc (.type "StopIteration") [] >>= _) _ _ _
  refine wpAny_bind ?_
  simp only [newExc, newTuple]
  refine wpAny_bind (wpAny_newObj_type ?_ (by size_fits))
  refine wpAny_bind (m := firstArgMember _ _) (wpAny_of_eq (a := Value.none) (by first | rfl | (simp only [firstArgMember]; rfl)) ?_)
  refine wpAny_newObj_type ?_ (by size_fits)
  have g2 := fun (f : Obj → Obj) => (Heap.get?_update_other s.heap f (Ne.symm hne)).trans g1
  refine raiseNew_hot ⟨hh, o1, vs1, Heap.get?_push_of_some _ (Heap.get?_push_of_some _ (g2 _)), d1, c1⟩ (Nat.ne_of_lt (Heap.lt_size (Heap.get?_push_of_some _ (g2 _)))) (Heap.get?_push_size _ rfl) rfl (by first | (simp; done) | (simp; omega) | (simp only [Array.size_append]; simp; omega)) ?_
  refine wpAny_bind (wpAny_isInstance (T := "StopIteration") (b := true) ⟨_, Heap.get?_update_self _ (Heap.get?_push_size _ rfl) rfl, rfl⟩ isSubtype_stop ?_)
  refine wpAny_pure (hQ _ fun b o' hb e => ?_)
  refine (Heap.get?_update_other _ _ (Nat.ne_of_gt ?_)).trans ?_
  · exact Heap.lt_size (((Heap.SameBut.update ..).extBut.push _) b o' hb e)
  · exact (((Heap.SameBut.update ..).extBut.push _).push _) b o' hb e
end
/-- the handled error is none of the iterator's objects -/
theorem hot_off {X : Cx} {pins : List (Addr × Obj)} {σ : L2.St} {H : Hp} {s : Shared} {it : Addr} (c : HotC X) (I : Inv X pins σ H s) (hf : ∀ p ∈ X.pn ++ pins, p.1 ≠ it) : ∃ x1, x1 ≠ it ∧ HotAt X.A x1 s.heap := by
  obtain ⟨p, ⟨hh, v1, e1, c1⟩, hp⟩ := c
  exact ⟨p.1, hf p (List.mem_append_left _ hp), hh, p.2, v1, (I.pin p (List.mem_append_left _ hp)).1, e1, c1⟩
theorem turn_listH {P : Program} {w : World} {K : PySem.W.Frag} {tg : Expr} (a it : Addr) : TurnH P w K tg (Itl K a) [it] it (fun i h => h.IsListIter it a i) where
  mem := by simp
  obj := fun i h st b hb => by
    have e : b = it := by simpa using hb
    subst e
    obtain ⟨o, e, c, d⟩ := st
    exact ⟨o, e, fun v z => by rw [d] at z; cases z⟩
  keep := fun i h h' st k => st.at fun o e => k it (by simp) o e
  item := by
    intro X hP hw hK hc i pins s σ H E I hf st hg
    subst hP hw hK
    obtain ⟨xs, x, hq, hx⟩ := hg
    obtain ⟨its, rv, p, hz⟩ := I.list hq
    obtain ⟨u, hu, ru⟩ := rv.get hx
    obtain ⟨f0, f1, f2, f3, f4, f5⟩ := hf it (by simp)
    refine wpAny_pyNext_list_item st p.isList (x := u) (by simpa using hu) fun h' st' sb => ?_
    have I1 : Inv X pins σ H { s with heap := h' } := I.turned (t' := s.toks) (fun b o hb e => (sb.2 b hb).trans e) f0 f1 f3 f4 f5
    obtain ⟨o, e, c, d⟩ := id st'
    exact ⟨u, rfl, go_of (s := { s with heap := h' }) e c d (by decide) ⟨x, H, I1, ru, ⟨rfl, fun ys hy => by rw [I.list_inj hy hq]; exact hx⟩, st', fun b hb => (hf b hb).1⟩⟩
  done := by
    intro X hP hw hK hc i pins s σ H E I hf st hg
    subst hP hw hK
    obtain ⟨xs, hq, hx⟩ := hg
    obtain ⟨its, rv, p, hz⟩ := I.list hq
    obtain ⟨f0, f1, f2, f3, f4, f5⟩ := hf it (by simp)
    have hl := rv.length
    obtain ⟨x1, hne, hot⟩ := hot_off hc I f5
    exact list_end_hot hot hne st p.isList (by simp; omega) fun h' eb => ⟨rfl, I.turned (t' := s.toks) (fun b o hb e => eb b o hb e) f0 f1 f3 f4 f5⟩
  self := fun _ _ _ _ _ st h => wpAny_pyIter_listiter st h
theorem turn_tupleH {P : Program} {w : World} {K : PySem.W.Frag} {tg : Expr} (a it : Addr) : TurnH P w K tg (Itt K a) [it] it (fun i h => h.IsTupleIter it a i) where
  mem := by simp
  obj := fun i h st b hb => by
    have e : b = it := by simpa using hb
    subst e
    obtain ⟨o, e, c, d⟩ := st
    exact ⟨o, e, fun v z => by rw [d] at z; cases z⟩
  keep := fun i h h' st k => st.at fun o e => k it (by simp) o e
  item := by
    intro X hP hw hK hc i pins s σ H E I hf st hg
    subst hP hw hK
    obtain ⟨xs, x, hq, hx⟩ := hg
    obtain ⟨its, rv, p, hz⟩ := I.tuple hq
    obtain ⟨u, hu, ru⟩ := rv.get hx
    obtain ⟨f0, f1, f2, f3, f4, f5⟩ := hf it (by simp)
    refine wpAny_pyNext_tuple_item st (show s.heap.IsTuple a its.toArray from p) (x := u) (by simpa using hu) fun h' st' sb => ?_
    have I1 : Inv X pins σ H { s with heap := h' } := I.turned (t' := s.toks) (fun b o hb e => (sb.2 b hb).trans e) f0 f1 f3 f4 f5
    obtain ⟨o, e, c, d⟩ := id st'
    exact ⟨u, rfl, go_of (s := { s with heap := h' }) e c d (by decide) ⟨x, H, I1, ru, ⟨rfl, fun ys hy => by rw [I.tuple_inj hy hq]; exact hx⟩, st', fun b hb => (hf b hb).1⟩⟩
  done := by
    intro X hP hw hK hc i pins s σ H E I hf st hg
    subst hP hw hK
    obtain ⟨xs, hq, hx⟩ := hg
    obtain ⟨its, rv, p, hz⟩ := I.tuple hq
    obtain ⟨f0, f1, f2, f3, f4, f5⟩ := hf it (by simp)
    have hl := rv.length
    obtain ⟨x1, hne, hot⟩ := hot_off hc I f5
    exact tuple_end_hot hot hne st (show s.heap.IsTuple a its.toArray from p) (by simp; omega) fun h' eb => ⟨rfl, I.turned (t' := s.toks) (fun b o hb e => eb b o hb e) f0 f1 f3 f4 f5⟩
  self := fun _ _ _ _ _ st h => wpAny_pyIter_tupleiter st h
section
variable {X : Cx}
theorem pi_oneH {tg : Expr} {pins : List (Addr × Obj)} {σ : L2.St} {H : Hp} {s : Shared} {R : It → Hp → Prop} {J : It} {tn : Nat → Heap → Prop} {tk : Nat} (I : Inv X pins σ H s) (o : Obj)
    (T : TurnH X.prog X.w X.K tg J [s.heap.objs.size] s.heap.objs.size tn) (st : tn 0 (s.heap.push o)) (q : R J H) : PIEH X pins σ tg R (.ref s.heap.objs.size) { s with heap := s.heap.push o, toks := tk } := by
  refine ⟨s.heap.objs.size, [s.heap.objs.size], tn, J, H, rfl, I.kept fun b ob e => Heap.get?_push_of_some _ e, T, st, fun b hb => ?_, q⟩
  have e : b = s.heap.objs.size := by simpa using hb
  subst e
  exact I.fpOk (Nat.le_refl _) (I.hok.fresh (Nat.le_refl _))
theorem pi_seqH {tg l : Expr} {tl : TE} (hl : PE X l tl) : PIH X tg l (iSeq X.K tl) := by
  refine ⟨fun pins s σ H R I h => ?_⟩
  refine thn (hl.run pins s σ H _ I h) fun v s1 ⟨x, H1, I1, r1, q1⟩ => ?_
  obtain ⟨a, e, q1⟩ := q1
  subst e
  cases r1
  rcases q1 with ⟨xs, hq, q⟩ | ⟨xs, hq, q⟩
  · obtain ⟨its, rv, p, hz⟩ := I1.list hq
    refine wpAny_pyIter_list p.isList ?_
    exact pi_oneH (tk := s1.toks) I1 _ (turn_listH a _) ⟨_, Heap.get?_push_size _ rfl, rfl, rfl⟩ q
  · obtain ⟨its, rv, p, hz⟩ := I1.tuple hq
    refine wpAny_pyIter_tuple (show s1.heap.IsTuple a its.toArray from p) ?_
    exact pi_oneH (tk := s1.toks) I1 _ (turn_tupleH a _) ⟨_, Heap.get?_push_size _ rfl, rfl, rfl⟩ q
/-- a comprehension's block while an exception is handled -/
abbrev blkH (X : Cx) (s : Shared) (H : Hp) (scope : Scope) (cenv : Env) (fp : List Addr) (p : Addr × Obj) : Cx := { X.blk s H scope cenv fp with pn := [p] }
theorem ok_pn {Y : Cx} (ok : Y.Ok) (pn : List (Addr × Obj)) : ({ Y with pn := pn } : Cx).Ok :=
  ⟨ok.mod, ok.kind, ok.glob, ok.blt, ok.above, ok.inj, ok.has, ok.cab, ok.hd, ok.frames, ok.stk, ok.exf, ok.bs, ok.bsz, ok.noex, ok.exfs, ok.funs, ok.frf⟩
theorem inv_pn {Y : Cx} {σ : L2.St} {H : Hp} {s : Shared} {p : Addr × Obj} (hY : Y.pn = []) (I : Inv Y [p] σ H s) : Inv ({ Y with pn := [p] } : Cx) [] σ H s :=
  ⟨ok_pn I.ok _, I.os, I.bare, I.base, I.loc, I.cell, I.free, I.freeC, fun q hq => I.pin q (by
    have hq : q ∈ [p] ++ [] := hq
    rw [hY]; simpa using hq), I.hok, I.len⟩
theorem lc_coreH {pins : List (Addr × Obj)} {s : Shared} {σ : L2.St} {H : Hp} {Q : VK} {elt tg iter : Expr} {ifs : List Expr} {scope : Scope} {own : List (Str × Nat)} {pos pos' : Pos} {wi : TI} {g : TG} {tt : TT} {te : TE} {use : Option (Value → Sem Unit)} {Qf : Value → Shared → Prop} {p : Addr × Obj}
    (h1 : Hot1 X.A p) (hp : p ∈ X.pn) (hN : X.N.Nodup) (I : Inv X pins σ H s) (hi : PIH X tg iter wi) (ok : BlkOk X.N X.env.scope scope own)
    (hg : ∀ (s : Shared) (H : Hp) (C : Addr) (cl : List (Str × Addr)) (fp : List Addr), PG (blkH X s H scope (compEnvC scope cl C X.env) fp p) tg g) (ht : ∀ (s : Shared) (H : Hp) (C : Addr) (cl : List (Str × Addr)) (fp : List Addr), PTs (blkH X s H scope (compEnvC scope cl C X.env) fp p) ifs tt)
    (he : ∀ (s : Shared) (H : Hp) (C : Addr) (cl : List (Str × Addr)) (fp : List Addr), PE (blkH X s H scope (compEnvC scope cl C X.env) fp p) elt te) (hs : ∀ x, foldedSetIterable iter X.env x = pure x)
    (h : tLc wi g tt te (own.map (·.2)) σ H Q)
    (hRR : ∀ D C s' m H', Inv X pins σ H' s' → Q (.ref D) H' → s'.heap.Ns C m → FpOk X pins H' C → compPost (model X.prog X.w) X.A X.xe use Qf (.ref D) C (.ok .next) s') :
    wpAny (model X.prog X.w) X.A (comprehension (.ListComp elt [⟨tg, iter, ifs, 0⟩] scope pos) scope X.env pos' (newList []) false (eval iter X.env) use) Qf X.xe s := by
  have hfree : ∀ y ∈ scope.names, y.2 = .free → ∃ c, X.env.cells.lookup y.1 = some c := fun y hy e => by
    rcases ok.free y hy e with k | k
    · exact I.ok.has _ (.inl k)
    · exact I.ok.has _ (.inr k)
  refine wpAny_comprehension_free (use := use) rfl hs (closure_ok hfree) ok.kind (fun y hy e => by rw [ok.uniq y hy, e])
    (thn (hi.run pins s σ H _ I h) fun xv s1 hx => thn hx fun itv s2 h2 => ?_)
  obtain ⟨it, fp, tn, J, H2, e, I2, T, st2, f2, q⟩ := h2
  subst e
  refine wpAny_newObj_type (newEnv_comp ?_) (by show 0 ≤ sizeLine; decide)
  generalize hD : s2.heap.objs.size = D
  have hDn : H2 D = none := I2.hok.fresh (Nat.le_of_eq hD)
  obtain ⟨W, ⟨m0, w0⟩, turn⟩ := q D hDn
  generalize hs3 : ({ s2 with heap := s2.heap.push { cls := .type "list", data := .seq ([] : List Value).toArray } } : Shared) = s3
  have I3 : Inv X pins σ (upd H2 D (.lst [])) s3 := by
    rw [← hs3]
    refine I2.laid (t' := s2.toks) (fun b o e => Heap.get?_push_of_some _ e) (Nat.le_of_eq hD) ⟨Nat.zero_le _, [], 0, .nil, ?_⟩
    rw [← hD]
    exact Heap.get?_push_size _ rfl
  have h3 : s3.heap = s2.heap.push { cls := .type "list", data := .seq ([] : List Value).toArray } := by rw [← hs3]
  have sz : ∀ b ∈ fp, b < s2.heap.objs.size := fun b hb => by
    obtain ⟨o, e, _⟩ := T.obj _ _ st2 b hb
    exact Heap.lt_size e
  have f3 : ∀ b ∈ fp, FpOk X pins (upd H2 D (.lst [])) b ∧ b < s3.heap.objs.size := fun b hb => by
    have hlt := sz b hb
    refine ⟨⟨?_, (f2 b hb).2⟩, by rw [h3, Heap.size_push]; exact Nat.lt_succ_of_lt hlt⟩
    rw [upd_ne (by rw [← hD]; exact Nat.ne_of_lt hlt)]
    exact (f2 b hb).1
  have st3 : tn 0 s3.heap := T.keep _ _ _ st2 fun b _ o e => by rw [h3]; exact Heap.get?_push_of_some _ e
  have I4' := block_start I3 ok hN f3
  have P3 := I3.pin p (List.mem_append_left _ hp)
  have hlt3 : p.1 < s3.heap.objs.size := Heap.lt_size P3.1
  have pg := hg s3 (upd H2 D (.lst [])) s3.heap.objs.size (cellsFrom (s3.heap.objs.size + 1) scope.names (cloFrom X.env.cells scope.names [])) fp
  have pt := ht s3 (upd H2 D (.lst [])) s3.heap.objs.size (cellsFrom (s3.heap.objs.size + 1) scope.names (cloFrom X.env.cells scope.names [])) fp
  have pe := he s3 (upd H2 D (.lst [])) s3.heap.objs.size (cellsFrom (s3.heap.objs.size + 1) scope.names (cloFrom X.env.cells scope.names [])) fp
  show codeAny _ _ (.compStart (.ListComp elt [⟨tg, iter, ifs, 0⟩] scope pos) 0 (.ref it) (.ref D) (compEnvC scope (cellsFrom (s3.heap.objs.size + 1) scope.names (cloFrom X.env.cells scope.names [])) s3.heap.objs.size X.env)) (compPost (model X.prog X.w) X.A X.xe use Qf (.ref D) s3.heap.objs.size) { s3 with heap := pushCells (s3.heap.push { cls := .type "dict", data := .dict #[] }) scope.names }
  have nfp : ∀ b ∈ fp, (upd H2 D (.lst [])) b = none := fun b hb => (f3 b hb).1.1
  generalize hce : compEnvC scope (cellsFrom (s3.heap.objs.size + 1) scope.names (cloFrom X.env.cells scope.names [])) s3.heap.objs.size X.env = ce at I4' pg pt pe ⊢
  have cL : ce.locals = s3.heap.objs.size := by subst hce; rfl
  generalize hH3 : upd H2 D (.lst []) = H3 at I3 I4' pg pt pe w0 nfp f3 P3
  generalize hs4 : ({ s3 with heap := pushCells (s3.heap.push { cls := .type "dict", data := .dict #[] }) scope.names } : Shared) = s4 at I4' ⊢
  have k34 : ∀ b o, s3.heap.get? b = some o → s4.heap.get? b = some o := fun b o e => by rw [← hs4]; exact pushCells_keeps _ _ _ _ (Heap.get?_push_of_some _ e)
  have nfs : p.1 ∉ (X.blk s3 H3 scope ce fp).fs := fun hm => by
    rcases List.mem_cons.mp (I3.stkSub p.1 hm) with z | z
    · exact P3.2.2.1 z
    · exact P3.2.2.2.1 z
  have I4 : Inv (blkH X s3 H3 scope ce fp p) [] (wipe σ (own.map (·.2))) H3 s4 := inv_pn rfl (Inv.with I4' (k34 _ _ P3.1) P3.2.1 (by show p.1 ≠ ce.locals; rw [cL]; exact Nat.ne_of_lt hlt3) nfs P3.2.2.2.2)
  have st4 : tn 0 s4.heap := T.keep _ _ _ st3 fun b _ o e => k34 b o e
  have hotB : HotC (blkH X s3 H3 scope ce fp p) := ⟨p, h1, List.mem_singleton.mpr rfl⟩
  have stat : ∀ {σ' : L2.St} {H' : Hp} {s' : Shared}, Inv (blkH X s3 H3 scope ce fp p) [] σ' H' s' → (∀ b ∈ fp, H' b = none) → ∀ b ∈ fp, FpOk (blkH X s3 H3 scope ce fp p) [] H' b := fun {σ' H' s'} I' hn b hb =>
    ⟨hn b hb, (I'.ok.exf b hb).1, I'.ok.exfs b hb, .inl hb, fun x c e => (I'.ok.exf b hb).2 x c e, fun q hq => by
      have hq : q ∈ [p] ++ [] := hq
      have e : q = p := by simpa using hq
      rw [e]
      exact (f3 b hb).1.2.2.2.2.2 p (List.mem_append_left _ hp)⟩
  have loop : codeAny (model X.prog X.w) X.A (.compLoop (.ListComp elt [⟨tg, iter, ifs, 0⟩] scope pos) 0 (.ref it) (.ref D) ce) (compPost (model X.prog X.w) X.A X.xe use Qf (.ref D) s3.heap.objs.size) s4 := by
    refine compLoop_any (fun n s' => ∃ i H', Inv (blkH X s3 H3 scope ce fp p) [] (wipe σ (own.map (·.2))) H' s' ∧ tn i s'.heap ∧ (∀ b ∈ fp, H' b = none) ∧ W i n H') ?_ m0 ⟨0, H3, I4, st4, nfp, w0⟩
    rintro n s5 ⟨i, H5, I5, st5, n5, w5⟩
    rcases turn i n H5 w5 with ⟨stop, qq⟩ | ⟨go, Nx, hNx, step⟩
    · have td := T.done (blkH X s3 H3 scope ce fp p) rfl rfl rfl hotB i [] s5 _ H5 (fun _ _ => False) I5 (stat I5 n5) st5 stop
      refine thnF td fun r s6 ⟨hr, I6⟩ => ?_
      subst hr
      have I7 : Inv X pins σ H5 s6 := I3.call' (ch := fp) I6.os I6.base I6.hok I6.bare fun b hb => ⟨(f3 b hb).1.2.2.2.1, (f3 b hb).1.2.1, (f3 b hb).1.2.2.2.2.1, (f3 b hb).1.2.2.2.2.2⟩
      have nC : H5 s3.heap.objs.size = none := by
        have z : H5 ce.locals = none := I6.free
        rw [cL] at z
        exact z
      obtain ⟨m, hn, _⟩ := I6.loc
      have hn : s6.heap.Ns ce.locals m := hn
      rw [cL] at hn
      exact hRR D s3.heap.objs.size s6 m H5 I7 qq hn (I3.fpOk (Nat.le_refl _) nC)
    · have ti := T.item (blkH X s3 H3 scope ce fp p) rfl rfl rfl hotB i [] s5 _ H5 (fun _ _ => False) I5 (stat I5 n5) st5 go
      refine thnF ti fun r s6 ⟨u, hr, h6⟩ => ?_
      subst hr
      refine thnF h6 fun _ s7 ⟨x, H7, I7, r7, y7, st7, n7⟩ => ?_
      have I7' := I7.pinned (stat I7 n7) (T.obj _ _ st7)
      refine thnF (pg.run _ s7 _ H7 x u _ I7' r7 (step x H7 y7)) fun _ s8 ⟨σ8, H8, I8, hw8, q8⟩ => ?_
      refine thnF (pt.run _ s8 σ8 H8 _ I8 q8) fun b s9 ⟨H9, I9, q9⟩ => ?_
      have fin : ∀ {s' : Shared} {H' : Hp}, Inv (blkH X s3 H3 scope ce fp p) ([] ++ pinsAt fp s7.heap) σ8 H' s' → Nx H' → ∃ m, m < n ∧ ∃ i H', Inv (blkH X s3 H3 scope ce fp p) [] (wipe σ (own.map (·.2))) H' s' ∧ tn i s'.heap ∧ (∀ b ∈ fp, H' b = none) ∧ W i m H' := fun {s' H'} I' nx => by
        obtain ⟨m', hm, w'⟩ := hNx H' nx
        have pin' : ∀ b ∈ fp, ∀ o, s7.heap.get? b = some o → s'.heap.get? b = some o ∧ H' b = none := fun b hb o e =>
          let z := I'.pin (b, o) (List.mem_append_right _ (List.mem_append_right _ (mem_pinsAt hb e)))
          ⟨z.1, z.2.1⟩
        have hl : (wipe σ (own.map (·.2))).length = σ8.length := by rw [← hw8, wipe_length]
        refine ⟨m', hm, i + 1, H', (I'.unpinned (pins := [])).weak hl (fun j v e => ?_), T.keep _ _ _ st7 fun b hb o e => (pin' b hb o e).1, fun b hb => ?_, w'⟩
        · rw [← hw8] at e
          exact (wipe_some e).1
        · obtain ⟨o, e, _⟩ := T.obj _ _ st7 b hb
          exact (pin' b hb o e).2
      cases b with
      | false =>
        simp only [Bool.false_eq_true, if_false] at q9 ⊢
        exact fin I9 q9
      | true =>
        simp only [if_true] at q9 ⊢
        refine thnF (pe.run _ s9 σ8 H9 _ I9 q9) fun z s10 ⟨yv, H10, I10, r10, acc, hD10, hz10, nx⟩ => ?_
        exact app_ok (X := blkH X s3 H3 scope ce fp p) I10 hD10 hz10 r10 fun s11 I11 => fin I11 nx
  exact codeAny_compStart_list loop (T.self X.A 0 _ _ _ st4 loop)
theorem pe_lcH {elt tg iter : Expr} {ifs : List Expr} {scope : Scope} {own : List (Str × Nat)} {pos : Pos} {wi : TI} {g : TG} {tt : TT} {te : TE} {p : Addr × Obj} (h1 : Hot1 X.A p) (hp : p ∈ X.pn) (hN : X.N.Nodup) (hi : PIH X tg iter wi) (ok : BlkOk X.N X.env.scope scope own)
    (hg : ∀ (s : Shared) (H : Hp) (C : Addr) (cl : List (Str × Addr)) (fp : List Addr), PG (blkH X s H scope (compEnvC scope cl C X.env) fp p) tg g) (ht : ∀ (s : Shared) (H : Hp) (C : Addr) (cl : List (Str × Addr)) (fp : List Addr), PTs (blkH X s H scope (compEnvC scope cl C X.env) fp p) ifs tt)
    (he : ∀ (s : Shared) (H : Hp) (C : Addr) (cl : List (Str × Addr)) (fp : List Addr), PE (blkH X s H scope (compEnvC scope cl C X.env) fp p) elt te) (hs : ∀ x, foldedSetIterable iter X.env x = pure x := by intro _; rfl) :
    PE X (.ListComp elt [⟨tg, iter, ifs, 0⟩] scope pos) (tLc wi g tt te (own.map (·.2))) := by
  refine ⟨fun pins s σ H Q I h => ?_⟩
  rw [eval_ListComp]
  refine lc_coreH h1 hp hN I hi ok hg ht he hs h fun D C s' m H' I' q hn f => ⟨m, hn, fun h'' sb => ?_⟩
  obtain ⟨f0, f1, f2, f3, f4, f5⟩ := f
  exact ⟨.ref D, H', I'.turned (t' := s'.toks) (fun b o hb e => (sb.2 b hb).trans e) f0 f1 f3 f4 f5, rfl, q⟩
theorem ps_setLcH {i : Nat} {y : Str} {py : Pos} {elt tg iter : Expr} {ifs : List Expr} {scope : Scope} {own : List (Str × Nat)} {pos spos : Pos} {wi : TI} {g : TG} {tt : TT} {te : TE} {p : Addr × Obj} (h1 : Hot1 X.A p) (hp : p ∈ X.pn) (hN : X.N.Nodup) (hy : X.N[i]? = some y) (hyl : X.env.scope.names.lookup y = some .local)
    (hsw : swapsWith (.ListComp elt [⟨tg, iter, ifs, 0⟩] scope pos) (some (.Name y py)) spos.line X.env = pure true) (hi : PIH X tg iter wi) (ok : BlkOk X.N X.env.scope scope own)
    (hg : ∀ (s : Shared) (H : Hp) (C : Addr) (cl : List (Str × Addr)) (fp : List Addr), PG (blkH X s H scope (compEnvC scope cl C X.env) fp p) tg g) (ht : ∀ (s : Shared) (H : Hp) (C : Addr) (cl : List (Str × Addr)) (fp : List Addr), PTs (blkH X s H scope (compEnvC scope cl C X.env) fp p) ifs tt)
    (he : ∀ (s : Shared) (H : Hp) (C : Addr) (cl : List (Str × Addr)) (fp : List Addr), PE (blkH X s H scope (compEnvC scope cl C X.env) fp p) elt te) (hs : ∀ x, foldedSetIterable iter X.env x = pure x := by intro _; rfl) :
    PS X (.Assign [.Name y py] (.ListComp elt [⟨tg, iter, ifs, 0⟩] scope pos) spos) (tAsg (tLc wi g tt te (own.map (·.2))) (gName i)) := by
  refine ⟨fun pins s σ H D I h => ?_⟩
  rw [exec_Assign_Name_used _ _ _ _ hsw]
  refine wpAny_bind (wpAny_standAt (wpAny_bind ?_))
  show wpAny _ X.A (do let _ ← comprehension (.ListComp elt [⟨tg, iter, ifs, 0⟩] scope pos) scope X.env (firstIterPos [⟨tg, iter, ifs, 0⟩] pos) (newList []) false (eval iter X.env) (some (assign (.Name y py) X.env))) _ _ s
  have h : tLc wi g tt te (own.map (·.2)) σ H (fun x H1 => gName i x σ H1 D.nx) := h
  refine wpAny_bind (thn (lc_coreH (Qf := fun _ s' => SP X pins D .next s') h1 hp hN I hi ok hg ht he hs h fun L C s' m H' I' q hn f => ?_) fun _ s' hq => wpAny_pure (wpAny_pure hq))
  show wpAny _ _ (assign (.Name y py) X.env (.ref L)) _ _ _
  refine wpAny_assign_Name (store_ok2 (v := V.ref L) I' hN hy (.inl hyl) rfl (fun s2 I2 ⟨a, sb, ha⟩ => ?_) (.inr hyl))
  obtain ⟨f0, f1, f2, f3, f4, f5⟩ := f
  have haC : C ≠ a := by
    rcases ha with z | z
    · rw [z]; exact f1
    · exact fun e => f4 y a z e.symm
  refine ⟨m, hn.sameBut sb haC, fun h3 sb3 => ?_⟩
  exact ⟨_, H', I2.turned (t' := s2.toks) (fun b o hb e => (sb3.2 b hb).trans e) f0 f1 f3 f4 f5, q⟩
end
end DL

/-! DL while an exception is handled: the judgements' rules. -/
namespace DL
open PySem PySem.Spec PyProof.Rows L2 HotX L2H
/-- what holds in a body that is entered while p is handled -/
structure XCH (k : Nat) (G : Glb) (X : Cx) : Prop where
  po : PassesOwn (model X.prog X.w) X.A X.env X.xe
  hot : ∃ p, Hot1 X.A p ∧ p ∈ X.pn
  hr : RoomH k X.A
  K : X.K = G.K
theorem XCH.units {k : Nat} {G : Glb} {X : Cx} (c : XCH k G X) : X.A.units + 64 < cLine := by have := c.hr.un; omega
theorem XCH.blk {k : Nat} {G : Glb} {X : Cx} (c : XCH k G X) {s : Shared} {H : Hp} {scope : Scope} {cenv : Env} {fp : List Addr} {p : Addr × Obj} (h : Hot1 X.A p) : XCH k G (blkH X s H scope cenv fp p) :=
  ⟨PassesOwn.never, ⟨p, h, List.mem_singleton.mpr rfl⟩, c.hr, c.K⟩
/-- the suite of a handler -/
theorem hotSuite {k : Nat} {G : Glb} {X : Cx} {W : WX} (c : XC k G X W) {a : Addr} {oe : Obj} {cls : Value} {dd : Option Addr} {pn : List (Addr × Obj)} (hz : L2N.Zn cls dd oe) (hf : ∃ vs, oe.data = .fields vs) : XCH k G (X.suite a ((a, oe) :: pn)) := by
  obtain ⟨vs, hd⟩ := hf
  exact ⟨PassesOwn.never, ⟨(a, oe), ⟨rfl, vs, hd, hz.2.2 vs hd⟩, List.mem_cons_self⟩, ⟨c.hr.dp, c.hr.un⟩, c.K⟩
/-- a def's promise while an exception is handled: no error -/
def spN (G : Glb) (n : Nat) (m : List D → M D) : Sp := fun vs H Q _ => spD G n m vs H Q fun _ _ _ => False
section
variable {P : Program} {w : World} {K : PySem.W.Frag} {mg : Str → Option Value} {base : Heap}
theorem fnDH {G : Glb} {x qual : Str} {st : Stmt} {f : Addr} {fd : FuncData} {N ps : List Str} {k : Nat} {m : MS} {O' : Ow} (F : Fun K x qual st f fd) (S : FnScope N ps (defScope st)) (hK : K = G.K)
    (hbody : ∀ (cdv : Value) (A : Around) (outer : List Env) (s : Shared) (H : Hp) (E : XK) (p : Addr × Obj), XCH k G (cxH (L2N.CX P w) P w K mg base N qual (defScope st) f cdv A outer s H E p) →
      DSs G (cxH (L2N.CX P w) P w K mg base N qual (defScope st) f cdv A outer s H E p) W0 {} (fun _ => True) {} (defBody st) O' m) :
    FnH P w K mg base (L2N.CX P w) (k + 1) f fd ps (spN G ps.length (fnM N.length m)) := by
  obtain ⟨oc, od, kV, doc, pm, an, cdv, ct, osl, rfl, lk, hcd⟩ := F.ex
  refine fn_ofH lk hcd S (fun vs H Q E h => ?_) fun A outer s H vs Q E p hot hr h => ?_
  · obtain ⟨_, _, _, _, hl, _⟩ := h
    exact hl
  · obtain ⟨b, ds, st0, rfl, hl, hs, so, r, h⟩ := h
    have xc : XCH k G (cxH (L2N.CX P w) P w K mg base N qual (defScope st) f cdv A outer s b.H E p) :=
      { po := passes_of rfl, hot := ⟨p, hot, List.mem_singleton.mpr rfl⟩, hr := hr, K := hK }
    obtain ⟨t, pt, wt⟩ := (hbody cdv A outer s b.H E p xc).ex
    refine ⟨t, pt, ?_⟩
    have I := DI.start (n := N.length - vs.length) hs so r
    refine wt b b.S _ st0 _ b.H _ I ?_
    have hn : N.length - vs.length = N.length - ds.length := by rw [r.len]
    rw [hn]
    unfold fnM at h
    cases e : m (ds.map some ++ List.replicate (N.length - ds.length) none) st0 with
    | nx env st1 =>
      rw [e] at h
      intro S1 σ1 H1 _ I1
      exact h .non S1 H1 I1.fin I1.sub I1.sto .non
    | rt d st1 =>
      rw [e] at h
      intro v S1 H1 x1 su1 so1 r1
      exact h v S1 H1 x1 su1 so1 r1
    | bk env st1 => rw [e] at h; exact h.elim
    | ct env st1 => rw [e] at h; exact h.elim
    | er x env st1 =>
      rw [e] at h
      intro cls dd O' S1 σ1 H1 _ _ I1 rx
      exact h cls dd S1 H1 I1.fin I1.sub I1.sto rx
    | bad => rw [e] at h; exact h.elim
end
section
variable {G : Glb} {X : Cx} {O : Ow} {pos p : Pos} {x : Str} {e : Expr} {es : List Expr} {ma : MA} {k j n : Nat} {f : Addr} {fd : FuncData} {ps : List Str} {m : List D → M D}
theorem RoomH.mono' {j k : Nat} {A : Around} (r : RoomH k A) (h : j ≤ k) : RoomH j A := r.mono h
theorem de_callH (c : XCH k G X) (F : FnH X.prog X.w X.K X.mg X.base (L2N.CX X.prog X.w) j f fd ps (spN G n m)) (hm : X.mg x = some (.ref f)) (hk : PySem.W.keepIn X.K (.ref f) = true) (hb : Binds X.K fd ps []) (ha : DA G X W0 O (e :: es) ma)
    (hjk : j ≤ k := by decide) (hln : Len ma n) (hg : Gl X x := by rfl) (hdb : (x == ("__debug__" : Str)) = false := by decide) (he : starEach (e :: es) X.env = (false, eval e X.env) :: starEach es X.env := by rfl) (hpl : (backTo pos (starEach es X.env)).any (·.1) = false := by rfl) :
    DE G X W0 O (.Call (.Name x p) (e :: es) [] pos) (mCall m ma) := by
  obtain ⟨t, pa, w⟩ := ha.ex
  have hot : HotC X := c.hot
  refine ⟨_, pe_callH (E := fun _ _ _ _ => False) F (RoomH.mono' c.hr hjk) hot hg hm hk hb (fun σ _ _ _ _ _ _ z => by obtain ⟨_, _, _, _, _, _, _, _, _, _, _, _, z⟩ := z; exact z.elim) pa hdb he hpl, fun b S env st σ H Q I h => w b S env st σ H _ I ?_⟩
  have h' := wpR_bind h
  cases ea : ma env st with
  | ok ds st1 =>
    rw [ea] at h'
    intro vs S1 H1 x1 su1 so1 r1
    exact ⟨⟨S1, H1, b.ad⟩, ds, st1, rfl, by rw [r1.len]; exact hln env st ds st1 ea, su1, so1, r1, wpR_imp h' (fun _ _ z => z.from_ x1 so1) fun _ _ z => z.from_ x1 so1⟩
  | err x st1 => rw [ea] at h'; exact h'
  | bad => rw [ea] at h'; exact h'.elim
end
/-- a raise that is never reached -/
theorem ps_no {X : Cx} {st : Stmt} : PS X st (fun _ _ _ => False) := ⟨fun _ _ _ _ _ _ h => h.elim⟩
theorem ds_raise0H {G : Glb} {X : Cx} {Ob : Ow} {OE : Ow → Prop} {O O1 : Ow} {e : Expr} {pos : Pos} {c : Nat} (hO : OE O := by first | trivial | rfl) :
    DS G X W0 Ob OE O (.Raise (some e) none pos) O1 (mRaise0 c) := ⟨_, ps_no, fun b S env st σ H D I h => h _ _ O S σ H hO (.refl _) I ⟨rfl, rfl⟩⟩
/-- a walk while an exception is handled -/
structure DItH (G : Glb) (X : Cx) (W : WX) (O : Ow) (tg iter : Expr) (m : MA) : Prop where
  ex : ∃ wi, PIH X tg iter wi ∧ ∀ (b : Act) S env st σ H R, DI G b O S env st σ H →
    wpR (m env st) (fun ds st' => ∀ J S' H', Ext b.ad S H S' H' → Same S' H' → StoOk G b.ad S' st' H' → IterOK G b.ad S' J ds → R J H') (fun x st' => PostX G b.ad S H x st' fun c dd H' => W c dd σ H') → wi σ H R
theorem di_seqH {G : Glb} {X : Cx} {W : WX} {O : Ow} {tg e : Expr} {m : ME} (hK : X.K = G.K) (h : DE G X W O e m) : DItH G X W O tg e (mItems m) := by
  obtain ⟨t, pe, w⟩ := h.ex
  refine ⟨_, pi_seqH pe, fun b S env st σ H R I h => w b S env st σ H _ I (wpR_imp (wpR_bind h) (fun d st1 h1 => ?_) fun _ _ z => z)⟩
  intro v S1 H1 x1 su1 so1 r1
  cases r1 <;> try exact h1.elim
  · rename_i a vs ds h2 h3
    exact ⟨a, rfl, .inr ⟨vs, hK ▸ Same.sqT su1 h2.sqT, hK ▸ h1 _ _ _ x1 su1 so1 (iter_tup h2.sqT h3)⟩⟩
  · rename_i a vs ds h2 h3
    exact ⟨a, rfl, .inl ⟨vs, SqL.of (su1 _ _ h2), hK ▸ h1 _ _ _ x1 su1 so1 (iter_list (SqL.of h2) h3)⟩⟩
  · rename_i a vs ds h2 h3
    exact ⟨a, rfl, .inl ⟨vs, hK ▸ su1.seq h2, hK ▸ h1 _ _ _ x1 su1 so1 (iter_list h2 h3)⟩⟩
section
variable {G : Glb} {X : Cx} {W : WX} {Ob : Ow} {OE : Ow → Prop} {O O1 : Ow} {pos : Pos} {k : Nat}
theorem ds_forH {ix : List Nat} {tg iter : Expr} {body : List Stmt} {mi : MA} {g : MG} {m : MS} (xc : XCH k G X) (hi : DItH G X W O tg iter mi) (hg : DG G X O ix tg g) (hb : DSs G X W O OE O body O m) (hO : OE O := by first | trivial | rfl)
    (hs : ∀ x, foldedSetIterable iter X.env x = pure x := by intro _; rfl) : DS G X W Ob OE O (.For tg iter body [] pos) O (mFor mi g m) := by
  obtain ⟨wi, pi, wwi⟩ := hi.ex
  obtain ⟨tg', pg, wg⟩ := hg.ex
  obtain ⟨tb, pb, wb⟩ := hb.ex
  have hot : HotC X := xc.hot
  refine ⟨_, ps_forH xc.po hot pi pg pb hs, fun b S env st σ H D I h => wwi b S env st σ H _ I ?_⟩
  unfold mFor at h
  cases e : mi env st with
  | bad => rw [e] at h; exact h.elim
  | err x st1 =>
    rw [e] at h
    intro cls dd S' H' x su so r
    exact h cls dd O S' σ H' hO x.same (I.ext x su so) r
  | ok ds st1 =>
    rw [e] at h
    intro J S1 H1 x1 su1 so1 it
    refine ⟨fun i n σ' H' => n = ds.length - i ∧ i ≤ ds.length ∧ ∃ S' env' st', Same S1 S' ∧ DI G b O S' env' st' σ' H' ∧ PostS G b Ob OE W O D S' (forD g m (ds.drop i) env' st'), ⟨ds.length, by simp, Nat.zero_le _, S1, env, st1, .refl _, I.ext x1 su1 so1, h.from_ x1.same⟩, ?_⟩
    rintro i n σ' H' ⟨rfl, hi, S', env', st', e1, I', h'⟩
    by_cases hlt : i < ds.length
    · right
      have hd : ds[i]? = some ds[i] := List.getElem?_eq_getElem hlt
      obtain ⟨go, yl⟩ := (it i S' H' e1 I'.sub).2 _ hd
      refine ⟨go, fun σ2 H2 => ds.length - (i + 1) < ds.length - i ∧ ∃ S2 env2 st2, Same S1 S2 ∧ DI G b O S2 env2 st2 σ2 H2 ∧ PostS G b Ob OE W O D S2 (forD g m (ds.drop (i + 1)) env2 st2), fun σ2 H2 ⟨hl, z⟩ => ⟨ds.length - (i + 1), hl, rfl, hlt, z⟩, fun x H'' y => ?_⟩
      obtain ⟨S2, x2, su2, so2, r2⟩ := yl x H'' y
      have I2 : DI G b O S2 env' st' σ' H'' := I'.ext x2 su2 (so2 _ I'.sto)
      rw [List.drop_eq_getElem_cons hlt] at h'
      unfold forD at h'
      cases e2 : g ds[i] env' with
      | none => rw [e2] at h'; exact h'.elim
      | some env1 =>
        rw [e2] at h'
        refine wg b S2 env' env1 st' σ' H'' x ds[i] _ I2 r2 e2 fun σ3 _ I3 => wb b S2 env1 st' σ3 H'' _ I3 ?_
        have lt : ds.length - (i + 1) < ds.length - i := by omega
        dsimp only at h'
        cases e3 : m env1 st' with
        | nx env4 st4 =>
          rw [e3] at h'
          intro S4 σ4 H4 y4 I4
          exact ⟨lt, S4, env4, st4, e1.trans (x2.same.trans y4), I4, h'.from_ (x2.same.trans y4)⟩
        | ct env4 st4 =>
          rw [e3] at h'
          intro S4 σ4 H4 y4 I4
          exact ⟨lt, S4, env4, st4, e1.trans (x2.same.trans y4), I4, h'.from_ (x2.same.trans y4)⟩
        | bk env4 st4 =>
          rw [e3] at h'
          intro S4 σ4 H4 y4 I4
          exact h' S4 σ4 H4 (x2.same.trans y4) I4
        | rt d st4 => rw [e3] at h'; exact h'
        | er x st4 => rw [e3] at h'; exact PostS.from_ x2.same h'
        | bad => rw [e3] at h'; exact h'
    · left
      have hi' : i = ds.length := Nat.le_antisymm hi (Nat.le_of_not_lt hlt)
      refine ⟨(it i S' H' e1 I'.sub).1 hi', ?_⟩
      rw [hi', List.drop_length] at h'
      exact h' S' σ' H' (.refl _) I'
theorem de_lcH {elt tg iter : Expr} {ifs : List Expr} {scope : Scope} {own : List (Str × Nat)} {ix : List Nat} {mi : MA} {g : MG} {mt : MT} {me : ME} (xc : XCH k G X) (hN : X.N.Nodup) (hi : DItH G X W O tg iter mi) (ok : BlkOk X.N X.env.scope scope own)
    (hg : ∀ (s : Shared) (H : Hp) (C : Addr) (cl : List (Str × Addr)) (fp : List Addr) (p : Addr × Obj), DG G (blkH X s H scope (compEnvC scope cl C X.env) fp p) O ix tg g)
    (ht : ∀ (s : Shared) (H : Hp) (C : Addr) (cl : List (Str × Addr)) (fp : List Addr) (p : Addr × Obj), XCH k G (blkH X s H scope (compEnvC scope cl C X.env) fp p) → DTs G (blkH X s H scope (compEnvC scope cl C X.env) fp p) W0 O ifs mt)
    (he : ∀ (s : Shared) (H : Hp) (C : Addr) (cl : List (Str × Addr)) (fp : List Addr) (p : Addr × Obj), XCH k G (blkH X s H scope (compEnvC scope cl C X.env) fp p) → DE G (blkH X s H scope (compEnvC scope cl C X.env) fp p) W0 O elt me)
    (hv : ∀ v ∈ own.map (·.2), O.has v = false := by intro v hv; revert v; decide) (hix : ∀ i ∈ ix, i ∈ own.map (·.2) := by decide) (hs : ∀ x, foldedSetIterable iter X.env x = pure x := by intro _; rfl) :
    DE G X W O (.ListComp elt [⟨tg, iter, ifs, 0⟩] scope pos) (mLC mi (own.map (·.2)) g mt me) := by
  obtain ⟨wi, pi, wwi⟩ := hi.ex
  obtain ⟨p, h1, hp⟩ := xc.hot
  refine ⟨_, pe_lcH h1 hp hN pi ok (fun s H C cl fp => (hg s H C cl fp p).c) (fun s H C cl fp => (ht s H C cl fp p (xc.blk h1)).c) (fun s H C cl fp => (he s H C cl fp p (xc.blk h1)).c) hs, fun b S env st σ H Q I h => wwi b S env st σ H _ I (wpR_imp (wpR_bind h) (fun ds st1 h1 => ?_) fun _ _ z => z)⟩
  intro J S1 H1 x1 su1 so1 it D hD
  cases er : lcD (wipeE env (own.map (·.2))) g mt me ds st1 with
  | err x st2 => exact absurd er (lcD_noEr _ _ _ _)
  | bad => rw [er] at h1; exact h1.elim
  | ok ys st2 =>
    rw [er] at h1
    have h1 : wpR (lstOk ys st2) (fun d st' => Post G b.ad S H d st' Q) (fun x st' => PostX G b.ad S H x st' fun c dd H' => W c dd σ H') := h1
    unfold lstOk at h1
    split at h1
    · rename_i hl
      exact lc_go hv hix (I.ext x1 su1 so1) it hD er hl (Post.from_ x1 so1 h1)
    · exact h1.elim
theorem ds_setLcH {y : Str} {py spos : Pos} {elt tg iter : Expr} {ifs : List Expr} {scope : Scope} {own : List (Str × Nat)} {ix : List Nat} {mi : MA} {g : MG} {mt : MT} {me : ME} (i : Nat) (xc : XCH k G X) (hN : X.N.Nodup) (hi : DItH G X W O tg iter mi) (ok : BlkOk X.N X.env.scope scope own)
    (hsw : swapsWith (.ListComp elt [⟨tg, iter, ifs, 0⟩] scope pos) (some (.Name y py)) spos.line X.env = pure true)
    (hg : ∀ (s : Shared) (H : Hp) (C : Addr) (cl : List (Str × Addr)) (fp : List Addr) (p : Addr × Obj), DG G (blkH X s H scope (compEnvC scope cl C X.env) fp p) O ix tg g)
    (ht : ∀ (s : Shared) (H : Hp) (C : Addr) (cl : List (Str × Addr)) (fp : List Addr) (p : Addr × Obj), XCH k G (blkH X s H scope (compEnvC scope cl C X.env) fp p) → DTs G (blkH X s H scope (compEnvC scope cl C X.env) fp p) W0 O ifs mt)
    (he : ∀ (s : Shared) (H : Hp) (C : Addr) (cl : List (Str × Addr)) (fp : List Addr) (p : Addr × Obj), XCH k G (blkH X s H scope (compEnvC scope cl C X.env) fp p) → DE G (blkH X s H scope (compEnvC scope cl C X.env) fp p) W0 O elt me)
    (hO : OE O := by first | trivial | rfl) (hy : X.N[i]? = some y := by rfl) (hyl : X.env.scope.names.lookup y = some .local := by rfl) (ho : O.has i = false := by rfl)
    (hv : ∀ v ∈ own.map (·.2), O.has v = false := by intro v hv; revert v; decide) (hix : ∀ i ∈ ix, i ∈ own.map (·.2) := by decide) (hs : ∀ x, foldedSetIterable iter X.env x = pure x := by intro _; rfl) :
    DS G X W Ob OE O (.Assign [.Name y py] (.ListComp elt [⟨tg, iter, ifs, 0⟩] scope pos) spos) O (mSet i (mLC mi (own.map (·.2)) g mt me)) := by
  obtain ⟨wi, pi, wwi⟩ := hi.ex
  obtain ⟨p, h1, hp⟩ := xc.hot
  refine ⟨_, ps_setLcH (i := i) h1 hp hN hy hyl hsw pi ok (fun s H C cl fp => (hg s H C cl fp p).c) (fun s H C cl fp => (ht s H C cl fp p (xc.blk h1)).c) (fun s H C cl fp => (he s H C cl fp p (xc.blk h1)).c) hs, fun b S env st σ H D I h => ?_⟩
  refine do_part (me := mLC mi (own.map (·.2)) g mt me) (t := tLc wi (cG G O ix g) (cT G W0 O mt) (cE G W0 O me) (own.map (·.2))) hO (fun b S env st σ H Q I h => wwi b S env st σ H _ I (wpR_imp (wpR_bind h) (fun ds st1 h1 => ?_) fun _ _ z => z)) I h fun v d S' H' st' I' r q => q _ _ _ (.refl _) (I'.set r ho)
  intro J S1 H1 x1 su1 so1 it D hD
  cases er : lcD (wipeE env (own.map (·.2))) g mt me ds st1 with
  | err x st2 => exact absurd er (lcD_noEr _ _ _ _)
  | bad => rw [er] at h1; exact h1.elim
  | ok ys st2 =>
    rw [er] at h1
    have h1 : wpR (lstOk ys st2) (fun d st' => Post G b.ad S H d st' Q) (fun x st' => PostX G b.ad S H x st' fun c dd H' => W c dd σ H') := h1
    unfold lstOk at h1
    split at h1
    · rename_i hl
      exact lc_go hv hix (I.ext x1 su1 so1) it hD er hl (Post.from_ x1 so1 h1)
    · exact h1.elim
end
section
variable {G : Glb} {X : Cx} {Ob : Ow} {OE : Ow → Prop} {O O1 : Ow} {pos : Pos} {k : Nat}
/-- as ds_setLcX: the items may be such as raise, but none does -/
theorem ds_setLcXH {y : Str} {py spos : Pos} {elt tg iter : Expr} {ifs : List Expr} {scope : Scope} {own : List (Str × Nat)} {ix : List Nat} {mi : MA} {g : MG} {mt : MT} {me : ME} (i : Nat) (xc : XCH k G X) (hN : X.N.Nodup) (hi : DItH G X W0 O tg iter mi) (ok : BlkOk X.N X.env.scope scope own)
    (hsw : swapsWith (.ListComp elt [⟨tg, iter, ifs, 0⟩] scope pos) (some (.Name y py)) spos.line X.env = pure true)
    (hg : ∀ (s : Shared) (H : Hp) (C : Addr) (cl : List (Str × Addr)) (fp : List Addr) (p : Addr × Obj), DG G (blkH X s H scope (compEnvC scope cl C X.env) fp p) O ix tg g)
    (ht : ∀ (s : Shared) (H : Hp) (C : Addr) (cl : List (Str × Addr)) (fp : List Addr) (p : Addr × Obj), DTs G (blkH X s H scope (compEnvC scope cl C X.env) fp p) W0 O ifs mt)
    (he : ∀ (s : Shared) (H : Hp) (C : Addr) (cl : List (Str × Addr)) (fp : List Addr) (p : Addr × Obj), XCH k G (blkH X s H scope (compEnvC scope cl C X.env) fp p) → DE G (blkH X s H scope (compEnvC scope cl C X.env) fp p) W0 O elt me)
    (hO : OE O := by first | trivial | rfl) (hy : X.N[i]? = some y := by rfl) (hyl : X.env.scope.names.lookup y = some .local := by rfl) (ho : O.has i = false := by rfl)
    (hv : ∀ v ∈ own.map (·.2), O.has v = false := by intro v hv; revert v; decide) (hix : ∀ i ∈ ix, i ∈ own.map (·.2) := by decide) (hs : ∀ x, foldedSetIterable iter X.env x = pure x := by intro _; rfl) :
    DS G X W0 Ob OE O (.Assign [.Name y py] (.ListComp elt [⟨tg, iter, ifs, 0⟩] scope pos) spos) O (mSet i (mLX mi (own.map (·.2)) g mt me)) := by
  obtain ⟨wi, pi, wwi⟩ := hi.ex
  obtain ⟨p, h1, hp⟩ := xc.hot
  refine ⟨_, ps_setLcH (i := i) h1 hp hN hy hyl hsw pi ok (fun s H C cl fp => (hg s H C cl fp p).c) (fun s H C cl fp => (ht s H C cl fp p).c) (fun s H C cl fp => (he s H C cl fp p (xc.blk h1)).c) hs, fun b S env st σ H D I h => ?_⟩
  exact do_part (me := mLX mi (own.map (·.2)) g mt me) (t := tLc wi (cG G O ix g) (cT G W0 O mt) (cE G W0 O me) (own.map (·.2))) hO (fun b S env st σ H Q I h => lc_walkX (fun _ _ _ _ _ z => z) hv hix wwi I h) I h fun v d S' H' st' I' r q => q _ _ _ (.refl _) (I'.set r ho)
end
end DL

open PySem PySem.W PyProof.Rows
set_option maxHeartbeats 0 in
open_top hd for PySem.Challenge.rw_untoldgaps_k02_things_that_are_no_ratios
namespace My
open PySem PySem.Spec PyProof.Rows L2 DL
abbrev c_GapError : Nat := 0
abbrev c_BadRatio : Nat := 1
def clX_BadRatio : Nat → Option Bool := fun c => match c with
  | 1 => some true
  | _ => none
def tabX : Nat → D → Option Bool := fun c d => match c, d with
  | 1, .cls 0 => some true
  | 1, .ty n => if n = "ValueError" then some true else none
  | _, _ => none
noncomputable def b__law_common : MS :=
    mSeq (mSet 2 (mCall1 (c1 dAbs) (mCons (mVar 0) (mNil))))
    (mSeq (mSet 3 (mCall1 (c1 dAbs) (mCons (mVar 1) (mNil))))
    (mSeq (mWhile (mTru (mVar 3)) (mPar 2 3 (mCons (mVar 3) (mCons (mOp dMod (mCall1 (c1 dInt1) (mCons (mVar 2) (mNil))) (mVar 3)) (mNil)))))
    (mRet (mVar 2))))
noncomputable def m__law_common : List D → M D := fnM 4 b__law_common
noncomputable def b__law_hand : MS :=
    mSeq (mSet 1 (mC (.int 0)))
    (mSeq ((mFor (mThenA (mCons (mVar 0) (mNil)) enum?) (gTp (gsCons (gNm 2) (gsCons (gNm 3) (gsNil)))) (mSet 1 (mOp dMod (mCall1 (c1 dInt1) (mCons (mOp dAdd (mOp dMul (mVar 1) (mC (.int 31))) (mOp dMul (mCall1 (c1 dInt1) (mCons (mVar 3) (mNil))) (mOp dAdd (mVar 2) (mC (.int 7))))) (mNil))) (mC (.int 2147483629))))))
    (mRet (mLst (mCons ((mLC (mItems (mVar 0)) [3] (gNm 3) (mYes) (mCall1 (c1 dAbs) (mCons (mCall1 (c1 dInt1) (mCons (mVar 3) (mNil))) (mNil))))) (mCons (mC (.int 0)) (mCons (mC (.int 0)) (mCons (mVar 1) (mNil))))))))
noncomputable def m__law_hand : List D → M D := fnM 4 b__law_hand
noncomputable def b__law_low : MS :=
    mSeq (mSet 2 (mCall1 (c1 dAbs) (mCons (mVar 0) (mNil))))
    (mSeq (mSet 3 (mCall1 (c1 dAbs) (mCons (mVar 1) (mNil))))
    (mSeq (mWhile (mTru (mVar 3)) (mPar 2 3 (mCons (mVar 3) (mCons (mOp dMod (mCall1 (c1 dInt1) (mCons (mVar 2) (mNil))) (mVar 3)) (mNil)))))
    (mSeq (mIfS (mTest (mOp dLt (mVar 1) (mC (.int 0)))) (mSet 2 (mUn dNeg (mVar 2))) (mNx))
    (mRet (mTup (mCons (mOp dDiv (mVar 0) (mVar 2)) (mCons (mOp dDiv (mVar 1) (mVar 2)) (mNil))))))))
noncomputable def m__law_low : List D → M D := fnM 4 b__law_low
noncomputable def b__law_mix : MS :=
    mSeq (mSet 2 (mOp dMod (mCall1 (c1 dInt1) (mCons (mOp dAdd (mOp dAdd (mOp dMul (mVar 0) (mC (.int 48271))) (mOp dMul (mVar 1) (mC (.int 16807)))) (mC (.int 11))) (mNil))) (mC (.int 2147483647))))
    (mSeq (mSet 3 (mOp dMod (mCall1 (c1 dInt1) (mCons (mOp dAdd (mOp dAdd (mOp dMul (mVar 2) (mVar 2)) (mOp dMul (mOp dDiv (mVar 2) (mC (.int 127))) (mC (.int 40692)))) (mOp dMul (mVar 1) (mC (.int 69621)))) (mNil))) (mC (.int 2147483399))))
    (mRet (mOp dDiv (mOp dMod (mCall1 (c1 dInt1) (mCons (mOp dAdd (mOp dDiv (mOp dMul (mVar 3) (mVar 3)) (mC (.int 1009))) (mVar 2)) (mNil))) (mC (.int 2147483563))) (mC (.int 16)))))
noncomputable def m__law_mix : List D → M D := fnM 4 b__law_mix
noncomputable def b__law_pair : MS :=
    mRet (mIf (mTru (mCall1 dIsi (mCons (mVar 0) (mCons (mC (.ty "tuple")) (mNil))))) (mVar 0) (mTup (mCons (mVar 0) (mCons (mC (.int 1)) (mNil)))))
noncomputable def m__law_pair : List D → M D := fnM 1 b__law_pair
noncomputable def b_is_whole : MS :=
    mRet (mAndV (mCall1 dIsi (mCons (mVar 0) (mCons (mC (.ty "int")) (mNil)))) (mNotV (mCall1 dIsi (mCons (mVar 0) (mCons (mC (.ty "bool")) (mNil))))))
noncomputable def m_is_whole : List D → M D := fnM 1 b_is_whole
noncomputable def b_lowest_terms : MS :=
    mSeq (mSet 2 (mCall1 dGcd (mCons (mVar 0) (mCons (mVar 1) (mNil)))))
    (mSeq (mIfS (mTest (mOp dLt (mVar 1) (mC (.int 0)))) (mSet 2 (mUn dNeg (mVar 2))) (mNx))
    (mRet (mTup (mCons (mOp dDiv (mVar 0) (mVar 2)) (mCons (mOp dDiv (mVar 1) (mVar 2)) (mNil))))))
noncomputable def m_lowest_terms : List D → M D := fnM 3 b_lowest_terms
noncomputable def b__law_draw : MS :=
    mSeq (mIfS (mAnd (mTest (mOp dEq (mIx (mVar 0) (mC (.int 2))) (mC (.int 0)))) (mTest (mOp dLt (mIx (mVar 0) (mC (.int 1))) (mCall1 (c1 dLen) (mCons (mIx (mVar 0) (mC (.int 0))) (mNil)))))) (mSeq (mSet 2 (mIx (mIx (mVar 0) (mC (.int 0))) (mIx (mVar 0) (mC (.int 1)))))
    (mSeq (mPut 0 1 (mOp dAdd (mIx (mVar 0) (mC (.int 1))) (mC (.int 1))))
    (mSeq (mIfS (mTest (mOp dLt (mVar 2) (mOp dPow (mC (.int 10)) (mC (.int 18))))) (mRet (mOp dMod (mCall1 (c1 dInt1) (mCons (mCall m__law_mix (mCons (mOp dMod (mCall1 (c1 dInt1) (mCons (mVar 2) (mNil))) (mC (.int 2147483647))) (mCons (mIx (mVar 0) (mC (.int 1))) (mNil)))) (mNil))) (mVar 1))) (mNx))
    (mPut 0 2 (mVar 2))))) (mNx))
    (mSeq (mIfS (mTest (mOp dGt (mIx (mVar 0) (mC (.int 2))) (mC (.int 0)))) (mSeq (mSet 3 (mIx (mVar 0) (mC (.int 2))))
    (mSeq (mPut 0 2 (mOp dDiv (mVar 3) (mVar 1)))
    (mRet (mOp dMod (mCall1 (c1 dInt1) (mCons (mVar 3) (mNil))) (mVar 1))))) (mNx))
    (mSeq (mPut 0 3 (mOp dMod (mCall1 (c1 dInt1) (mCons (mOp dAdd (mIx (mVar 0) (mC (.int 3))) (mC (.int 1))) (mNil))) (mC (.int 2147483629))))
    (mRet (mOp dMod (mCall1 (c1 dInt1) (mCons (mCall m__law_mix (mCons (mIx (mVar 0) (mC (.int 3))) (mCons (mIx (mVar 0) (mC (.int 1))) (mNil)))) (mNil))) (mVar 1)))))
noncomputable def m__law_draw : List D → M D := fnM 4 b__law_draw
noncomputable def bd_law_right_1 : MS :=
    mSeq (mSet 5 (mCall m__law_pair (mCons (mIx (mVar 1) (mVar 3)) (mNil))))
    (mSeq (mSet 6 (mCall m__law_pair (mCons (mIx (mVar 1) (mVar 4)) (mNil))))
    (mIfS (mTest (mOp dNe (mOp dMul (mOp dMul (mIx (mVar 0) (mVar 3)) (mIx (mVar 6) (mC (.int 0)))) (mIx (mVar 5) (mC (.int 1)))) (mOp dMul (mOp dMul (mIx (mVar 0) (mVar 4)) (mIx (mVar 5) (mC (.int 0)))) (mIx (mVar 6) (mC (.int 1)))))) (mRet (mC (.bl false))) (mNx)))
noncomputable def F_law_right_1 : MS :=
    mFor (mThenA (mCons (mVar 3) (mNil)) rng1?) (gNm 4) bd_law_right_1
noncomputable def bd_law_right_2 : MS :=
    mSeq (mIfS (mOr (mNot (mTru (mCall1 dIsi (mCons (mIx (mVar 0) (mVar 3)) (mCons (mC (.ty "int")) (mNil)))))) (mTru (mCall1 dIsi (mCons (mIx (mVar 0) (mVar 3)) (mCons (mC (.ty "bool")) (mNil)))))) (mRet (mC (.bl false))) (mNx))
    (mSeq (mSet 2 (mCall m__law_common (mCons (mVar 2) (mCons (mIx (mVar 0) (mVar 3)) (mNil)))))
    (mSeq (mIfS (mOr (mTest (mOp dLt (mOp dMul (mIx (mVar 0) (mVar 3)) (mIx (mCall m__law_pair (mCons (mIx (mVar 1) (mVar 3)) (mNil))) (mC (.int 0)))) (mC (.int 0)))) (mTest (mOp dNe (mOp dEq (mIx (mVar 0) (mVar 3)) (mC (.int 0))) (mOp dEq (mIx (mCall m__law_pair (mCons (mIx (mVar 1) (mVar 3)) (mNil))) (mC (.int 0))) (mC (.int 0)))))) (mRet (mC (.bl false))) (mNx))
    (F_law_right_1)))
noncomputable def F_law_right_2 : MS :=
    mFor (mThenA (mCons (mCall1 (c1 dLen) (mCons (mVar 1) (mNil))) (mNil)) rng1?) (gNm 3) bd_law_right_2
noncomputable def b__law_right : MS :=
    mSeq (mIfS (mOr (mNot (mTru (mCall1 dIsi (mCons (mVar 0) (mCons (mC (.ty "tuple")) (mNil)))))) (mTest (mOp dNe (mCall1 (c1 dLen) (mCons (mVar 0) (mNil))) (mCall1 (c1 dLen) (mCons (mVar 1) (mNil)))))) (mRet (mC (.bl false))) (mNx))
    (mSeq (mSet 2 (mC (.int 0)))
    (mSeq (F_law_right_2)
    (mRet (mOp dLe (mVar 2) (mC (.int 1))))))
noncomputable def m__law_right : List D → M D := fnM 7 b__law_right
noncomputable def b_is_ratio : MS :=
    mSeq (mIfS (mTru (mCall1 dIsi (mCons (mVar 0) (mCons (mC (.ty "tuple")) (mNil))))) (mRet (mAndV (mOp dEq (mCall1 (c1 dLen) (mCons (mVar 0) (mNil))) (mC (.int 2))) (mAndV (mCall m_is_whole (mCons (mIx (mVar 0) (mC (.int 0))) (mNil))) (mAndV (mCall m_is_whole (mCons (mIx (mVar 0) (mC (.int 1))) (mNil))) (mOp dGt (mIx (mVar 0) (mC (.int 1))) (mC (.int 0))))))) (mNx))
    (mRet (mCall m_is_whole (mCons (mVar 0) (mNil))))
noncomputable def m_is_ratio : List D → M D := fnM 1 b_is_ratio
noncomputable def b__law_odd : MS :=
    mSeq (mSet 2 (mCall m__law_draw (mCons (mVar 0) (mCons (mC (.int 14)) (mNil)))))
    (mSeq (mSet 3 (mLst (mCons (mC .non) (mCons (mC (.bl true)) (mCons (mC (.bl false)) (mCons (mC (.str "1")) (mCons (mLst (mCons (mVar 1) (mCons (mVar 1) (mNil)))) (mCons (mTup (mCons (mVar 1) (mNil))) (mCons (mTup (mCons (mVar 1) (mCons (mVar 1) (mCons (mVar 1) (mNil))))) (mCons (mTup (mCons (mVar 1) (mCons (mC (.int 0)) (mNil)))) (mCons (mTup (mCons (mVar 1) (mCons (mUn dNeg (mVar 1)) (mNil)))) (mCons (mTup (mCons (mC (.bl true)) (mCons (mVar 1) (mNil)))) (mNil)))))))))))))
    (mSeq (mSet 3 (mOp dAdd (mVar 3) (mLst (mCons (mTup (mCons (mVar 1) (mCons (mC (.bl true)) (mNil)))) (mCons (mTup (mCons (mVar 1) (mCons (mC (.str "1")) (mNil)))) (mCons (mTup (mCons (mTup (mCons (mVar 1) (mCons (mC (.int 1)) (mNil)))) (mCons (mC (.int 1)) (mNil)))) (mCons (mTup (mNil)) (mNil))))))))
    (mRet (mIx (mVar 3) (mVar 2)))))
noncomputable def m__law_odd : List D → M D := fnM 4 b__law_odd
noncomputable def bd_law_row_1 : MS :=
    mSeq (mSet 3 (mIf (mTest (mOp dEq (mCall m__law_draw (mCons (mVar 0) (mCons (mC (.int 2)) (mNil)))) (mC (.int 0)))) (mC (.int 3)) (mOp dPow (mC (.int 10)) (mC (.int 12)))))
    (mSeq (mSet 4 (mOp dSub (mCall m__law_draw (mCons (mVar 0) (mCons (mOp dAdd (mOp dMul (mC (.int 2)) (mVar 3)) (mC (.int 1))) (mNil)))) (mVar 3)))
    (mPush 1 (mIf (mTest (mOp dEq (mCall m__law_draw (mCons (mVar 0) (mCons (mC (.int 3)) (mNil)))) (mC (.int 0)))) (mVar 4) (mCall m__law_low (mCons (mVar 4) (mCons (mOp dAdd (mC (.int 1)) (mCall m__law_draw (mCons (mVar 0) (mCons (mVar 3) (mNil))))) (mNil)))))))
noncomputable def F_law_row_1 : MS :=
    mFor (mThenA (mCons (mCall m__law_draw (mCons (mVar 0) (mCons (mC (.int 7)) (mNil)))) (mNil)) rng1?) (gNm 2) bd_law_row_1
noncomputable def b__law_row : MS :=
    mSeq (mSetF 1 (mThenA (mNil) fits?))
    (mSeq (F_law_row_1)
    (mRet (mVar 1)))
noncomputable def m__law_row : List D → M D := fnM 5 b__law_row
noncomputable def b_ratio_of : MS :=
    mSeq (mIfS (mNot (mTru (mCall m_is_ratio (mCons (mVar 0) (mNil))))) (mRaise0 1) (mNx))
    (mSeq (mIfS (mNot (mTru (mCall1 dIsi (mCons (mVar 0) (mCons (mC (.ty "tuple")) (mNil)))))) (mRet (mTup (mCons (mVar 0) (mCons (mC (.int 1)) (mNil))))) (mNx))
    (mRet (mCall m_lowest_terms (mCons (mIx (mVar 0) (mC (.int 0))) (mCons (mIx (mVar 0) (mC (.int 1))) (mNil))))))
noncomputable def m_ratio_of : List D → M D := fnM 1 b_ratio_of
noncomputable def b_compare : MS :=
    mSeq (mAsg (mCall m_ratio_of (mCons (mVar 0) (mNil))) (gTp (gsCons (gNm 2) (gsCons (gNm 3) (gsNil)))))
    (mSeq (mAsg (mCall m_ratio_of (mCons (mVar 1) (mNil))) (gTp (gsCons (gNm 4) (gsCons (gNm 5) (gsNil)))))
    (mSeq (mSet 6 (mOp dMul (mVar 2) (mVar 5)))
    (mSeq (mSet 7 (mOp dMul (mVar 4) (mVar 3)))
    (mSeq (mIfS (mTest (mOp dLt (mVar 6) (mVar 7))) (mRet (mUn dNeg (mC (.int 1)))) (mNx))
    (mRet (mIf (mTest (mOp dGt (mVar 6) (mVar 7))) (mC (.int 1)) (mC (.int 0))))))))
noncomputable def m_compare : List D → M D := fnM 8 b_compare
noncomputable def el_lowest_row_1 : ME :=
    mCall m_ratio_of (mCons (mVar 3) (mNil))
noncomputable def L_lowest_row_1 : ME :=
    mLX (mItems (mVar 0)) [3] (gNm 3) (mYes) el_lowest_row_1
noncomputable def bd_lowest_row_2 : MS :=
    mSet 2 (mCall1 dLcm (mCons (mVar 2) (mCons (mIx (mVar 3) (mC (.int 1))) (mNil))))
noncomputable def F_lowest_row_2 : MS :=
    mFor (mItems (mVar 1)) (gNm 3) bd_lowest_row_2
noncomputable def el_lowest_row_3 : ME :=
    mOp dMul (mIx (mVar 3) (mC (.int 0))) (mOp dDiv (mVar 2) (mIx (mVar 3) (mC (.int 1))))
noncomputable def L_lowest_row_3 : ME :=
    mLC (mItems (mVar 1)) [3] (gNm 3) (mYes) el_lowest_row_3
noncomputable def bd_lowest_row_4 : MS :=
    mSet 5 (mCall1 dGcd (mCons (mVar 5) (mCons (mVar 6) (mNil))))
noncomputable def F_lowest_row_4 : MS :=
    mFor (mItems (mVar 4)) (gNm 6) bd_lowest_row_4
noncomputable def el_lowest_row_5 : ME :=
    mOp dDiv (mVar 6) (mVar 5)
noncomputable def L_lowest_row_5 : ME :=
    mLC (mItems (mVar 4)) [6] (gNm 6) (mYes) el_lowest_row_5
noncomputable def b_lowest_row : MS :=
    mSeq (mSet 1 (L_lowest_row_1))
    (mSeq (mSet 2 (mC (.int 1)))
    (mSeq (F_lowest_row_2)
    (mSeq (mSet 4 (L_lowest_row_3))
    (mSeq (mSet 5 (mC (.int 0)))
    (mSeq (F_lowest_row_4)
    (mSeq (mIfS (mTest (mOp dEq (mVar 5) (mC (.int 0)))) (mRet (mCall1 (c1 dTuple) (mCons (mVar 4) (mNil)))) (mNx))
    (mRet (mCall1 (c1 dTuple) (mCons (L_lowest_row_5) (mNil))))))))))
noncomputable def m_lowest_row : List D → M D := fnM 7 b_lowest_row
noncomputable def b_minus : MS :=
    mSeq (mAsg (mCall m_ratio_of (mCons (mVar 0) (mNil))) (gTp (gsCons (gNm 2) (gsCons (gNm 3) (gsNil)))))
    (mSeq (mAsg (mCall m_ratio_of (mCons (mVar 1) (mNil))) (gTp (gsCons (gNm 4) (gsCons (gNm 5) (gsNil)))))
    (mRet (mCall m_lowest_terms (mCons (mOp dSub (mOp dMul (mVar 2) (mVar 5)) (mOp dMul (mVar 4) (mVar 3))) (mCons (mOp dMul (mVar 3) (mVar 5)) (mNil))))))
noncomputable def m_minus : List D → M D := fnM 6 b_minus
noncomputable def b_over : MS :=
    mSeq (mAsg (mCall m_ratio_of (mCons (mVar 0) (mNil))) (gTp (gsCons (gNm 2) (gsCons (gNm 3) (gsNil)))))
    (mSeq (mAsg (mCall m_ratio_of (mCons (mVar 1) (mNil))) (gTp (gsCons (gNm 4) (gsCons (gNm 5) (gsNil)))))
    (mSeq (mIfS (mTest (mOp dEq (mVar 4) (mC (.int 0)))) (mRaise0 1) (mNx))
    (mRet (mCall m_lowest_terms (mCons (mOp dMul (mVar 2) (mVar 5)) (mCons (mOp dMul (mVar 3) (mVar 4)) (mNil)))))))
noncomputable def m_over : List D → M D := fnM 6 b_over
noncomputable def b_plus : MS :=
    mSeq (mAsg (mCall m_ratio_of (mCons (mVar 0) (mNil))) (gTp (gsCons (gNm 2) (gsCons (gNm 3) (gsNil)))))
    (mSeq (mAsg (mCall m_ratio_of (mCons (mVar 1) (mNil))) (gTp (gsCons (gNm 4) (gsCons (gNm 5) (gsNil)))))
    (mRet (mCall m_lowest_terms (mCons (mOp dAdd (mOp dMul (mVar 2) (mVar 5)) (mOp dMul (mVar 4) (mVar 3))) (mCons (mOp dMul (mVar 3) (mVar 5)) (mNil))))))
noncomputable def m_plus : List D → M D := fnM 6 b_plus
noncomputable def b_times : MS :=
    mSeq (mAsg (mCall m_ratio_of (mCons (mVar 0) (mNil))) (gTp (gsCons (gNm 2) (gsCons (gNm 3) (gsNil)))))
    (mSeq (mAsg (mCall m_ratio_of (mCons (mVar 1) (mNil))) (gTp (gsCons (gNm 4) (gsCons (gNm 5) (gsNil)))))
    (mRet (mCall m_lowest_terms (mCons (mOp dMul (mVar 2) (mVar 4)) (mCons (mOp dMul (mVar 3) (mVar 5)) (mNil))))))
noncomputable def m_times : List D → M D := fnM 6 b_times
noncomputable def ty_law_refused_1 : MS :=
    mIfS (mTest (mOp dEq (mVar 0) (mC (.str "of")))) (mDrop (mCall m_ratio_of (mCons (mVar 1) (mNil)))) (mIfS (mTest (mOp dEq (mVar 0) (mC (.str "plus")))) (mDrop (mCall m_plus (mCons (mVar 1) (mCons (mVar 2) (mNil))))) (mIfS (mTest (mOp dEq (mVar 0) (mC (.str "minus")))) (mDrop (mCall m_minus (mCons (mVar 1) (mCons (mVar 2) (mNil))))) (mIfS (mTest (mOp dEq (mVar 0) (mC (.str "times")))) (mDrop (mCall m_times (mCons (mVar 1) (mCons (mVar 2) (mNil))))) (mIfS (mTest (mOp dEq (mVar 0) (mC (.str "over")))) (mDrop (mCall m_over (mCons (mVar 1) (mCons (mVar 2) (mNil))))) (mIfS (mTest (mOp dEq (mVar 0) (mC (.str "compare")))) (mDrop (mCall m_compare (mCons (mVar 1) (mCons (mVar 2) (mNil))))) (mDrop (mCall m_lowest_row (mCons (mLst (mCons (mVar 1) (mCons (mVar 2) (mNil)))) (mNil)))))))))
noncomputable def b__law_refused : MS :=
    mSeq (mTryAs clX_BadRatio 3 (ty_law_refused_1) (mRet (mAndV (mIsXF 3 tabX (mC (.cls 0))) (mIsXF 3 tabX (mC (.ty "ValueError"))))))
    (mRet (mC (.bl false)))
noncomputable def m__law_refused : List D → M D := fnM 4 b__law_refused
noncomputable def bd_law_1 : MS :=
    mSeq (mIfS (mOr (mNot (mTru (mCall m__law_refused (mCons (mVar 6) (mCons (mVar 4) (mCons (mVar 5) (mNil))))))) (mAnd (mTest (mOp dNe (mVar 6) (mC (.str "of")))) (mNot (mTru (mCall m__law_refused (mCons (mVar 6) (mCons (mVar 5) (mCons (mVar 4) (mNil))))))))) (mRet (mC (.bl false))) (mNx))
    (mIfS (mAnd (mTest (mOp dNe (mVar 6) (mC (.str "over")))) (mTru (mCall m__law_refused (mCons (mVar 6) (mCons (mVar 5) (mCons (mVar 5) (mNil))))))) (mRet (mC (.bl false))) (mNx))
noncomputable def F_law_1 : MS :=
    mFor (mItems (mLst (mCons (mC (.str "of")) (mCons (mC (.str "plus")) (mCons (mC (.str "minus")) (mCons (mC (.str "times")) (mCons (mC (.str "over")) (mCons (mC (.str "compare")) (mCons (mC (.str "row")) (mNil)))))))))) (gNm 6) bd_law_1
noncomputable def el_law_2 : ME :=
    mCall m__law_low (mCons (mOp dMul (mIx (mCall m__law_pair (mCons (mVar 13) (mNil))) (mC (.int 0))) (mIx (mVar 10) (mC (.int 0)))) (mCons (mOp dMul (mIx (mCall m__law_pair (mCons (mVar 13) (mNil))) (mC (.int 1))) (mIx (mVar 10) (mC (.int 1)))) (mNil)))
noncomputable def L_law_2 : ME :=
    mLC (mItems (mVar 8)) [13] (gNm 13) (mYes) el_law_2
noncomputable def b_law : MS :=
    mSeq (mSet 2 (mOp dAdd (mC (.int 1)) (mCall m__law_draw (mCons (mVar 1) (mCons (mOp dPow (mC (.int 10)) (mC (.int 30))) (mNil))))))
    (mSeq (mSet 3 (mOp dSub (mCall m__law_draw (mCons (mVar 1) (mCons (mOp dPow (mC (.int 10)) (mC (.int 30))) (mNil)))) (mOp dMul (mC (.int 5)) (mOp dPow (mC (.int 10)) (mC (.int 29))))))
    (mSeq (mSet 4 (mCall m__law_odd (mCons (mVar 1) (mCons (mVar 2) (mNil)))))
    (mSeq (mSet 5 (mIf (mTest (mOp dEq (mCall m__law_draw (mCons (mVar 1) (mCons (mC (.int 2)) (mNil)))) (mC (.int 0)))) (mVar 3) (mTup (mCons (mVar 3) (mCons (mVar 2) (mNil))))))
    (mSeq (mIfS (mOr (mTest (mOp dNotB (mCall m_is_ratio (mCons (mVar 4) (mNil))) (mC (.bl false)))) (mOr (mTest (mOp dNotB (mCall m_is_ratio (mCons (mVar 5) (mNil))) (mC (.bl true)))) (mOr (mTest (mOp dNotB (mCall m_is_ratio (mCons (mTup (mCons (mVar 3) (mCons (mC (.int 1)) (mNil)))) (mNil))) (mC (.bl true)))) (mTest (mOp dNotB (mCall m_is_ratio (mCons (mC (.int 0)) (mNil))) (mC (.bl true))))))) (mRet (mC (.bl false))) (mNx))
    (mSeq (mIfS (mOr (mTest (mOp dNotB (mCall m_is_whole (mCons (mVar 4) (mNil))) (mC (.bl false)))) (mOr (mTest (mOp dNotB (mCall m_is_whole (mCons (mVar 3) (mNil))) (mC (.bl true)))) (mOr (mTest (mOp dNotB (mCall m_is_whole (mCons (mTup (mCons (mVar 3) (mCons (mVar 2) (mNil)))) (mNil))) (mC (.bl false)))) (mTest (mOp dNotB (mCall m_is_whole (mCons (mUn dNeg (mVar 2)) (mNil))) (mC (.bl true))))))) (mRet (mC (.bl false))) (mNx))
    (mSeq (mIfS (mTest (mOp dNe (mCall m_ratio_of (mCons (mVar 5) (mNil))) (mCall m__law_low (mCons (mIx (mCall m__law_pair (mCons (mVar 5) (mNil))) (mC (.int 0))) (mCons (mIx (mCall m__law_pair (mCons (mVar 5) (mNil))) (mC (.int 1))) (mNil)))))) (mRet (mC (.bl false))) (mNx))
    (mSeq (F_law_1)
    (mSeq (mIfS (mOr (mTru (mCall m__law_refused (mCons (mC (.str "over")) (mCons (mVar 5) (mCons (mTup (mCons (mVar 2) (mCons (mOp dAdd (mVar 2) (mC (.int 1))) (mNil)))) (mNil)))))) (mNot (mTru (mCall m__law_refused (mCons (mC (.str "over")) (mCons (mVar 5) (mCons (mTup (mCons (mC (.int 0)) (mCons (mVar 2) (mNil)))) (mNil)))))))) (mRet (mC (.bl false))) (mNx))
    (mSeq (mSet 7 (mCall m__law_row (mCons (mVar 1) (mNil))))
    (mSeq (mSet 8 (mCall1 (c1 dList) (mCons (mVar 7) (mNil))))
    (mSeq (mSet 9 (mCall m_lowest_row (mCons (mVar 7) (mNil))))
    (mSeq (mIfS (mOr (mNot (mTru (mCall m__law_right (mCons (mVar 9) (mCons (mVar 8) (mNil)))))) (mTest (mOp dNe (mVar 7) (mVar 8)))) (mRet (mC (.bl false))) (mNx))
    (mSeq (mSet 10 (mCall m__law_low (mCons (mVar 2) (mCons (mOp dAdd (mC (.int 1)) (mCall m__law_draw (mCons (mVar 1) (mCons (mOp dPow (mC (.int 10)) (mC (.int 6))) (mNil))))) (mNil)))))
    (mSeq (mSet 11 (L_law_2))
    (mSeq (mIfS (mOr (mTest (mOp dNe (mCall m_lowest_row (mCons (mCall1 (c1 dTuple) (mCons (mVar 11) (mNil))) (mNil))) (mVar 9))) (mTest (mOp dNe (mCall m_lowest_row (mCons (mVar 9) (mNil))) (mVar 9)))) (mRet (mC (.bl false))) (mNx))
    (mSeq (mSet 12 (mCall m__law_draw (mCons (mVar 1) (mCons (mOp dAdd (mCall1 (c1 dLen) (mCons (mVar 8) (mNil))) (mC (.int 1))) (mNil)))))
    (mTryM [(clX_BadRatio, none, mRet (mOp dEq (mCall m_lowest_row (mCons (mVar 7) (mNil))) (mVar 9)))] (mSeq (mDrop (mCall m_lowest_row (mCons (mOp dAdd (mOp dAdd (mSl (mVar 8) (mNo) (mPart (mVar 12))) (mLst (mCons (mVar 4) (mNil)))) (mSl (mVar 8) (mPart (mVar 12)) (mNo))) (mNil))))
    (mRet (mC (.bl false)))))))))))))))))))))
end My

namespace My
open PySem PySem.Spec PyProof.Rows L2 DL
def topS (i : Nat) : Stmt := PySem.Challenge.pw_untoldgaps_k02_things_that_are_no_ratios.main.body.getD i (.Pass ⟨0, 0, 0, 0⟩)
abbrev s__law_common : Stmt := topS 25
abbrev n__law_common : List Str := ["_law_one", "_law_other", "_law_a", "_law_b"]
theorem sc__law_common : FnScope n__law_common ["_law_one", "_law_other"] (defScope s__law_common) := ⟨rfl, rfl, rfl, by decide +kernel, rfl, by decide +kernel, by decide +kernel⟩
abbrev s__law_hand : Stmt := topS 17
abbrev n__law_hand : List Str := ["_law_script", "_law_total", "_law_k", "_law_cell"]
theorem sc__law_hand : FnScope n__law_hand ["_law_script"] (defScope s__law_hand) := ⟨rfl, rfl, rfl, by decide +kernel, rfl, by decide +kernel, by decide +kernel⟩
abbrev s__law_low : Stmt := topS 19
abbrev n__law_low : List Str := ["_law_top", "_law_bottom", "_law_one", "_law_other"]
theorem sc__law_low : FnScope n__law_low ["_law_top", "_law_bottom"] (defScope s__law_low) := ⟨rfl, rfl, rfl, by decide +kernel, rfl, by decide +kernel, by decide +kernel⟩
abbrev s__law_mix : Stmt := topS 16
abbrev n__law_mix : List Str := ["_law_number", "_law_turn", "_law_once", "_law_twice"]
theorem sc__law_mix : FnScope n__law_mix ["_law_number", "_law_turn"] (defScope s__law_mix) := ⟨rfl, rfl, rfl, by decide +kernel, rfl, by decide +kernel, by decide +kernel⟩
abbrev s__law_pair : Stmt := topS 23
abbrev n__law_pair : List Str := ["_law_x"]
theorem sc__law_pair : FnScope n__law_pair ["_law_x"] (defScope s__law_pair) := ⟨rfl, rfl, rfl, by decide +kernel, rfl, by decide +kernel, by decide +kernel⟩
abbrev s_is_whole : Stmt := topS 5
abbrev n_is_whole : List Str := ["thing"]
theorem sc_is_whole : FnScope n_is_whole ["thing"] (defScope s_is_whole) := ⟨rfl, rfl, rfl, by decide +kernel, rfl, by decide +kernel, by decide +kernel⟩
abbrev s_lowest_terms : Stmt := topS 8
abbrev n_lowest_terms : List Str := ["top", "bottom", "common"]
theorem sc_lowest_terms : FnScope n_lowest_terms ["top", "bottom"] (defScope s_lowest_terms) := ⟨rfl, rfl, rfl, by decide +kernel, rfl, by decide +kernel, by decide +kernel⟩
abbrev s__law_draw : Stmt := topS 18
abbrev n__law_draw : List Str := ["_law_hand_here", "_law_many", "_law_cell", "_law_rest"]
theorem sc__law_draw : FnScope n__law_draw ["_law_hand_here", "_law_many"] (defScope s__law_draw) := ⟨rfl, rfl, rfl, by decide +kernel, rfl, by decide +kernel, by decide +kernel⟩
abbrev s__law_right : Stmt := topS 24
abbrev n__law_right : List Str := ["_law_told", "_law_row_here", "_law_common_here", "_law_k", "_law_m", "_law_one", "_law_other"]
theorem sc__law_right : FnScope n__law_right ["_law_told", "_law_row_here"] (defScope s__law_right) := ⟨rfl, rfl, rfl, by decide +kernel, rfl, by decide +kernel, by decide +kernel⟩
abbrev s_is_ratio : Stmt := topS 6
abbrev n_is_ratio : List Str := ["thing"]
theorem sc_is_ratio : FnScope n_is_ratio ["thing"] (defScope s_is_ratio) := ⟨rfl, rfl, rfl, by decide +kernel, rfl, by decide +kernel, by decide +kernel⟩
abbrev s__law_odd : Stmt := topS 20
abbrev n__law_odd : List Str := ["_law_hand_here", "_law_near", "_law_kind", "_law_things"]
theorem sc__law_odd : FnScope n__law_odd ["_law_hand_here", "_law_near"] (defScope s__law_odd) := ⟨rfl, rfl, rfl, by decide +kernel, rfl, by decide +kernel, by decide +kernel⟩
abbrev s__law_row : Stmt := topS 22
abbrev n__law_row : List Str := ["_law_hand_here", "_law_made", "_law_k", "_law_far", "_law_top"]
theorem sc__law_row : FnScope n__law_row ["_law_hand_here"] (defScope s__law_row) := ⟨rfl, rfl, rfl, by decide +kernel, rfl, by decide +kernel, by decide +kernel⟩
abbrev s_ratio_of : Stmt := topS 7
abbrev n_ratio_of : List Str := ["thing"]
theorem sc_ratio_of : FnScope n_ratio_of ["thing"] (defScope s_ratio_of) := ⟨rfl, rfl, rfl, by decide +kernel, rfl, by decide +kernel, by decide +kernel⟩
abbrev s_compare : Stmt := topS 13
abbrev n_compare : List Str := ["one", "other", "a", "b", "c", "d", "left", "right"]
theorem sc_compare : FnScope n_compare ["one", "other"] (defScope s_compare) := ⟨rfl, rfl, rfl, by decide +kernel, rfl, by decide +kernel, by decide +kernel⟩
abbrev s_lowest_row : Stmt := topS 14
abbrev n_lowest_row : List Str := ["numbers", "known", "whole", "number", "tops", "common", "top"]
theorem sc_lowest_row : FnScope n_lowest_row ["numbers"] (defScope s_lowest_row) := ⟨rfl, rfl, rfl, by decide +kernel, rfl, by decide +kernel, by decide +kernel⟩
abbrev s_minus : Stmt := topS 10
abbrev n_minus : List Str := ["one", "other", "a", "b", "c", "d"]
theorem sc_minus : FnScope n_minus ["one", "other"] (defScope s_minus) := ⟨rfl, rfl, rfl, by decide +kernel, rfl, by decide +kernel, by decide +kernel⟩
abbrev s_over : Stmt := topS 12
abbrev n_over : List Str := ["one", "other", "a", "b", "c", "d"]
theorem sc_over : FnScope n_over ["one", "other"] (defScope s_over) := ⟨rfl, rfl, rfl, by decide +kernel, rfl, by decide +kernel, by decide +kernel⟩
abbrev s_plus : Stmt := topS 9
abbrev n_plus : List Str := ["one", "other", "a", "b", "c", "d"]
theorem sc_plus : FnScope n_plus ["one", "other"] (defScope s_plus) := ⟨rfl, rfl, rfl, by decide +kernel, rfl, by decide +kernel, by decide +kernel⟩
abbrev s_times : Stmt := topS 11
abbrev n_times : List Str := ["one", "other", "a", "b", "c", "d"]
theorem sc_times : FnScope n_times ["one", "other"] (defScope s_times) := ⟨rfl, rfl, rfl, by decide +kernel, rfl, by decide +kernel, by decide +kernel⟩
abbrev s__law_refused : Stmt := topS 21
abbrev n__law_refused : List Str := ["_law_name", "_law_one", "_law_other", "e"]
theorem sc__law_refused : FnScope n__law_refused ["_law_name", "_law_one", "_law_other"] (defScope s__law_refused) := ⟨rfl, rfl, rfl, by decide +kernel, rfl, by decide +kernel, by decide +kernel⟩
abbrev s_law : Stmt := topS 26
abbrev n_law : List Str := ["_law_script", "_law_hand_here", "_law_near", "_law_far", "_law_odd_here", "_law_good", "_law_name", "_law_row_here", "_law_kept", "_law_told", "_law_size", "_law_larger", "_law_at", "_law_x"]
theorem sc_law : FnScope n_law ["_law_script"] (defScope s_law) := ⟨rfl, rfl, rfl, by decide +kernel, rfl, by decide +kernel, by decide +kernel⟩
structure Txt (P : Program) (G : Glb) (mg : Str → Option Value) (fa : Nat → Addr) (fd : Nat → FuncData) : Prop where
  tb0 : G.tb = []
  g_GapError : mg "GapError" = some (.ref (G.cl 0))
  g_BadRatio : mg "BadRatio" = some (.ref (G.cl 1))
  d__law_common : DefOk G.K mg "_law_common" s__law_common ["_law_one", "_law_other"] (fa 0) (fd 0)
  d__law_hand : DefOk G.K mg "_law_hand" s__law_hand ["_law_script"] (fa 1) (fd 1)
  d__law_low : DefOk G.K mg "_law_low" s__law_low ["_law_top", "_law_bottom"] (fa 2) (fd 2)
  d__law_mix : DefOk G.K mg "_law_mix" s__law_mix ["_law_number", "_law_turn"] (fa 3) (fd 3)
  d__law_pair : DefOk G.K mg "_law_pair" s__law_pair ["_law_x"] (fa 4) (fd 4)
  d_is_whole : DefOk G.K mg "is_whole" s_is_whole ["thing"] (fa 5) (fd 5)
  d_lowest_terms : DefOk G.K mg "lowest_terms" s_lowest_terms ["top", "bottom"] (fa 6) (fd 6)
  d__law_draw : DefOk G.K mg "_law_draw" s__law_draw ["_law_hand_here", "_law_many"] (fa 7) (fd 7)
  d__law_right : DefOk G.K mg "_law_right" s__law_right ["_law_told", "_law_row_here"] (fa 8) (fd 8)
  d_is_ratio : DefOk G.K mg "is_ratio" s_is_ratio ["thing"] (fa 9) (fd 9)
  d__law_odd : DefOk G.K mg "_law_odd" s__law_odd ["_law_hand_here", "_law_near"] (fa 10) (fd 10)
  d__law_row : DefOk G.K mg "_law_row" s__law_row ["_law_hand_here"] (fa 11) (fd 11)
  d_ratio_of : DefOk G.K mg "ratio_of" s_ratio_of ["thing"] (fa 12) (fd 12)
  d_compare : DefOk G.K mg "compare" s_compare ["one", "other"] (fa 13) (fd 13)
  d_lowest_row : DefOk G.K mg "lowest_row" s_lowest_row ["numbers"] (fa 14) (fd 14)
  d_minus : DefOk G.K mg "minus" s_minus ["one", "other"] (fa 15) (fd 15)
  d_over : DefOk G.K mg "over" s_over ["one", "other"] (fa 16) (fd 16)
  d_plus : DefOk G.K mg "plus" s_plus ["one", "other"] (fa 17) (fd 17)
  d_times : DefOk G.K mg "times" s_times ["one", "other"] (fa 18) (fd 18)
  d__law_refused : DefOk G.K mg "_law_refused" s__law_refused ["_law_name", "_law_one", "_law_other"] (fa 19) (fd 19)
  d_law : DefOk G.K mg "law" s_law ["_law_script"] (fa 20) (fd 20)
  n_ValueError : mg "ValueError" = none
  n_abs : mg "abs" = none
  n_bool : mg "bool" = none
  n_enumerate : mg "enumerate" = none
  n_int : mg "int" = none
  n_isinstance : mg "isinstance" = none
  n_len : mg "len" = none
  n_list : mg "list" = none
  n_range : mg "range" = none
  n_tuple : mg "tuple" = none
  m_gcd : mg "gcd" = some (.builtin "math.gcd")
  m_lcm : mg "lcm" = some (.builtin "math.lcm")
  e_BadRatio : ErrC G mg "BadRatio" 1
  clX_BadRatio : ∀ c b, clX_BadRatio c = some b → PySem.W.exmOne G.K (.ref (G.cl c)) (.ref (G.cl 1)) = some b
  tabX : ∀ c d b, tabX c d = some b → ExcC G.K (G.cl c) ∧ ∃ cv, clsV G d = some cv ∧ PySem.W.kitOne G.K (.ref (G.cl c)) cv = some b
section
variable {P : Program} {w : World} {G : Glb} {mg : Str → Option Value} {base : Heap} {fa : Nat → Addr} {fd : Nat → FuncData}
theorem ok__law_common (T : Txt P G mg fa fd) : FnOk P w G.K mg base (L2N.CX P w) 1 (fa 0) (fd 0) ["_law_one", "_law_other"] (spD G 2 m__law_common) :=
  have h := fnD (P := P) (w := w) (mg := mg) (base := base) (G := G) (N := n__law_common) (ps := ["_law_one", "_law_other"]) (k := 0) (m := b__law_common) (O' := {}) T.d__law_common.F sc__law_common rfl fun cdv A outer s H E c xt =>
    (dss_cons (ds_set 2 sc__law_common.nd (de_callB call_abs cd_abs T.n_abs PyProof.Rows.boot_abs (da_cons (de_var 0) da_nil)))
    (dss_cons (ds_set 3 sc__law_common.nd (de_callB call_abs cd_abs T.n_abs PyProof.Rows.boot_abs (da_cons (de_var 1) da_nil)))
    (dss_cons (ds_while c (dt_tru c.K (de_var 3)) (dss_one (ds_par 2 3 c.calm sc__law_common.nd (da_cons (de_var 3) (da_cons (de_op op_modD opd_mod (de_callTy call_int1 cd_int T.n_int PyProof.Rows.boot_int (da_cons (de_var 2) da_nil)) (de_var 3)) da_nil)))))
    (dss_one (ds_ret (de_var 2))))))
  h
theorem ok__law_hand (T : Txt P G mg fa fd) : FnOk P w G.K mg base (L2N.CX P w) 1 (fa 1) (fd 1) ["_law_script"] (spD G 1 m__law_hand) :=
  have h := fnD (P := P) (w := w) (mg := mg) (base := base) (G := G) (N := n__law_hand) (ps := ["_law_script"]) (k := 0) (m := b__law_hand) (O' := {}) T.d__law_hand.F sc__law_hand rfl fun cdv A outer s H E c xt =>
    (dss_cons (ds_set 1 sc__law_hand.nd de_int)
    (dss_cons (ds_for c (di_enum c.K T.n_enumerate (da_cons (de_var 0) da_nil)) (dg_tup c.calm c.K (dgs_cons (dg_name 2 sc__law_hand.nd) (dgs_cons (dg_name 3 sc__law_hand.nd) dgs_nil)) (gsCons_len (gsCons_len gsNil_len))) (dss_one (ds_set 1 sc__law_hand.nd (de_op op_modD opd_mod (de_callTy call_int1 cd_int T.n_int PyProof.Rows.boot_int (da_cons (de_op op_addD (opd_add c.K) (de_op op_mulD3 (opd_mul c.K) (de_var 1) de_int) (de_op op_mulD3 (opd_mul c.K) (de_callTy call_int1 cd_int T.n_int PyProof.Rows.boot_int (da_cons (de_var 3) da_nil)) (de_op op_addD (opd_add c.K) (de_var 2) de_int))) da_nil)) de_int))))
    (dss_one (ds_ret (de_lst (da_cons (de_lc c sc__law_hand.nd (di_seq c.K (de_var 0)) (blkOk_by (own := [("_law_cell", 3)]) (N := n__law_hand) (sc := defScope s__law_hand) (by decide +kernel)) (fun _ _ _ _ _ => (dg_name 3 sc__law_hand.nd)) (fun _ _ _ _ _ cb => dts_nil) (fun _ _ _ _ _ cb => (de_callB call_abs cd_abs T.n_abs PyProof.Rows.boot_abs (da_cons (de_callTy call_int1 cd_int T.n_int PyProof.Rows.boot_int (da_cons (de_var 3) da_nil)) da_nil)))) (da_cons de_int (da_cons de_int (da_cons (de_var 1) da_nil)))))))))
  h
theorem ok__law_low (T : Txt P G mg fa fd) : FnOk P w G.K mg base (L2N.CX P w) 1 (fa 2) (fd 2) ["_law_top", "_law_bottom"] (spD G 2 m__law_low) :=
  have h := fnD (P := P) (w := w) (mg := mg) (base := base) (G := G) (N := n__law_low) (ps := ["_law_top", "_law_bottom"]) (k := 0) (m := b__law_low) (O' := {}) T.d__law_low.F sc__law_low rfl fun cdv A outer s H E c xt =>
    (dss_cons (ds_set 2 sc__law_low.nd (de_callB call_abs cd_abs T.n_abs PyProof.Rows.boot_abs (da_cons (de_var 0) da_nil)))
    (dss_cons (ds_set 3 sc__law_low.nd (de_callB call_abs cd_abs T.n_abs PyProof.Rows.boot_abs (da_cons (de_var 1) da_nil)))
    (dss_cons (ds_while c (dt_tru c.K (de_var 3)) (dss_one (ds_par 2 3 c.calm sc__law_low.nd (da_cons (de_var 3) (da_cons (de_op op_modD opd_mod (de_callTy call_int1 cd_int T.n_int PyProof.Rows.boot_int (da_cons (de_var 2) da_nil)) (de_var 3)) da_nil)))))
    (dss_cons (ds_if (dt_cmp op_lt opd_lt (de_var 1) de_int) (dss_one (ds_set 2 sc__law_low.nd (de_un un_neg und_neg (de_var 2)))) dss_nil)
    (dss_one (ds_ret (de_tup (da_cons (de_op op_divD opd_div (de_var 0) (de_var 2)) (da_cons (de_op op_divD opd_div (de_var 1) (de_var 2)) da_nil)))))))))
  h
theorem ok__law_mix (T : Txt P G mg fa fd) : FnOk P w G.K mg base (L2N.CX P w) 1 (fa 3) (fd 3) ["_law_number", "_law_turn"] (spD G 2 m__law_mix) :=
  have h := fnD (P := P) (w := w) (mg := mg) (base := base) (G := G) (N := n__law_mix) (ps := ["_law_number", "_law_turn"]) (k := 0) (m := b__law_mix) (O' := {}) T.d__law_mix.F sc__law_mix rfl fun cdv A outer s H E c xt =>
    (dss_cons (ds_set 2 sc__law_mix.nd (de_op op_modD opd_mod (de_callTy call_int1 cd_int T.n_int PyProof.Rows.boot_int (da_cons (de_op op_addD (opd_add c.K) (de_op op_addD (opd_add c.K) (de_op op_mulD3 (opd_mul c.K) (de_var 0) de_int) (de_op op_mulD3 (opd_mul c.K) (de_var 1) de_int)) de_int) da_nil)) de_int))
    (dss_cons (ds_set 3 sc__law_mix.nd (de_op op_modD opd_mod (de_callTy call_int1 cd_int T.n_int PyProof.Rows.boot_int (da_cons (de_op op_addD (opd_add c.K) (de_op op_addD (opd_add c.K) (de_op op_mulD3 (opd_mul c.K) (de_var 2) (de_var 2)) (de_op op_mulD3 (opd_mul c.K) (de_op op_divD opd_div (de_var 2) de_int) de_int)) (de_op op_mulD3 (opd_mul c.K) (de_var 1) de_int)) da_nil)) de_int))
    (dss_one (ds_ret (de_op op_divD opd_div (de_op op_modD opd_mod (de_callTy call_int1 cd_int T.n_int PyProof.Rows.boot_int (da_cons (de_op op_addD (opd_add c.K) (de_op op_divD opd_div (de_op op_mulD3 (opd_mul c.K) (de_var 3) (de_var 3)) de_int) (de_var 2)) da_nil)) de_int) de_int)))))
  h
theorem ok__law_pair (T : Txt P G mg fa fd) : FnOk P w G.K mg base (L2N.CX P w) 1 (fa 4) (fd 4) ["_law_x"] (spD G 1 m__law_pair) :=
  have h := fnD (P := P) (w := w) (mg := mg) (base := base) (G := G) (N := n__law_pair) (ps := ["_law_x"]) (k := 0) (m := b__law_pair) (O' := {}) T.d__law_pair.F sc__law_pair rfl fun cdv A outer s H E c xt =>
    (dss_one (ds_ret (de_if (dt_tru c.K (de_callB (CallR.or call_isi (CallR.or call_isiT call_isiK)) (cd_isi c.K) T.n_isinstance PyProof.Rows.boot_isinstance (da_cons (de_var 0) (da_cons (de_globT "tuple" T.n_tuple boot_tuple) da_nil)))) (de_var 0) (de_tup (da_cons (de_var 0) (da_cons de_int da_nil))))))
  h
theorem ok_is_whole (T : Txt P G mg fa fd) : FnOk P w G.K mg base (L2N.CX P w) 1 (fa 5) (fd 5) ["thing"] (spD G 1 m_is_whole) :=
  have h := fnD (P := P) (w := w) (mg := mg) (base := base) (G := G) (N := n_is_whole) (ps := ["thing"]) (k := 0) (m := b_is_whole) (O' := {}) T.d_is_whole.F sc_is_whole rfl fun cdv A outer s H E c xt =>
    (dss_one (ds_ret (de_and (de_callB (CallR.or call_isi (CallR.or call_isiT call_isiK)) (cd_isi c.K) T.n_isinstance PyProof.Rows.boot_isinstance (da_cons (de_var 0) (da_cons (de_globT "int" T.n_int boot_int) da_nil))) (de_one (de_not (de_callB (CallR.or call_isi (CallR.or call_isiT call_isiK)) (cd_isi c.K) T.n_isinstance PyProof.Rows.boot_isinstance (da_cons (de_var 0) (da_cons (de_globT "bool" T.n_bool (by decide +kernel)) da_nil))))))))
  h
theorem okh_is_whole (T : Txt P G mg fa fd) : L2H.FnH P w G.K mg base (L2N.CX P w) 1 (fa 5) (fd 5) ["thing"] (spN G 1 m_is_whole) :=
  have h := fnDH (P := P) (w := w) (mg := mg) (base := base) (G := G) (N := n_is_whole) (ps := ["thing"]) (k := 0) (m := b_is_whole) (O' := {}) T.d_is_whole.F sc_is_whole rfl fun cdv A outer s H E _ c =>
    (dss_one (ds_ret (de_and (de_callB (CallR.or call_isi (CallR.or call_isiT call_isiK)) (cd_isi c.K) T.n_isinstance PyProof.Rows.boot_isinstance (da_cons (de_var 0) (da_cons (de_globT "int" T.n_int boot_int) da_nil))) (de_one (de_not (de_callB (CallR.or call_isi (CallR.or call_isiT call_isiK)) (cd_isi c.K) T.n_isinstance PyProof.Rows.boot_isinstance (da_cons (de_var 0) (da_cons (de_globT "bool" T.n_bool (by decide +kernel)) da_nil))))))))
  h
theorem ok_lowest_terms (T : Txt P G mg fa fd) : FnOk P w G.K mg base (L2N.CX P w) 1 (fa 6) (fd 6) ["top", "bottom"] (spD G 2 m_lowest_terms) :=
  have h := fnD (P := P) (w := w) (mg := mg) (base := base) (G := G) (N := n_lowest_terms) (ps := ["top", "bottom"]) (k := 0) (m := b_lowest_terms) (O' := {}) T.d_lowest_terms.F sc_lowest_terms rfl fun cdv A outer s H E c xt =>
    (dss_cons (ds_set 2 sc_lowest_terms.nd (de_callG cr_gcd cd_gcd T.m_gcd (da_cons (de_var 0) (da_cons (de_var 1) da_nil))))
    (dss_cons (ds_if (dt_cmp op_lt opd_lt (de_var 1) de_int) (dss_one (ds_set 2 sc_lowest_terms.nd (de_un un_neg und_neg (de_var 2)))) dss_nil)
    (dss_one (ds_ret (de_tup (da_cons (de_op op_divD opd_div (de_var 0) (de_var 2)) (da_cons (de_op op_divD opd_div (de_var 1) (de_var 2)) da_nil)))))))
  h
theorem okh_lowest_terms (T : Txt P G mg fa fd) : L2H.FnH P w G.K mg base (L2N.CX P w) 1 (fa 6) (fd 6) ["top", "bottom"] (spN G 2 m_lowest_terms) :=
  have h := fnDH (P := P) (w := w) (mg := mg) (base := base) (G := G) (N := n_lowest_terms) (ps := ["top", "bottom"]) (k := 0) (m := b_lowest_terms) (O' := {}) T.d_lowest_terms.F sc_lowest_terms rfl fun cdv A outer s H E _ c =>
    (dss_cons (ds_set 2 sc_lowest_terms.nd (de_callG cr_gcd cd_gcd T.m_gcd (da_cons (de_var 0) (da_cons (de_var 1) da_nil))))
    (dss_cons (ds_if (dt_cmp op_lt opd_lt (de_var 1) de_int) (dss_one (ds_set 2 sc_lowest_terms.nd (de_un un_neg und_neg (de_var 2)))) dss_nil)
    (dss_one (ds_ret (de_tup (da_cons (de_op op_divD opd_div (de_var 0) (de_var 2)) (da_cons (de_op op_divD opd_div (de_var 1) (de_var 2)) da_nil)))))))
  h
theorem ok__law_draw (T : Txt P G mg fa fd) : FnOk P w G.K mg base (L2N.CX P w) 2 (fa 7) (fd 7) ["_law_hand_here", "_law_many"] (spD G 2 m__law_draw) :=
  have h := fnD (P := P) (w := w) (mg := mg) (base := base) (G := G) (N := n__law_draw) (ps := ["_law_hand_here", "_law_many"]) (k := 1) (m := b__law_draw) (O' := {}) T.d__law_draw.F sc__law_draw rfl fun cdv A outer s H E c xt =>
    (dss_cons (ds_if (dw_and (dt_cmp (op_eqD c.hr.units) (opd_eq c.K) (de_get c.K (de_var 0) de_int) de_int) (dw_and1 (dt_cmp op_lt opd_lt (de_get c.K (de_var 0) de_int) (de_callB call_len (cd_len c.K) T.n_len PySem.boot_len (da_cons (de_get c.K (de_var 0) de_int) da_nil))))).dt (dss_cons (ds_set 2 sc__law_draw.nd (de_get c.K (de_get c.K (de_var 0) de_int) (de_get c.K (de_var 0) de_int)))
    (dss_cons (ds_put 0 (de_op op_addD (opd_add c.K) (de_get c.K (de_var 0) de_int) de_int))
    (dss_cons (ds_if (dt_cmp op_lt opd_lt (de_var 2) (de_op op_pow opd_pow de_int de_int)) (dss_one (ds_ret (de_op op_modD opd_mod (de_callTy call_int1 cd_int T.n_int PyProof.Rows.boot_int (da_cons (de_call c (ok__law_mix T) T.d__law_mix.g T.d__law_mix.kp T.d__law_mix.b (da_cons (de_op op_modD opd_mod (de_callTy call_int1 cd_int T.n_int PyProof.Rows.boot_int (da_cons (de_var 2) da_nil)) de_int) (da_cons (de_get c.K (de_var 0) de_int) da_nil)) (by decide) (len_cons (len_cons len_nil))) da_nil)) (de_var 1)))) dss_nil)
    (dss_one (ds_put 0 (de_var 2)))))) dss_nil)
    (dss_cons (ds_if (dt_cmp op_gt opd_gt (de_get c.K (de_var 0) de_int) de_int) (dss_cons (ds_set 3 sc__law_draw.nd (de_get c.K (de_var 0) de_int))
    (dss_cons (ds_put 0 (de_op op_divD opd_div (de_var 3) (de_var 1)))
    (dss_one (ds_ret (de_op op_modD opd_mod (de_callTy call_int1 cd_int T.n_int PyProof.Rows.boot_int (da_cons (de_var 3) da_nil)) (de_var 1)))))) dss_nil)
    (dss_cons (ds_put 0 (de_op op_modD opd_mod (de_callTy call_int1 cd_int T.n_int PyProof.Rows.boot_int (da_cons (de_op op_addD (opd_add c.K) (de_get c.K (de_var 0) de_int) de_int) da_nil)) de_int))
    (dss_one (ds_ret (de_op op_modD opd_mod (de_callTy call_int1 cd_int T.n_int PyProof.Rows.boot_int (da_cons (de_call c (ok__law_mix T) T.d__law_mix.g T.d__law_mix.kp T.d__law_mix.b (da_cons (de_get c.K (de_var 0) de_int) (da_cons (de_get c.K (de_var 0) de_int) da_nil)) (by decide) (len_cons (len_cons len_nil))) da_nil)) (de_var 1)))))))
  h
theorem ok__law_right (T : Txt P G mg fa fd) : FnOk P w G.K mg base (L2N.CX P w) 2 (fa 8) (fd 8) ["_law_told", "_law_row_here"] (spD G 2 m__law_right) :=
  have h := fnD (P := P) (w := w) (mg := mg) (base := base) (G := G) (N := n__law_right) (ps := ["_law_told", "_law_row_here"]) (k := 1) (m := b__law_right) (O' := {}) T.d__law_right.F sc__law_right rfl fun cdv A outer s H E c xt =>
    (dss_cons (ds_if (dw_or (dt_not (dt_tru c.K (de_callB (CallR.or call_isi (CallR.or call_isiT call_isiK)) (cd_isi c.K) T.n_isinstance PyProof.Rows.boot_isinstance (da_cons (de_var 0) (da_cons (de_globT "tuple" T.n_tuple boot_tuple) da_nil))))) (dw_or1 (dt_cmp (op_neD c.hr.units) (opd_ne c.K) (de_callB call_len (cd_len c.K) T.n_len PySem.boot_len (da_cons (de_var 0) da_nil)) (de_callB call_len (cd_len c.K) T.n_len PySem.boot_len (da_cons (de_var 1) da_nil))))).dt (dss_one (ds_ret de_bl)) dss_nil)
    (dss_cons (ds_set 2 sc__law_right.nd de_int)
    (dss_cons (ds_for c (di_range1 T.n_range (da_cons (de_callB call_len (cd_len c.K) T.n_len PySem.boot_len (da_cons (de_var 1) da_nil)) da_nil)) (dg_name 3 sc__law_right.nd) (dss_cons (ds_if (dw_or (dt_not (dt_tru c.K (de_callB (CallR.or call_isi (CallR.or call_isiT call_isiK)) (cd_isi c.K) T.n_isinstance PyProof.Rows.boot_isinstance (da_cons (de_get c.K (de_var 0) (de_var 3)) (da_cons (de_globT "int" T.n_int boot_int) da_nil))))) (dw_or1 (dt_tru c.K (de_callB (CallR.or call_isi (CallR.or call_isiT call_isiK)) (cd_isi c.K) T.n_isinstance PyProof.Rows.boot_isinstance (da_cons (de_get c.K (de_var 0) (de_var 3)) (da_cons (de_globT "bool" T.n_bool (by decide +kernel)) da_nil)))))).dt (dss_one (ds_ret de_bl)) dss_nil)
    (dss_cons (ds_set 2 sc__law_right.nd (de_call c (ok__law_common T) T.d__law_common.g T.d__law_common.kp T.d__law_common.b (da_cons (de_var 2) (da_cons (de_get c.K (de_var 0) (de_var 3)) da_nil)) (by decide) (len_cons (len_cons len_nil))))
    (dss_cons (ds_if (dw_or (dt_cmp op_lt opd_lt (de_op op_mulD3 (opd_mul c.K) (de_get c.K (de_var 0) (de_var 3)) (de_get c.K (de_call c (ok__law_pair T) T.d__law_pair.g T.d__law_pair.kp T.d__law_pair.b (da_cons (de_get c.K (de_var 1) (de_var 3)) da_nil) (by decide) (len_cons len_nil)) de_int)) de_int) (dw_or1 (dt_cmp (op_neD c.hr.units) (opd_ne c.K) (de_cmp (op_eqD c.hr.units) (opd_eq c.K) (de_get c.K (de_var 0) (de_var 3)) de_int) (de_cmp (op_eqD c.hr.units) (opd_eq c.K) (de_get c.K (de_call c (ok__law_pair T) T.d__law_pair.g T.d__law_pair.kp T.d__law_pair.b (da_cons (de_get c.K (de_var 1) (de_var 3)) da_nil) (by decide) (len_cons len_nil)) de_int) de_int)))).dt (dss_one (ds_ret de_bl)) dss_nil)
    (dss_one (ds_for c (di_range1 T.n_range (da_cons (de_var 3) da_nil)) (dg_name 4 sc__law_right.nd) (dss_cons (ds_set 5 sc__law_right.nd (de_call c (ok__law_pair T) T.d__law_pair.g T.d__law_pair.kp T.d__law_pair.b (da_cons (de_get c.K (de_var 1) (de_var 3)) da_nil) (by decide) (len_cons len_nil)))
    (dss_cons (ds_set 6 sc__law_right.nd (de_call c (ok__law_pair T) T.d__law_pair.g T.d__law_pair.kp T.d__law_pair.b (da_cons (de_get c.K (de_var 1) (de_var 4)) da_nil) (by decide) (len_cons len_nil)))
    (dss_one (ds_if (dt_cmp (op_neD c.hr.units) (opd_ne c.K) (de_op op_mulD3 (opd_mul c.K) (de_op op_mulD3 (opd_mul c.K) (de_get c.K (de_var 0) (de_var 3)) (de_get c.K (de_var 6) de_int)) (de_get c.K (de_var 5) de_int)) (de_op op_mulD3 (opd_mul c.K) (de_op op_mulD3 (opd_mul c.K) (de_get c.K (de_var 0) (de_var 4)) (de_get c.K (de_var 5) de_int)) (de_get c.K (de_var 6) de_int))) (dss_one (ds_ret de_bl)) dss_nil))))))))))
    (dss_one (ds_ret (de_cmp op_le opd_le (de_var 2) de_int))))))
  h
theorem ok_is_ratio (T : Txt P G mg fa fd) : FnOk P w G.K mg base (L2N.CX P w) 2 (fa 9) (fd 9) ["thing"] (spD G 1 m_is_ratio) :=
  have h := fnD (P := P) (w := w) (mg := mg) (base := base) (G := G) (N := n_is_ratio) (ps := ["thing"]) (k := 1) (m := b_is_ratio) (O' := {}) T.d_is_ratio.F sc_is_ratio rfl fun cdv A outer s H E c xt =>
    (dss_cons (ds_if (dt_tru c.K (de_callB (CallR.or call_isi (CallR.or call_isiT call_isiK)) (cd_isi c.K) T.n_isinstance PyProof.Rows.boot_isinstance (da_cons (de_var 0) (da_cons (de_globT "tuple" T.n_tuple boot_tuple) da_nil)))) (dss_one (ds_ret (de_and (de_cmp (op_eqD c.hr.units) (opd_eq c.K) (de_callB call_len (cd_len c.K) T.n_len PySem.boot_len (da_cons (de_var 0) da_nil)) de_int) (de_and (de_call c (ok_is_whole T) T.d_is_whole.g T.d_is_whole.kp T.d_is_whole.b (da_cons (de_get c.K (de_var 0) de_int) da_nil) (by decide) (len_cons len_nil)) (de_and (de_call c (ok_is_whole T) T.d_is_whole.g T.d_is_whole.kp T.d_is_whole.b (da_cons (de_get c.K (de_var 0) de_int) da_nil) (by decide) (len_cons len_nil)) (de_one (de_cmp op_gt opd_gt (de_get c.K (de_var 0) de_int) de_int))))))) dss_nil)
    (dss_one (ds_ret (de_call c (ok_is_whole T) T.d_is_whole.g T.d_is_whole.kp T.d_is_whole.b (da_cons (de_var 0) da_nil) (by decide) (len_cons len_nil)))))
  h
theorem okh_is_ratio (T : Txt P G mg fa fd) : L2H.FnH P w G.K mg base (L2N.CX P w) 2 (fa 9) (fd 9) ["thing"] (spN G 1 m_is_ratio) :=
  have h := fnDH (P := P) (w := w) (mg := mg) (base := base) (G := G) (N := n_is_ratio) (ps := ["thing"]) (k := 1) (m := b_is_ratio) (O' := {}) T.d_is_ratio.F sc_is_ratio rfl fun cdv A outer s H E _ c =>
    (dss_cons (ds_if (dt_tru c.K (de_callB (CallR.or call_isi (CallR.or call_isiT call_isiK)) (cd_isi c.K) T.n_isinstance PyProof.Rows.boot_isinstance (da_cons (de_var 0) (da_cons (de_globT "tuple" T.n_tuple boot_tuple) da_nil)))) (dss_one (ds_ret (de_and (de_cmp (op_eqD c.units) (opd_eq c.K) (de_callB call_len (cd_len c.K) T.n_len PySem.boot_len (da_cons (de_var 0) da_nil)) de_int) (de_and (de_callH c (okh_is_whole T) T.d_is_whole.g T.d_is_whole.kp T.d_is_whole.b (da_cons (de_get c.K (de_var 0) de_int) da_nil) (by decide) (len_cons len_nil)) (de_and (de_callH c (okh_is_whole T) T.d_is_whole.g T.d_is_whole.kp T.d_is_whole.b (da_cons (de_get c.K (de_var 0) de_int) da_nil) (by decide) (len_cons len_nil)) (de_one (de_cmp op_gt opd_gt (de_get c.K (de_var 0) de_int) de_int))))))) dss_nil)
    (dss_one (ds_ret (de_callH c (okh_is_whole T) T.d_is_whole.g T.d_is_whole.kp T.d_is_whole.b (da_cons (de_var 0) da_nil) (by decide) (len_cons len_nil)))))
  h
theorem ok__law_odd (T : Txt P G mg fa fd) : FnOk P w G.K mg base (L2N.CX P w) 3 (fa 10) (fd 10) ["_law_hand_here", "_law_near"] (spD G 2 m__law_odd) :=
  have h := fnD (P := P) (w := w) (mg := mg) (base := base) (G := G) (N := n__law_odd) (ps := ["_law_hand_here", "_law_near"]) (k := 2) (m := b__law_odd) (O' := {}) T.d__law_odd.F sc__law_odd rfl fun cdv A outer s H E c xt =>
    (dss_cons (ds_set 2 sc__law_odd.nd (de_call c (ok__law_draw T) T.d__law_draw.g T.d__law_draw.kp T.d__law_draw.b (da_cons (de_var 0) (da_cons de_int da_nil)) (by decide) (len_cons (len_cons len_nil))))
    (dss_cons (ds_set 3 sc__law_odd.nd (de_lst (da_cons de_non (da_cons de_bl (da_cons de_bl (da_cons de_str (da_cons (de_lst (da_cons (de_var 1) (da_cons (de_var 1) da_nil))) (da_cons (de_tup (da_cons (de_var 1) da_nil)) (da_cons (de_tup (da_cons (de_var 1) (da_cons (de_var 1) (da_cons (de_var 1) da_nil)))) (da_cons (de_tup (da_cons (de_var 1) (da_cons de_int da_nil))) (da_cons (de_tup (da_cons (de_var 1) (da_cons (de_un un_neg und_neg (de_var 1)) da_nil))) (da_cons (de_tup (da_cons de_bl (da_cons (de_var 1) da_nil))) da_nil))))))))))))
    (dss_cons (ds_set 3 sc__law_odd.nd (de_op op_addD (opd_add c.K) (de_var 3) (de_lst (da_cons (de_tup (da_cons (de_var 1) (da_cons de_bl da_nil))) (da_cons (de_tup (da_cons (de_var 1) (da_cons de_str da_nil))) (da_cons (de_tup (da_cons (de_tup (da_cons (de_var 1) (da_cons de_int da_nil))) (da_cons de_int da_nil))) (da_cons (de_tup da_nil) da_nil)))))))
    (dss_one (ds_ret (de_get c.K (de_var 3) (de_var 2)))))))
  h
theorem ok__law_row (T : Txt P G mg fa fd) : FnOk P w G.K mg base (L2N.CX P w) 3 (fa 11) (fd 11) ["_law_hand_here"] (spD G 1 m__law_row) :=
  have h := fnD (P := P) (w := w) (mg := mg) (base := base) (G := G) (N := n__law_row) (ps := ["_law_hand_here"]) (k := 2) (m := b__law_row) (O' := {}) T.d__law_row.F sc__law_row rfl fun cdv A outer s H E c xt =>
    (dss_cons (ds_own 1 sc__law_row.nd (df_lst da_nil))
    (dss_cons (ds_for c (di_range1 T.n_range (da_cons (de_call c (ok__law_draw T) T.d__law_draw.g T.d__law_draw.kp T.d__law_draw.b (da_cons (de_var 0) (da_cons de_int da_nil)) (by decide) (len_cons (len_cons len_nil))) da_nil)) (dg_name 2 sc__law_row.nd) (dss_cons (ds_set 3 sc__law_row.nd (de_if (dt_cmp (op_eqD c.hr.units) (opd_eq c.K) (de_call c (ok__law_draw T) T.d__law_draw.g T.d__law_draw.kp T.d__law_draw.b (da_cons (de_var 0) (da_cons de_int da_nil)) (by decide) (len_cons (len_cons len_nil))) de_int) de_int (de_op op_pow opd_pow de_int de_int)))
    (dss_cons (ds_set 4 sc__law_row.nd (de_op op_sub opd_sub (de_call c (ok__law_draw T) T.d__law_draw.g T.d__law_draw.kp T.d__law_draw.b (da_cons (de_var 0) (da_cons (de_op op_addD (opd_add c.K) (de_op op_mulD3 (opd_mul c.K) de_int (de_var 3)) de_int) da_nil)) (by decide) (len_cons (len_cons len_nil))) (de_var 3)))
    (dss_one (ds_push 1 (de_if (dt_cmp (op_eqD c.hr.units) (opd_eq c.K) (de_call c (ok__law_draw T) T.d__law_draw.g T.d__law_draw.kp T.d__law_draw.b (da_cons (de_var 0) (da_cons de_int da_nil)) (by decide) (len_cons (len_cons len_nil))) de_int) (de_var 4) (de_call c (ok__law_low T) T.d__law_low.g T.d__law_low.kp T.d__law_low.b (da_cons (de_var 4) (da_cons (de_op op_addD (opd_add c.K) de_int (de_call c (ok__law_draw T) T.d__law_draw.g T.d__law_draw.kp T.d__law_draw.b (da_cons (de_var 0) (da_cons (de_var 3) da_nil)) (by decide) (len_cons (len_cons len_nil)))) da_nil)) (by decide) (len_cons (len_cons len_nil)))))))))
    (dss_freeze 1 (dss_one (ds_ret (de_var 1))))))
  h
theorem ok_ratio_of (T : Txt P G mg fa fd) : FnOk P w G.K mg base (L2N.CX P w) 3 (fa 12) (fd 12) ["thing"] (spD G 1 m_ratio_of) :=
  have h := fnD (P := P) (w := w) (mg := mg) (base := base) (G := G) (N := n_ratio_of) (ps := ["thing"]) (k := 2) (m := b_ratio_of) (O' := {}) T.d_ratio_of.F sc_ratio_of rfl fun cdv A outer s H E c xt =>
    (dss_cons (ds_if (dt_not (dt_tru c.K (de_call c (ok_is_ratio T) T.d_is_ratio.g T.d_is_ratio.kp T.d_is_ratio.b (da_cons (de_var 0) da_nil) (by decide) (len_cons len_nil)))) (dss_one (ds_raise0 c T.e_BadRatio)) dss_nil)
    (dss_cons (ds_if (dt_not (dt_tru c.K (de_callB (CallR.or call_isi (CallR.or call_isiT call_isiK)) (cd_isi c.K) T.n_isinstance PyProof.Rows.boot_isinstance (da_cons (de_var 0) (da_cons (de_globT "tuple" T.n_tuple boot_tuple) da_nil))))) (dss_one (ds_ret (de_tup (da_cons (de_var 0) (da_cons de_int da_nil))))) dss_nil)
    (dss_one (ds_ret (de_call c (ok_lowest_terms T) T.d_lowest_terms.g T.d_lowest_terms.kp T.d_lowest_terms.b (da_cons (de_get c.K (de_var 0) de_int) (da_cons (de_get c.K (de_var 0) de_int) da_nil)) (by decide) (len_cons (len_cons len_nil)))))))
  h
theorem okh_ratio_of (T : Txt P G mg fa fd) : L2H.FnH P w G.K mg base (L2N.CX P w) 3 (fa 12) (fd 12) ["thing"] (spN G 1 m_ratio_of) :=
  have h := fnDH (P := P) (w := w) (mg := mg) (base := base) (G := G) (N := n_ratio_of) (ps := ["thing"]) (k := 2) (m := b_ratio_of) (O' := {}) T.d_ratio_of.F sc_ratio_of rfl fun cdv A outer s H E _ c =>
    (dss_cons (ds_if (dt_not (dt_tru c.K (de_callH c (okh_is_ratio T) T.d_is_ratio.g T.d_is_ratio.kp T.d_is_ratio.b (da_cons (de_var 0) da_nil) (by decide) (len_cons len_nil)))) (dss_one (ds_raise0H)) dss_nil)
    (dss_cons (ds_if (dt_not (dt_tru c.K (de_callB (CallR.or call_isi (CallR.or call_isiT call_isiK)) (cd_isi c.K) T.n_isinstance PyProof.Rows.boot_isinstance (da_cons (de_var 0) (da_cons (de_globT "tuple" T.n_tuple boot_tuple) da_nil))))) (dss_one (ds_ret (de_tup (da_cons (de_var 0) (da_cons de_int da_nil))))) dss_nil)
    (dss_one (ds_ret (de_callH c (okh_lowest_terms T) T.d_lowest_terms.g T.d_lowest_terms.kp T.d_lowest_terms.b (da_cons (de_get c.K (de_var 0) de_int) (da_cons (de_get c.K (de_var 0) de_int) da_nil)) (by decide) (len_cons (len_cons len_nil)))))))
  h
theorem ok_compare (T : Txt P G mg fa fd) : FnOk P w G.K mg base (L2N.CX P w) 4 (fa 13) (fd 13) ["one", "other"] (spD G 2 m_compare) :=
  have h := fnD (P := P) (w := w) (mg := mg) (base := base) (G := G) (N := n_compare) (ps := ["one", "other"]) (k := 3) (m := b_compare) (O' := {}) T.d_compare.F sc_compare rfl fun cdv A outer s H E c xt =>
    (dss_cons (ds_asg (de_call c (ok_ratio_of T) T.d_ratio_of.g T.d_ratio_of.kp T.d_ratio_of.b (da_cons (de_var 0) da_nil) (by decide) (len_cons len_nil)) (dg_tup c.calm c.K (dgs_cons (dg_name 2 sc_compare.nd) (dgs_cons (dg_name 3 sc_compare.nd) dgs_nil)) (gsCons_len (gsCons_len gsNil_len))))
    (dss_cons (ds_asg (de_call c (ok_ratio_of T) T.d_ratio_of.g T.d_ratio_of.kp T.d_ratio_of.b (da_cons (de_var 1) da_nil) (by decide) (len_cons len_nil)) (dg_tup c.calm c.K (dgs_cons (dg_name 4 sc_compare.nd) (dgs_cons (dg_name 5 sc_compare.nd) dgs_nil)) (gsCons_len (gsCons_len gsNil_len))))
    (dss_cons (ds_set 6 sc_compare.nd (de_op op_mulD3 (opd_mul c.K) (de_var 2) (de_var 5)))
    (dss_cons (ds_set 7 sc_compare.nd (de_op op_mulD3 (opd_mul c.K) (de_var 4) (de_var 3)))
    (dss_cons (ds_if (dt_cmp op_lt opd_lt (de_var 6) (de_var 7)) (dss_one (ds_ret (de_un un_neg und_neg de_int))) dss_nil)
    (dss_one (ds_ret (de_if (dt_cmp op_gt opd_gt (de_var 6) (de_var 7)) de_int de_int))))))))
  h
theorem ok_lowest_row (T : Txt P G mg fa fd) : FnOk P w G.K mg base (L2N.CX P w) 4 (fa 14) (fd 14) ["numbers"] (spD G 1 m_lowest_row) :=
  have h := fnD (P := P) (w := w) (mg := mg) (base := base) (G := G) (N := n_lowest_row) (ps := ["numbers"]) (k := 3) (m := b_lowest_row) (O' := {}) T.d_lowest_row.F sc_lowest_row rfl fun cdv A outer s H E c xt =>
    (dss_cons (ds_setLcX 1 c xt (fun _ _ _ _ _ h => h) sc_lowest_row.nd (di_seq c.K (de_var 0)) (blkOk_by (own := [("number", 3)]) (N := n_lowest_row) (sc := defScope s_lowest_row) (by decide +kernel)) (sw_true rfl rfl rfl (by decide +kernel)) (fun _ _ _ _ _ => (dg_name 3 sc_lowest_row.nd)) (fun _ _ _ _ _ => dts_nil) (fun _ _ _ _ _ cb => (de_call cb (ok_ratio_of T) T.d_ratio_of.g T.d_ratio_of.kp T.d_ratio_of.b (da_cons (de_var 3) da_nil) (by decide) (len_cons len_nil))))
    (dss_cons (ds_set 2 sc_lowest_row.nd de_int)
    (dss_cons (ds_for c (di_seq c.K (de_var 1)) (dg_name 3 sc_lowest_row.nd) (dss_one (ds_set 2 sc_lowest_row.nd (de_callG cr_lcm cd_lcm T.m_lcm (da_cons (de_var 2) (da_cons (de_get c.K (de_var 3) de_int) da_nil))))))
    (dss_cons (ds_setLc 4 c sc_lowest_row.nd (di_seq c.K (de_var 1)) (blkOk_by (own := [("number", 3)]) (N := n_lowest_row) (sc := defScope s_lowest_row) (by decide +kernel)) (sw_true rfl rfl rfl (by decide +kernel)) (fun _ _ _ _ _ => (dg_name 3 sc_lowest_row.nd)) (fun _ _ _ _ _ cb => dts_nil) (fun _ _ _ _ _ cb => (de_op op_mulD3 (opd_mul cb.K) (de_get cb.K (de_var 3) de_int) (de_op op_divD opd_div (de_var 2) (de_get cb.K (de_var 3) de_int)))))
    (dss_cons (ds_set 5 sc_lowest_row.nd de_int)
    (dss_cons (ds_for c (di_seq c.K (de_var 4)) (dg_name 6 sc_lowest_row.nd) (dss_one (ds_set 5 sc_lowest_row.nd (de_callG cr_gcd cd_gcd T.m_gcd (da_cons (de_var 5) (da_cons (de_var 6) da_nil))))))
    (dss_cons (ds_if (dt_cmp (op_eqD c.hr.units) (opd_eq c.K) (de_var 5) de_int) (dss_one (ds_ret (de_callTy call_tuple_of (cd_tuple c.K) T.n_tuple PyProof.Rows.boot_tuple (da_cons (de_var 4) da_nil)))) dss_nil)
    (dss_one (ds_ret (de_callTy call_tuple_of (cd_tuple c.K) T.n_tuple PyProof.Rows.boot_tuple (da_cons (de_lc c sc_lowest_row.nd (di_seq c.K (de_var 4)) (blkOk_by (own := [("top", 6)]) (N := n_lowest_row) (sc := defScope s_lowest_row) (by decide +kernel)) (fun _ _ _ _ _ => (dg_name 6 sc_lowest_row.nd)) (fun _ _ _ _ _ cb => dts_nil) (fun _ _ _ _ _ cb => (de_op op_divD opd_div (de_var 6) (de_var 5)))) da_nil)))))))))))
  h
theorem okh_lowest_row (T : Txt P G mg fa fd) : L2H.FnH P w G.K mg base (L2N.CX P w) 4 (fa 14) (fd 14) ["numbers"] (spN G 1 m_lowest_row) :=
  have h := fnDH (P := P) (w := w) (mg := mg) (base := base) (G := G) (N := n_lowest_row) (ps := ["numbers"]) (k := 3) (m := b_lowest_row) (O' := {}) T.d_lowest_row.F sc_lowest_row rfl fun cdv A outer s H E _ c =>
    (dss_cons (ds_setLcXH 1 c sc_lowest_row.nd (di_seqH c.K (de_var 0)) (blkOk_by (own := [("number", 3)]) (N := n_lowest_row) (sc := defScope s_lowest_row) (by decide +kernel)) (sw_true rfl rfl rfl (by decide +kernel)) (fun _ _ _ _ _ _ => (dg_name 3 sc_lowest_row.nd)) (fun _ _ _ _ _ _ => dts_nil) (fun _ _ _ _ _ _ cb => (de_callH cb (okh_ratio_of T) T.d_ratio_of.g T.d_ratio_of.kp T.d_ratio_of.b (da_cons (de_var 3) da_nil) (by decide) (len_cons len_nil))))
    (dss_cons (ds_set 2 sc_lowest_row.nd de_int)
    (dss_cons (ds_forH c (di_seqH c.K (de_var 1)) (dg_name 3 sc_lowest_row.nd) (dss_one (ds_set 2 sc_lowest_row.nd (de_callG cr_lcm cd_lcm T.m_lcm (da_cons (de_var 2) (da_cons (de_get c.K (de_var 3) de_int) da_nil))))))
    (dss_cons (ds_setLcH 4 c sc_lowest_row.nd (di_seqH c.K (de_var 1)) (blkOk_by (own := [("number", 3)]) (N := n_lowest_row) (sc := defScope s_lowest_row) (by decide +kernel)) (sw_true rfl rfl rfl (by decide +kernel)) (fun _ _ _ _ _ _ => (dg_name 3 sc_lowest_row.nd)) (fun _ _ _ _ _ _ cb => dts_nil) (fun _ _ _ _ _ _ cb => (de_op op_mulD3 (opd_mul cb.K) (de_get cb.K (de_var 3) de_int) (de_op op_divD opd_div (de_var 2) (de_get cb.K (de_var 3) de_int)))))
    (dss_cons (ds_set 5 sc_lowest_row.nd de_int)
    (dss_cons (ds_forH c (di_seqH c.K (de_var 4)) (dg_name 6 sc_lowest_row.nd) (dss_one (ds_set 5 sc_lowest_row.nd (de_callG cr_gcd cd_gcd T.m_gcd (da_cons (de_var 5) (da_cons (de_var 6) da_nil))))))
    (dss_cons (ds_if (dt_cmp (op_eqD c.units) (opd_eq c.K) (de_var 5) de_int) (dss_one (ds_ret (de_callTy call_tuple_of (cd_tuple c.K) T.n_tuple PyProof.Rows.boot_tuple (da_cons (de_var 4) da_nil)))) dss_nil)
    (dss_one (ds_ret (de_callTy call_tuple_of (cd_tuple c.K) T.n_tuple PyProof.Rows.boot_tuple (da_cons (de_lcH c sc_lowest_row.nd (di_seqH c.K (de_var 4)) (blkOk_by (own := [("top", 6)]) (N := n_lowest_row) (sc := defScope s_lowest_row) (by decide +kernel)) (fun _ _ _ _ _ _ => (dg_name 6 sc_lowest_row.nd)) (fun _ _ _ _ _ _ cb => dts_nil) (fun _ _ _ _ _ _ cb => (de_op op_divD opd_div (de_var 6) (de_var 5)))) da_nil)))))))))))
  h
theorem ok_minus (T : Txt P G mg fa fd) : FnOk P w G.K mg base (L2N.CX P w) 4 (fa 15) (fd 15) ["one", "other"] (spD G 2 m_minus) :=
  have h := fnD (P := P) (w := w) (mg := mg) (base := base) (G := G) (N := n_minus) (ps := ["one", "other"]) (k := 3) (m := b_minus) (O' := {}) T.d_minus.F sc_minus rfl fun cdv A outer s H E c xt =>
    (dss_cons (ds_asg (de_call c (ok_ratio_of T) T.d_ratio_of.g T.d_ratio_of.kp T.d_ratio_of.b (da_cons (de_var 0) da_nil) (by decide) (len_cons len_nil)) (dg_tup c.calm c.K (dgs_cons (dg_name 2 sc_minus.nd) (dgs_cons (dg_name 3 sc_minus.nd) dgs_nil)) (gsCons_len (gsCons_len gsNil_len))))
    (dss_cons (ds_asg (de_call c (ok_ratio_of T) T.d_ratio_of.g T.d_ratio_of.kp T.d_ratio_of.b (da_cons (de_var 1) da_nil) (by decide) (len_cons len_nil)) (dg_tup c.calm c.K (dgs_cons (dg_name 4 sc_minus.nd) (dgs_cons (dg_name 5 sc_minus.nd) dgs_nil)) (gsCons_len (gsCons_len gsNil_len))))
    (dss_one (ds_ret (de_call c (ok_lowest_terms T) T.d_lowest_terms.g T.d_lowest_terms.kp T.d_lowest_terms.b (da_cons (de_op op_sub opd_sub (de_op op_mulD3 (opd_mul c.K) (de_var 2) (de_var 5)) (de_op op_mulD3 (opd_mul c.K) (de_var 4) (de_var 3))) (da_cons (de_op op_mulD3 (opd_mul c.K) (de_var 3) (de_var 5)) da_nil)) (by decide) (len_cons (len_cons len_nil)))))))
  h
theorem ok_over (T : Txt P G mg fa fd) : FnOk P w G.K mg base (L2N.CX P w) 4 (fa 16) (fd 16) ["one", "other"] (spD G 2 m_over) :=
  have h := fnD (P := P) (w := w) (mg := mg) (base := base) (G := G) (N := n_over) (ps := ["one", "other"]) (k := 3) (m := b_over) (O' := {}) T.d_over.F sc_over rfl fun cdv A outer s H E c xt =>
    (dss_cons (ds_asg (de_call c (ok_ratio_of T) T.d_ratio_of.g T.d_ratio_of.kp T.d_ratio_of.b (da_cons (de_var 0) da_nil) (by decide) (len_cons len_nil)) (dg_tup c.calm c.K (dgs_cons (dg_name 2 sc_over.nd) (dgs_cons (dg_name 3 sc_over.nd) dgs_nil)) (gsCons_len (gsCons_len gsNil_len))))
    (dss_cons (ds_asg (de_call c (ok_ratio_of T) T.d_ratio_of.g T.d_ratio_of.kp T.d_ratio_of.b (da_cons (de_var 1) da_nil) (by decide) (len_cons len_nil)) (dg_tup c.calm c.K (dgs_cons (dg_name 4 sc_over.nd) (dgs_cons (dg_name 5 sc_over.nd) dgs_nil)) (gsCons_len (gsCons_len gsNil_len))))
    (dss_cons (ds_if (dt_cmp (op_eqD c.hr.units) (opd_eq c.K) (de_var 4) de_int) (dss_one (ds_raise0 c T.e_BadRatio)) dss_nil)
    (dss_one (ds_ret (de_call c (ok_lowest_terms T) T.d_lowest_terms.g T.d_lowest_terms.kp T.d_lowest_terms.b (da_cons (de_op op_mulD3 (opd_mul c.K) (de_var 2) (de_var 5)) (da_cons (de_op op_mulD3 (opd_mul c.K) (de_var 3) (de_var 4)) da_nil)) (by decide) (len_cons (len_cons len_nil))))))))
  h
theorem ok_plus (T : Txt P G mg fa fd) : FnOk P w G.K mg base (L2N.CX P w) 4 (fa 17) (fd 17) ["one", "other"] (spD G 2 m_plus) :=
  have h := fnD (P := P) (w := w) (mg := mg) (base := base) (G := G) (N := n_plus) (ps := ["one", "other"]) (k := 3) (m := b_plus) (O' := {}) T.d_plus.F sc_plus rfl fun cdv A outer s H E c xt =>
    (dss_cons (ds_asg (de_call c (ok_ratio_of T) T.d_ratio_of.g T.d_ratio_of.kp T.d_ratio_of.b (da_cons (de_var 0) da_nil) (by decide) (len_cons len_nil)) (dg_tup c.calm c.K (dgs_cons (dg_name 2 sc_plus.nd) (dgs_cons (dg_name 3 sc_plus.nd) dgs_nil)) (gsCons_len (gsCons_len gsNil_len))))
    (dss_cons (ds_asg (de_call c (ok_ratio_of T) T.d_ratio_of.g T.d_ratio_of.kp T.d_ratio_of.b (da_cons (de_var 1) da_nil) (by decide) (len_cons len_nil)) (dg_tup c.calm c.K (dgs_cons (dg_name 4 sc_plus.nd) (dgs_cons (dg_name 5 sc_plus.nd) dgs_nil)) (gsCons_len (gsCons_len gsNil_len))))
    (dss_one (ds_ret (de_call c (ok_lowest_terms T) T.d_lowest_terms.g T.d_lowest_terms.kp T.d_lowest_terms.b (da_cons (de_op op_addD (opd_add c.K) (de_op op_mulD3 (opd_mul c.K) (de_var 2) (de_var 5)) (de_op op_mulD3 (opd_mul c.K) (de_var 4) (de_var 3))) (da_cons (de_op op_mulD3 (opd_mul c.K) (de_var 3) (de_var 5)) da_nil)) (by decide) (len_cons (len_cons len_nil)))))))
  h
theorem ok_times (T : Txt P G mg fa fd) : FnOk P w G.K mg base (L2N.CX P w) 4 (fa 18) (fd 18) ["one", "other"] (spD G 2 m_times) :=
  have h := fnD (P := P) (w := w) (mg := mg) (base := base) (G := G) (N := n_times) (ps := ["one", "other"]) (k := 3) (m := b_times) (O' := {}) T.d_times.F sc_times rfl fun cdv A outer s H E c xt =>
    (dss_cons (ds_asg (de_call c (ok_ratio_of T) T.d_ratio_of.g T.d_ratio_of.kp T.d_ratio_of.b (da_cons (de_var 0) da_nil) (by decide) (len_cons len_nil)) (dg_tup c.calm c.K (dgs_cons (dg_name 2 sc_times.nd) (dgs_cons (dg_name 3 sc_times.nd) dgs_nil)) (gsCons_len (gsCons_len gsNil_len))))
    (dss_cons (ds_asg (de_call c (ok_ratio_of T) T.d_ratio_of.g T.d_ratio_of.kp T.d_ratio_of.b (da_cons (de_var 1) da_nil) (by decide) (len_cons len_nil)) (dg_tup c.calm c.K (dgs_cons (dg_name 4 sc_times.nd) (dgs_cons (dg_name 5 sc_times.nd) dgs_nil)) (gsCons_len (gsCons_len gsNil_len))))
    (dss_one (ds_ret (de_call c (ok_lowest_terms T) T.d_lowest_terms.g T.d_lowest_terms.kp T.d_lowest_terms.b (da_cons (de_op op_mulD3 (opd_mul c.K) (de_var 2) (de_var 4)) (da_cons (de_op op_mulD3 (opd_mul c.K) (de_var 3) (de_var 5)) da_nil)) (by decide) (len_cons (len_cons len_nil)))))))
  h
theorem ok__law_refused (T : Txt P G mg fa fd) : FnOk P w G.K mg base (L2N.CX P w) 5 (fa 19) (fd 19) ["_law_name", "_law_one", "_law_other"] (spD G 3 m__law_refused) :=
  have h := fnD (P := P) (w := w) (mg := mg) (base := base) (G := G) (N := n__law_refused) (ps := ["_law_name", "_law_one", "_law_other"]) (k := 4) (m := b__law_refused) (O' := {}) T.d__law_refused.F sc__law_refused rfl fun cdv A outer s H E c xt =>
    (dss_cons (ds_try_as 3 clX_BadRatio c xt sc__law_refused.nd ⟨rfl, by decide, .inl T.g_BadRatio⟩ T.clX_BadRatio (fun _ _ _ ct xtt => (dss_one (ds_if (dt_cmp (op_eqD ct.hr.units) (opd_eq ct.K) (de_var 0) de_str) (dss_one (ds_expr (de_call ct (ok_ratio_of T) T.d_ratio_of.g T.d_ratio_of.kp T.d_ratio_of.b (da_cons (de_var 1) da_nil) (by decide) (len_cons len_nil)))) (dss_one (ds_if (dt_cmp (op_eqD ct.hr.units) (opd_eq ct.K) (de_var 0) de_str) (dss_one (ds_expr (de_call ct (ok_plus T) T.d_plus.g T.d_plus.kp T.d_plus.b (da_cons (de_var 1) (da_cons (de_var 2) da_nil)) (by decide) (len_cons (len_cons len_nil))))) (dss_one (ds_if (dt_cmp (op_eqD ct.hr.units) (opd_eq ct.K) (de_var 0) de_str) (dss_one (ds_expr (de_call ct (ok_minus T) T.d_minus.g T.d_minus.kp T.d_minus.b (da_cons (de_var 1) (da_cons (de_var 2) da_nil)) (by decide) (len_cons (len_cons len_nil))))) (dss_one (ds_if (dt_cmp (op_eqD ct.hr.units) (opd_eq ct.K) (de_var 0) de_str) (dss_one (ds_expr (de_call ct (ok_times T) T.d_times.g T.d_times.kp T.d_times.b (da_cons (de_var 1) (da_cons (de_var 2) da_nil)) (by decide) (len_cons (len_cons len_nil))))) (dss_one (ds_if (dt_cmp (op_eqD ct.hr.units) (opd_eq ct.K) (de_var 0) de_str) (dss_one (ds_expr (de_call ct (ok_over T) T.d_over.g T.d_over.kp T.d_over.b (da_cons (de_var 1) (da_cons (de_var 2) da_nil)) (by decide) (len_cons (len_cons len_nil))))) (dss_one (ds_if (dt_cmp (op_eqD ct.hr.units) (opd_eq ct.K) (de_var 0) de_str) (dss_one (ds_expr (de_call ct (ok_compare T) T.d_compare.g T.d_compare.kp T.d_compare.b (da_cons (de_var 1) (da_cons (de_var 2) da_nil)) (by decide) (len_cons (len_cons len_nil))))) (dss_one (ds_expr (de_call ct (ok_lowest_row T) T.d_lowest_row.g T.d_lowest_row.kp T.d_lowest_row.b (da_cons (de_lst (da_cons (de_var 1) (da_cons (de_var 2) da_nil))) da_nil) (by decide) (len_cons len_nil))))))))))))))))) (fun _ _ _ _ _ hz hf => (dss_one (ds_ret (de_and (de_isXF 3 tabX hz hf c.K T.n_isinstance T.tabX (de_globC 0 T.g_GapError)) (de_one (de_isXF 3 tabX hz hf c.K T.n_isinstance T.tabX (de_globT "ValueError" T.n_ValueError (by decide +kernel)))))))))
    (dss_one (ds_ret de_bl)))
  h
theorem ok_law (T : Txt P G mg fa fd) (hH : ∀ (ns : List Int), ns.length ≤ 63 → ∃ cells t, m__law_hand [.rol (ns.map .int)] [] = .ok (handD cells 0 0 t) [] ∧ ∃ st', b_law (some (.rol (ns.map .int)) :: some (.tok 0) :: List.replicate 12 none) [handD cells 0 0 t] = .rt (.bl true) st') : FnOk P w G.K mg base (L2N.CX P w) 6 (fa 20) (fd 20) ["_law_script"] (spLaw G.K) :=
  have h := lawD2 (P := P) (w := w) (mg := mg) (base := base) (G := G) (N := n_law) (k := 5) (m := b_law) T.d_law.F sc_law rfl rfl (by first | exact .inl rfl | exact .inr rfl) rfl rfl rfl (ok__law_hand T) T.d__law_hand.g T.d__law_hand.kp T.d__law_hand.b T.tb0 (by decide) hH (hfx := fun _ _ _ _ _ _ => by first | exact .inl rfl | exact .inr rfl) fun cdv A outer s H E c xt =>
    (dssL_cons (ds_set 2 sc_law.nd (de_op op_addD (opd_add c.K) de_int (de_call c (ok__law_draw T) T.d__law_draw.g T.d__law_draw.kp T.d__law_draw.b (da_cons (de_var 1) (da_cons (de_op op_pow opd_pow de_int de_int) da_nil)) (by decide) (len_cons (len_cons len_nil)))))
    (dssL_cons (ds_set 3 sc_law.nd (de_op op_sub opd_sub (de_call c (ok__law_draw T) T.d__law_draw.g T.d__law_draw.kp T.d__law_draw.b (da_cons (de_var 1) (da_cons (de_op op_pow opd_pow de_int de_int) da_nil)) (by decide) (len_cons (len_cons len_nil))) (de_op op_mulD3 (opd_mul c.K) de_int (de_op op_pow opd_pow de_int de_int))))
    (dssL_cons (ds_set 4 sc_law.nd (de_call c (ok__law_odd T) T.d__law_odd.g T.d__law_odd.kp T.d__law_odd.b (da_cons (de_var 1) (da_cons (de_var 2) da_nil)) (by decide) (len_cons (len_cons len_nil))))
    (dssL_cons (ds_set 5 sc_law.nd (de_if (dt_cmp (op_eqD c.hr.units) (opd_eq c.K) (de_call c (ok__law_draw T) T.d__law_draw.g T.d__law_draw.kp T.d__law_draw.b (da_cons (de_var 1) (da_cons de_int da_nil)) (by decide) (len_cons (len_cons len_nil))) de_int) (de_var 3) (de_tup (da_cons (de_var 3) (da_cons (de_var 2) da_nil)))))
    (dssL_cons (ds_if (dw_or (dt_cmp op_isnot_bl opd_notB (de_call c (ok_is_ratio T) T.d_is_ratio.g T.d_is_ratio.kp T.d_is_ratio.b (da_cons (de_var 4) da_nil) (by decide) (len_cons len_nil)) de_bl) (dw_or (dt_cmp op_isnot_bl opd_notB (de_call c (ok_is_ratio T) T.d_is_ratio.g T.d_is_ratio.kp T.d_is_ratio.b (da_cons (de_var 5) da_nil) (by decide) (len_cons len_nil)) de_bl) (dw_or (dt_cmp op_isnot_bl opd_notB (de_call c (ok_is_ratio T) T.d_is_ratio.g T.d_is_ratio.kp T.d_is_ratio.b (da_cons (de_tup (da_cons (de_var 3) (da_cons de_int da_nil))) da_nil) (by decide) (len_cons len_nil)) de_bl) (dw_or1 (dt_cmp op_isnot_bl opd_notB (de_call c (ok_is_ratio T) T.d_is_ratio.g T.d_is_ratio.kp T.d_is_ratio.b (da_cons de_int da_nil) (by decide) (len_cons len_nil)) de_bl))))).dt (dss_one (ds_ret de_bl)) dss_nil)
    (dssL_cons (ds_if (dw_or (dt_cmp op_isnot_bl opd_notB (de_call c (ok_is_whole T) T.d_is_whole.g T.d_is_whole.kp T.d_is_whole.b (da_cons (de_var 4) da_nil) (by decide) (len_cons len_nil)) de_bl) (dw_or (dt_cmp op_isnot_bl opd_notB (de_call c (ok_is_whole T) T.d_is_whole.g T.d_is_whole.kp T.d_is_whole.b (da_cons (de_var 3) da_nil) (by decide) (len_cons len_nil)) de_bl) (dw_or (dt_cmp op_isnot_bl opd_notB (de_call c (ok_is_whole T) T.d_is_whole.g T.d_is_whole.kp T.d_is_whole.b (da_cons (de_tup (da_cons (de_var 3) (da_cons (de_var 2) da_nil))) da_nil) (by decide) (len_cons len_nil)) de_bl) (dw_or1 (dt_cmp op_isnot_bl opd_notB (de_call c (ok_is_whole T) T.d_is_whole.g T.d_is_whole.kp T.d_is_whole.b (da_cons (de_un un_neg und_neg (de_var 2)) da_nil) (by decide) (len_cons len_nil)) de_bl))))).dt (dss_one (ds_ret de_bl)) dss_nil)
    (dssL_cons (ds_if (dt_cmp (op_neD c.hr.units) (opd_ne c.K) (de_call c (ok_ratio_of T) T.d_ratio_of.g T.d_ratio_of.kp T.d_ratio_of.b (da_cons (de_var 5) da_nil) (by decide) (len_cons len_nil)) (de_call c (ok__law_low T) T.d__law_low.g T.d__law_low.kp T.d__law_low.b (da_cons (de_get c.K (de_call c (ok__law_pair T) T.d__law_pair.g T.d__law_pair.kp T.d__law_pair.b (da_cons (de_var 5) da_nil) (by decide) (len_cons len_nil)) de_int) (da_cons (de_get c.K (de_call c (ok__law_pair T) T.d__law_pair.g T.d__law_pair.kp T.d__law_pair.b (da_cons (de_var 5) da_nil) (by decide) (len_cons len_nil)) de_int) da_nil)) (by decide) (len_cons (len_cons len_nil)))) (dss_one (ds_ret de_bl)) dss_nil)
    (dssL_cons (ds_for c (di_seq c.K (de_lst (da_cons de_str (da_cons de_str (da_cons de_str (da_cons de_str (da_cons de_str (da_cons de_str (da_cons de_str da_nil))))))))) (dg_name 6 sc_law.nd) (dss_cons (ds_if (dw_or (dt_not (dt_tru c.K (de_call c (ok__law_refused T) T.d__law_refused.g T.d__law_refused.kp T.d__law_refused.b (da_cons (de_var 6) (da_cons (de_var 4) (da_cons (de_var 5) da_nil))) (by decide) (len_cons (len_cons (len_cons len_nil)))))) (dw_or1 (dw_and (dt_cmp (op_neD c.hr.units) (opd_ne c.K) (de_var 6) de_str) (dw_and1 (dt_not (dt_tru c.K (de_call c (ok__law_refused T) T.d__law_refused.g T.d__law_refused.kp T.d__law_refused.b (da_cons (de_var 6) (da_cons (de_var 5) (da_cons (de_var 4) da_nil))) (by decide) (len_cons (len_cons (len_cons len_nil)))))))).dt)).dt (dss_one (ds_ret de_bl)) dss_nil)
    (dss_one (ds_if (dw_and (dt_cmp (op_neD c.hr.units) (opd_ne c.K) (de_var 6) de_str) (dw_and1 (dt_tru c.K (de_call c (ok__law_refused T) T.d__law_refused.g T.d__law_refused.kp T.d__law_refused.b (da_cons (de_var 6) (da_cons (de_var 5) (da_cons (de_var 5) da_nil))) (by decide) (len_cons (len_cons (len_cons len_nil))))))).dt (dss_one (ds_ret de_bl)) dss_nil))))
    (dssL_cons (ds_if (dw_or (dt_tru c.K (de_call c (ok__law_refused T) T.d__law_refused.g T.d__law_refused.kp T.d__law_refused.b (da_cons de_str (da_cons (de_var 5) (da_cons (de_tup (da_cons (de_var 2) (da_cons (de_op op_addD (opd_add c.K) (de_var 2) de_int) da_nil))) da_nil))) (by decide) (len_cons (len_cons (len_cons len_nil))))) (dw_or1 (dt_not (dt_tru c.K (de_call c (ok__law_refused T) T.d__law_refused.g T.d__law_refused.kp T.d__law_refused.b (da_cons de_str (da_cons (de_var 5) (da_cons (de_tup (da_cons de_int (da_cons (de_var 2) da_nil))) da_nil))) (by decide) (len_cons (len_cons (len_cons len_nil)))))))).dt (dss_one (ds_ret de_bl)) dss_nil)
    (dssL_cons (ds_set 7 sc_law.nd (de_call c (ok__law_row T) T.d__law_row.g T.d__law_row.kp T.d__law_row.b (da_cons (de_var 1) da_nil) (by decide) (len_cons len_nil)))
    (dssL_cons (ds_set 8 sc_law.nd (de_callTy call_list_of (cd_list c.K) T.n_list PyProof.Rows.boot_list (da_cons (de_var 7) da_nil)))
    (dssL_cons (ds_set 9 sc_law.nd (de_call c (ok_lowest_row T) T.d_lowest_row.g T.d_lowest_row.kp T.d_lowest_row.b (da_cons (de_var 7) da_nil) (by decide) (len_cons len_nil)))
    (dssL_cons (ds_if (dw_or (dt_not (dt_tru c.K (de_call c (ok__law_right T) T.d__law_right.g T.d__law_right.kp T.d__law_right.b (da_cons (de_var 9) (da_cons (de_var 8) da_nil)) (by decide) (len_cons (len_cons len_nil))))) (dw_or1 (dt_cmp (op_neD c.hr.units) (opd_ne c.K) (de_var 7) (de_var 8)))).dt (dss_one (ds_ret de_bl)) dss_nil)
    (dssL_cons (ds_set 10 sc_law.nd (de_call c (ok__law_low T) T.d__law_low.g T.d__law_low.kp T.d__law_low.b (da_cons (de_var 2) (da_cons (de_op op_addD (opd_add c.K) de_int (de_call c (ok__law_draw T) T.d__law_draw.g T.d__law_draw.kp T.d__law_draw.b (da_cons (de_var 1) (da_cons (de_op op_pow opd_pow de_int de_int) da_nil)) (by decide) (len_cons (len_cons len_nil)))) da_nil)) (by decide) (len_cons (len_cons len_nil))))
    (dssL_cons (ds_setLc 11 c sc_law.nd (di_seq c.K (de_var 8)) (blkOk_by (own := [("_law_x", 13)]) (N := n_law) (sc := defScope s_law) (by decide +kernel)) (sw_true rfl rfl rfl (by decide +kernel)) (fun _ _ _ _ _ => (dg_name 13 sc_law.nd)) (fun _ _ _ _ _ cb => dts_nil) (fun _ _ _ _ _ cb => (de_call cb (ok__law_low T) T.d__law_low.g T.d__law_low.kp T.d__law_low.b (da_cons (de_op op_mulD3 (opd_mul cb.K) (de_get cb.K (de_call cb (ok__law_pair T) T.d__law_pair.g T.d__law_pair.kp T.d__law_pair.b (da_cons (de_var 13) da_nil) (by decide) (len_cons len_nil)) de_int) (de_get cb.K (de_var 10) de_int)) (da_cons (de_op op_mulD3 (opd_mul cb.K) (de_get cb.K (de_call cb (ok__law_pair T) T.d__law_pair.g T.d__law_pair.kp T.d__law_pair.b (da_cons (de_var 13) da_nil) (by decide) (len_cons len_nil)) de_int) (de_get cb.K (de_var 10) de_int)) da_nil)) (by decide) (len_cons (len_cons len_nil)))))
    (dssL_cons (ds_if (dw_or (dt_cmp (op_neD c.hr.units) (opd_ne c.K) (de_call c (ok_lowest_row T) T.d_lowest_row.g T.d_lowest_row.kp T.d_lowest_row.b (da_cons (de_callTy call_tuple_of (cd_tuple c.K) T.n_tuple PyProof.Rows.boot_tuple (da_cons (de_var 11) da_nil)) da_nil) (by decide) (len_cons len_nil)) (de_var 9)) (dw_or1 (dt_cmp (op_neD c.hr.units) (opd_ne c.K) (de_call c (ok_lowest_row T) T.d_lowest_row.g T.d_lowest_row.kp T.d_lowest_row.b (da_cons (de_var 9) da_nil) (by decide) (len_cons len_nil)) (de_var 9)))).dt (dss_one (ds_ret de_bl)) dss_nil)
    (dssL_cons (ds_set 12 sc_law.nd (de_call c (ok__law_draw T) T.d__law_draw.g T.d__law_draw.kp T.d__law_draw.b (da_cons (de_var 1) (da_cons (de_op op_addD (opd_add c.K) (de_callB call_len (cd_len c.K) T.n_len PySem.boot_len (da_cons (de_var 8) da_nil)) de_int) da_nil)) (by decide) (len_cons (len_cons len_nil))))
    (dssL_of (dss_one (ds_tryM c xt sc_law.nd (fun _ _ _ ct xtt => (dss_cons (ds_expr (de_call ct (ok_lowest_row T) T.d_lowest_row.g T.d_lowest_row.kp T.d_lowest_row.b (da_cons (de_op op_addD (opd_add ct.K) (de_op op_addD (opd_add ct.K) (de_slice ct.K (de_var 8) do_none (do_some (de_var 12))) (de_lst (da_cons (de_var 4) da_nil))) (de_slice ct.K (de_var 8) (do_some (de_var 12)) do_none)) da_nil) (by decide) (len_cons len_nil)))
    (dss_one (ds_ret de_bl)))) (.bare ⟨rfl, by decide, .inl T.g_BadRatio⟩ T.clX_BadRatio (fun _ _ _ _ _ hz hf => (dss_one (ds_ret (de_cmp (op_eqD (suU c)) (opd_eq (suK c.K)) (de_callH (hotSuite c hz hf) (okh_lowest_row T) T.d_lowest_row.g T.d_lowest_row.kp T.d_lowest_row.b (da_cons (de_var 7) da_nil) (by decide) (len_cons len_nil)) (de_var 9))))) .nil)))))))))))))))))))))
  h
end
theorem all_mk {l : PySem.W.OpenLaw} {w : World} {K : PySem.W.Frag} {h : Heap} {mg : Str → Option Value} {la : Addr}
    {C0 : Addr}
    {C1 : Addr}
    {f0 : Addr} {od0 an0 : Option Addr} {sl0 : Array (Option Value)} {oc0 kV0 dc0 pm0 cd0 ct0 : Value}
    {f1 : Addr} {od1 an1 : Option Addr} {sl1 : Array (Option Value)} {oc1 kV1 dc1 pm1 cd1 ct1 : Value}
    {f2 : Addr} {od2 an2 : Option Addr} {sl2 : Array (Option Value)} {oc2 kV2 dc2 pm2 cd2 ct2 : Value}
    {f3 : Addr} {od3 an3 : Option Addr} {sl3 : Array (Option Value)} {oc3 kV3 dc3 pm3 cd3 ct3 : Value}
    {f4 : Addr} {od4 an4 : Option Addr} {sl4 : Array (Option Value)} {oc4 kV4 dc4 pm4 cd4 ct4 : Value}
    {f5 : Addr} {od5 an5 : Option Addr} {sl5 : Array (Option Value)} {oc5 kV5 dc5 pm5 cd5 ct5 : Value}
    {f6 : Addr} {od6 an6 : Option Addr} {sl6 : Array (Option Value)} {oc6 kV6 dc6 pm6 cd6 ct6 : Value}
    {f7 : Addr} {od7 an7 : Option Addr} {sl7 : Array (Option Value)} {oc7 kV7 dc7 pm7 cd7 ct7 : Value}
    {f8 : Addr} {od8 an8 : Option Addr} {sl8 : Array (Option Value)} {oc8 kV8 dc8 pm8 cd8 ct8 : Value}
    {f9 : Addr} {od9 an9 : Option Addr} {sl9 : Array (Option Value)} {oc9 kV9 dc9 pm9 cd9 ct9 : Value}
    {f10 : Addr} {od10 an10 : Option Addr} {sl10 : Array (Option Value)} {oc10 kV10 dc10 pm10 cd10 ct10 : Value}
    {f11 : Addr} {od11 an11 : Option Addr} {sl11 : Array (Option Value)} {oc11 kV11 dc11 pm11 cd11 ct11 : Value}
    {f12 : Addr} {od12 an12 : Option Addr} {sl12 : Array (Option Value)} {oc12 kV12 dc12 pm12 cd12 ct12 : Value}
    {f13 : Addr} {od13 an13 : Option Addr} {sl13 : Array (Option Value)} {oc13 kV13 dc13 pm13 cd13 ct13 : Value}
    {f14 : Addr} {od14 an14 : Option Addr} {sl14 : Array (Option Value)} {oc14 kV14 dc14 pm14 cd14 ct14 : Value}
    {f15 : Addr} {od15 an15 : Option Addr} {sl15 : Array (Option Value)} {oc15 kV15 dc15 pm15 cd15 ct15 : Value}
    {f16 : Addr} {od16 an16 : Option Addr} {sl16 : Array (Option Value)} {oc16 kV16 dc16 pm16 cd16 ct16 : Value}
    {f17 : Addr} {od17 an17 : Option Addr} {sl17 : Array (Option Value)} {oc17 kV17 dc17 pm17 cd17 ct17 : Value}
    {f18 : Addr} {od18 an18 : Option Addr} {sl18 : Array (Option Value)} {oc18 kV18 dc18 pm18 cd18 ct18 : Value}
    {f19 : Addr} {od19 an19 : Option Addr} {sl19 : Array (Option Value)} {oc19 kV19 dc19 pm19 cd19 ct19 : Value}
    {f20 : Addr} {od20 an20 : Option Addr} {sl20 : Array (Option Value)} {oc20 kV20 dc20 pm20 cd20 ct20 : Value}
    (X : K.In h) (Gn : h.Ns mainGlobals mg) (hfa : mg "law" = some (.ref la))
    (hH : ∀ (ns : List Int), ns.length ≤ 63 → ∃ cells t, m__law_hand [.rol (ns.map .int)] [] = .ok (handD cells 0 0 t) [] ∧ ∃ st', b_law (some (.rol (ns.map .int)) :: some (.tok 0) :: List.replicate 12 none) [handD cells 0 0 t] = .rt (.bl true) st')
    (ca0 : PySem.W.nsIn K mainGlobals "GapError" = some (some (.ref C0)))
    (ca1 : PySem.W.nsIn K mainGlobals "BadRatio" = some (some (.ref C1)))
    (a0 : PySem.W.nsIn K mainGlobals "_law_common" = some (some (.ref f0)))
    (l0 : K.lookup f0 = some ⟨oc0, od0, .func (PySem.W.fnOf "_law_common" "_law_common" (defArgs s__law_common) (defBody s__law_common) (defScope s__law_common) .none kV0 dc0 pm0 an0 cd0 ct0), sl0⟩)
    (c0 : PySem.W.codeIn K cd0 "_law_common" = true)
    (k0 : PySem.W.keepIn K (.ref f0) = true)
    (a1 : PySem.W.nsIn K mainGlobals "_law_hand" = some (some (.ref f1)))
    (l1 : K.lookup f1 = some ⟨oc1, od1, .func (PySem.W.fnOf "_law_hand" "_law_hand" (defArgs s__law_hand) (defBody s__law_hand) (defScope s__law_hand) .none kV1 dc1 pm1 an1 cd1 ct1), sl1⟩)
    (c1 : PySem.W.codeIn K cd1 "_law_hand" = true)
    (k1 : PySem.W.keepIn K (.ref f1) = true)
    (a2 : PySem.W.nsIn K mainGlobals "_law_low" = some (some (.ref f2)))
    (l2 : K.lookup f2 = some ⟨oc2, od2, .func (PySem.W.fnOf "_law_low" "_law_low" (defArgs s__law_low) (defBody s__law_low) (defScope s__law_low) .none kV2 dc2 pm2 an2 cd2 ct2), sl2⟩)
    (c2 : PySem.W.codeIn K cd2 "_law_low" = true)
    (k2 : PySem.W.keepIn K (.ref f2) = true)
    (a3 : PySem.W.nsIn K mainGlobals "_law_mix" = some (some (.ref f3)))
    (l3 : K.lookup f3 = some ⟨oc3, od3, .func (PySem.W.fnOf "_law_mix" "_law_mix" (defArgs s__law_mix) (defBody s__law_mix) (defScope s__law_mix) .none kV3 dc3 pm3 an3 cd3 ct3), sl3⟩)
    (c3 : PySem.W.codeIn K cd3 "_law_mix" = true)
    (k3 : PySem.W.keepIn K (.ref f3) = true)
    (a4 : PySem.W.nsIn K mainGlobals "_law_pair" = some (some (.ref f4)))
    (l4 : K.lookup f4 = some ⟨oc4, od4, .func (PySem.W.fnOf "_law_pair" "_law_pair" (defArgs s__law_pair) (defBody s__law_pair) (defScope s__law_pair) .none kV4 dc4 pm4 an4 cd4 ct4), sl4⟩)
    (c4 : PySem.W.codeIn K cd4 "_law_pair" = true)
    (k4 : PySem.W.keepIn K (.ref f4) = true)
    (a5 : PySem.W.nsIn K mainGlobals "is_whole" = some (some (.ref f5)))
    (l5 : K.lookup f5 = some ⟨oc5, od5, .func (PySem.W.fnOf "is_whole" "is_whole" (defArgs s_is_whole) (defBody s_is_whole) (defScope s_is_whole) .none kV5 dc5 pm5 an5 cd5 ct5), sl5⟩)
    (c5 : PySem.W.codeIn K cd5 "is_whole" = true)
    (k5 : PySem.W.keepIn K (.ref f5) = true)
    (a6 : PySem.W.nsIn K mainGlobals "lowest_terms" = some (some (.ref f6)))
    (l6 : K.lookup f6 = some ⟨oc6, od6, .func (PySem.W.fnOf "lowest_terms" "lowest_terms" (defArgs s_lowest_terms) (defBody s_lowest_terms) (defScope s_lowest_terms) .none kV6 dc6 pm6 an6 cd6 ct6), sl6⟩)
    (c6 : PySem.W.codeIn K cd6 "lowest_terms" = true)
    (k6 : PySem.W.keepIn K (.ref f6) = true)
    (a7 : PySem.W.nsIn K mainGlobals "_law_draw" = some (some (.ref f7)))
    (l7 : K.lookup f7 = some ⟨oc7, od7, .func (PySem.W.fnOf "_law_draw" "_law_draw" (defArgs s__law_draw) (defBody s__law_draw) (defScope s__law_draw) .none kV7 dc7 pm7 an7 cd7 ct7), sl7⟩)
    (c7 : PySem.W.codeIn K cd7 "_law_draw" = true)
    (k7 : PySem.W.keepIn K (.ref f7) = true)
    (a8 : PySem.W.nsIn K mainGlobals "_law_right" = some (some (.ref f8)))
    (l8 : K.lookup f8 = some ⟨oc8, od8, .func (PySem.W.fnOf "_law_right" "_law_right" (defArgs s__law_right) (defBody s__law_right) (defScope s__law_right) .none kV8 dc8 pm8 an8 cd8 ct8), sl8⟩)
    (c8 : PySem.W.codeIn K cd8 "_law_right" = true)
    (k8 : PySem.W.keepIn K (.ref f8) = true)
    (a9 : PySem.W.nsIn K mainGlobals "is_ratio" = some (some (.ref f9)))
    (l9 : K.lookup f9 = some ⟨oc9, od9, .func (PySem.W.fnOf "is_ratio" "is_ratio" (defArgs s_is_ratio) (defBody s_is_ratio) (defScope s_is_ratio) .none kV9 dc9 pm9 an9 cd9 ct9), sl9⟩)
    (c9 : PySem.W.codeIn K cd9 "is_ratio" = true)
    (k9 : PySem.W.keepIn K (.ref f9) = true)
    (a10 : PySem.W.nsIn K mainGlobals "_law_odd" = some (some (.ref f10)))
    (l10 : K.lookup f10 = some ⟨oc10, od10, .func (PySem.W.fnOf "_law_odd" "_law_odd" (defArgs s__law_odd) (defBody s__law_odd) (defScope s__law_odd) .none kV10 dc10 pm10 an10 cd10 ct10), sl10⟩)
    (c10 : PySem.W.codeIn K cd10 "_law_odd" = true)
    (k10 : PySem.W.keepIn K (.ref f10) = true)
    (a11 : PySem.W.nsIn K mainGlobals "_law_row" = some (some (.ref f11)))
    (l11 : K.lookup f11 = some ⟨oc11, od11, .func (PySem.W.fnOf "_law_row" "_law_row" (defArgs s__law_row) (defBody s__law_row) (defScope s__law_row) .none kV11 dc11 pm11 an11 cd11 ct11), sl11⟩)
    (c11 : PySem.W.codeIn K cd11 "_law_row" = true)
    (k11 : PySem.W.keepIn K (.ref f11) = true)
    (a12 : PySem.W.nsIn K mainGlobals "ratio_of" = some (some (.ref f12)))
    (l12 : K.lookup f12 = some ⟨oc12, od12, .func (PySem.W.fnOf "ratio_of" "ratio_of" (defArgs s_ratio_of) (defBody s_ratio_of) (defScope s_ratio_of) .none kV12 dc12 pm12 an12 cd12 ct12), sl12⟩)
    (c12 : PySem.W.codeIn K cd12 "ratio_of" = true)
    (k12 : PySem.W.keepIn K (.ref f12) = true)
    (a13 : PySem.W.nsIn K mainGlobals "compare" = some (some (.ref f13)))
    (l13 : K.lookup f13 = some ⟨oc13, od13, .func (PySem.W.fnOf "compare" "compare" (defArgs s_compare) (defBody s_compare) (defScope s_compare) .none kV13 dc13 pm13 an13 cd13 ct13), sl13⟩)
    (c13 : PySem.W.codeIn K cd13 "compare" = true)
    (k13 : PySem.W.keepIn K (.ref f13) = true)
    (a14 : PySem.W.nsIn K mainGlobals "lowest_row" = some (some (.ref f14)))
    (l14 : K.lookup f14 = some ⟨oc14, od14, .func (PySem.W.fnOf "lowest_row" "lowest_row" (defArgs s_lowest_row) (defBody s_lowest_row) (defScope s_lowest_row) .none kV14 dc14 pm14 an14 cd14 ct14), sl14⟩)
    (c14 : PySem.W.codeIn K cd14 "lowest_row" = true)
    (k14 : PySem.W.keepIn K (.ref f14) = true)
    (a15 : PySem.W.nsIn K mainGlobals "minus" = some (some (.ref f15)))
    (l15 : K.lookup f15 = some ⟨oc15, od15, .func (PySem.W.fnOf "minus" "minus" (defArgs s_minus) (defBody s_minus) (defScope s_minus) .none kV15 dc15 pm15 an15 cd15 ct15), sl15⟩)
    (c15 : PySem.W.codeIn K cd15 "minus" = true)
    (k15 : PySem.W.keepIn K (.ref f15) = true)
    (a16 : PySem.W.nsIn K mainGlobals "over" = some (some (.ref f16)))
    (l16 : K.lookup f16 = some ⟨oc16, od16, .func (PySem.W.fnOf "over" "over" (defArgs s_over) (defBody s_over) (defScope s_over) .none kV16 dc16 pm16 an16 cd16 ct16), sl16⟩)
    (c16 : PySem.W.codeIn K cd16 "over" = true)
    (k16 : PySem.W.keepIn K (.ref f16) = true)
    (a17 : PySem.W.nsIn K mainGlobals "plus" = some (some (.ref f17)))
    (l17 : K.lookup f17 = some ⟨oc17, od17, .func (PySem.W.fnOf "plus" "plus" (defArgs s_plus) (defBody s_plus) (defScope s_plus) .none kV17 dc17 pm17 an17 cd17 ct17), sl17⟩)
    (c17 : PySem.W.codeIn K cd17 "plus" = true)
    (k17 : PySem.W.keepIn K (.ref f17) = true)
    (a18 : PySem.W.nsIn K mainGlobals "times" = some (some (.ref f18)))
    (l18 : K.lookup f18 = some ⟨oc18, od18, .func (PySem.W.fnOf "times" "times" (defArgs s_times) (defBody s_times) (defScope s_times) .none kV18 dc18 pm18 an18 cd18 ct18), sl18⟩)
    (c18 : PySem.W.codeIn K cd18 "times" = true)
    (k18 : PySem.W.keepIn K (.ref f18) = true)
    (a19 : PySem.W.nsIn K mainGlobals "_law_refused" = some (some (.ref f19)))
    (l19 : K.lookup f19 = some ⟨oc19, od19, .func (PySem.W.fnOf "_law_refused" "_law_refused" (defArgs s__law_refused) (defBody s__law_refused) (defScope s__law_refused) .none kV19 dc19 pm19 an19 cd19 ct19), sl19⟩)
    (c19 : PySem.W.codeIn K cd19 "_law_refused" = true)
    (k19 : PySem.W.keepIn K (.ref f19) = true)
    (a20 : PySem.W.nsIn K mainGlobals "law" = some (some (.ref f20)))
    (l20 : K.lookup f20 = some ⟨oc20, od20, .func (PySem.W.fnOf "law" "law" (defArgs s_law) (defBody s_law) (defScope s_law) .none kV20 dc20 pm20 an20 cd20 ct20), sl20⟩)
    (c20 : PySem.W.codeIn K cd20 "law" = true)
    (k20 : PySem.W.keepIn K (.ref f20) = true)
    (z_ValueError : PySem.W.nsIn K mainGlobals "ValueError" = some none)
    (z_abs : PySem.W.nsIn K mainGlobals "abs" = some none)
    (z_bool : PySem.W.nsIn K mainGlobals "bool" = some none)
    (z_enumerate : PySem.W.nsIn K mainGlobals "enumerate" = some none)
    (z_int : PySem.W.nsIn K mainGlobals "int" = some none)
    (z_isinstance : PySem.W.nsIn K mainGlobals "isinstance" = some none)
    (z_len : PySem.W.nsIn K mainGlobals "len" = some none)
    (z_list : PySem.W.nsIn K mainGlobals "list" = some none)
    (z_range : PySem.W.nsIn K mainGlobals "range" = some none)
    (z_tuple : PySem.W.nsIn K mainGlobals "tuple" = some none)
    (i_gcd : PySem.W.nsIn K mainGlobals "gcd" = some (some (.builtin "math.gcd")))
    (i_lcm : PySem.W.nsIn K mainGlobals "lcm" = some (some (.builtin "math.lcm")))
    (cs0 : PySem.W.subIn K (.ref C0) (.type "BaseException") = some true)
    (ct0_ : PySem.W.typeIn K (.ref C0) = some (.type "type"))
    (ck0 : PySem.W.keepIn K (.ref C0) = true)
    (cd0_ : PySem.W.hasDictIn K C0 = true)
    (cs1 : PySem.W.subIn K (.ref C1) (.type "BaseException") = some true)
    (ct1_ : PySem.W.typeIn K (.ref C1) = some (.type "type"))
    (ck1 : PySem.W.keepIn K (.ref C1) = true)
    (cd1_ : PySem.W.hasDictIn K C1 = true)
    (cx1 : PySem.W.excIn K C1 [.type "ValueError", .type "Exception", .type "BaseException", .type "object"] "ValueError.__new__" = true)
    (s1_1 : PySem.W.subIn K (.ref C1) (.ref C1) = some true)
    (xc1 : DL.excB K C1 = true)
    (xk1_0 : PySem.W.kitOne K (.ref C1) (.ref C0) = some true)
    (xk1_V : PySem.W.kitOne K (.ref C1) (.type "ValueError") = some true) :
    ∃ fd : FuncData, (∀ (s : Shared) (v : Value), BindsTo s fd ⟨[v], []⟩ [("_law_script", v)]) ∧ ∀ base : Heap, K.In base → base.Ns mainGlobals mg → FnOk l.prog w K mg base (L2N.CX l.prog w) 6 la fd ["_law_script"] (spLaw K) := by
  have e := hfa.symm.trans (PySem.W.mg_of X Gn a20)
  have ela : la = f20 := by injection (Option.some.inj e)
  obtain ⟨G, hG⟩ : ∃ G : Glb, G = ⟨K, fun n => match n with | 0 => C0 | 1 => C1 | _ => 0, []⟩ := ⟨_, rfl⟩
  obtain ⟨fa, hfa'⟩ : ∃ fa : Nat → Addr, fa = fun n => match n with | 0 => f0 | 1 => f1 | 2 => f2 | 3 => f3 | 4 => f4 | 5 => f5 | 6 => f6 | 7 => f7 | 8 => f8 | 9 => f9 | 10 => f10 | 11 => f11 | 12 => f12 | 13 => f13 | 14 => f14 | 15 => f15 | 16 => f16 | 17 => f17 | 18 => f18 | 19 => f19 | 20 => f20 | _ => 0 := ⟨_, rfl⟩
  obtain ⟨fd, hfd⟩ : ∃ fd : Nat → FuncData, fd = fun n => match n with | 0 => PySem.W.fnOf "_law_common" "_law_common" (defArgs s__law_common) (defBody s__law_common) (defScope s__law_common) .none kV0 dc0 pm0 an0 cd0 ct0 | 1 => PySem.W.fnOf "_law_hand" "_law_hand" (defArgs s__law_hand) (defBody s__law_hand) (defScope s__law_hand) .none kV1 dc1 pm1 an1 cd1 ct1 | 2 => PySem.W.fnOf "_law_low" "_law_low" (defArgs s__law_low) (defBody s__law_low) (defScope s__law_low) .none kV2 dc2 pm2 an2 cd2 ct2 | 3 => PySem.W.fnOf "_law_mix" "_law_mix" (defArgs s__law_mix) (defBody s__law_mix) (defScope s__law_mix) .none kV3 dc3 pm3 an3 cd3 ct3 | 4 => PySem.W.fnOf "_law_pair" "_law_pair" (defArgs s__law_pair) (defBody s__law_pair) (defScope s__law_pair) .none kV4 dc4 pm4 an4 cd4 ct4 | 5 => PySem.W.fnOf "is_whole" "is_whole" (defArgs s_is_whole) (defBody s_is_whole) (defScope s_is_whole) .none kV5 dc5 pm5 an5 cd5 ct5 | 6 => PySem.W.fnOf "lowest_terms" "lowest_terms" (defArgs s_lowest_terms) (defBody s_lowest_terms) (defScope s_lowest_terms) .none kV6 dc6 pm6 an6 cd6 ct6 | 7 => PySem.W.fnOf "_law_draw" "_law_draw" (defArgs s__law_draw) (defBody s__law_draw) (defScope s__law_draw) .none kV7 dc7 pm7 an7 cd7 ct7 | 8 => PySem.W.fnOf "_law_right" "_law_right" (defArgs s__law_right) (defBody s__law_right) (defScope s__law_right) .none kV8 dc8 pm8 an8 cd8 ct8 | 9 => PySem.W.fnOf "is_ratio" "is_ratio" (defArgs s_is_ratio) (defBody s_is_ratio) (defScope s_is_ratio) .none kV9 dc9 pm9 an9 cd9 ct9 | 10 => PySem.W.fnOf "_law_odd" "_law_odd" (defArgs s__law_odd) (defBody s__law_odd) (defScope s__law_odd) .none kV10 dc10 pm10 an10 cd10 ct10 | 11 => PySem.W.fnOf "_law_row" "_law_row" (defArgs s__law_row) (defBody s__law_row) (defScope s__law_row) .none kV11 dc11 pm11 an11 cd11 ct11 | 12 => PySem.W.fnOf "ratio_of" "ratio_of" (defArgs s_ratio_of) (defBody s_ratio_of) (defScope s_ratio_of) .none kV12 dc12 pm12 an12 cd12 ct12 | 13 => PySem.W.fnOf "compare" "compare" (defArgs s_compare) (defBody s_compare) (defScope s_compare) .none kV13 dc13 pm13 an13 cd13 ct13 | 14 => PySem.W.fnOf "lowest_row" "lowest_row" (defArgs s_lowest_row) (defBody s_lowest_row) (defScope s_lowest_row) .none kV14 dc14 pm14 an14 cd14 ct14 | 15 => PySem.W.fnOf "minus" "minus" (defArgs s_minus) (defBody s_minus) (defScope s_minus) .none kV15 dc15 pm15 an15 cd15 ct15 | 16 => PySem.W.fnOf "over" "over" (defArgs s_over) (defBody s_over) (defScope s_over) .none kV16 dc16 pm16 an16 cd16 ct16 | 17 => PySem.W.fnOf "plus" "plus" (defArgs s_plus) (defBody s_plus) (defScope s_plus) .none kV17 dc17 pm17 an17 cd17 ct17 | 18 => PySem.W.fnOf "times" "times" (defArgs s_times) (defBody s_times) (defScope s_times) .none kV18 dc18 pm18 an18 cd18 ct18 | 19 => PySem.W.fnOf "_law_refused" "_law_refused" (defArgs s__law_refused) (defBody s__law_refused) (defScope s__law_refused) .none kV19 dc19 pm19 an19 cd19 ct19 | 20 => PySem.W.fnOf "law" "law" (defArgs s_law) (defBody s_law) (defScope s_law) .none kV20 dc20 pm20 an20 cd20 ct20 | _ => PySem.W.fnOf "_law_common" "_law_common" (defArgs s__law_common) (defBody s__law_common) (defScope s__law_common) .none kV0 dc0 pm0 an0 cd0 ct0 := ⟨_, rfl⟩
  have T : Txt l.prog G mg fa fd := by
    subst hG hfa' hfd
    exact
      { tb0 := rfl,
        g_GapError := PySem.W.mg_of X Gn ca0,
        g_BadRatio := PySem.W.mg_of X Gn ca1,
        d__law_common := DefOk.mk' (fun_mk (st := s__law_common) l0 c0 k0) (PySem.W.mg_of X Gn a0) (Fun.binds (fun_mk (st := s__law_common) l0 c0 k0) fun _ _ _ _ _ _ us hl => match us, hl with | [_, _], _ => rfl),
        d__law_hand := DefOk.mk' (fun_mk (st := s__law_hand) l1 c1 k1) (PySem.W.mg_of X Gn a1) (Fun.binds (fun_mk (st := s__law_hand) l1 c1 k1) fun _ _ _ _ _ _ us hl => match us, hl with | [_], _ => rfl),
        d__law_low := DefOk.mk' (fun_mk (st := s__law_low) l2 c2 k2) (PySem.W.mg_of X Gn a2) (Fun.binds (fun_mk (st := s__law_low) l2 c2 k2) fun _ _ _ _ _ _ us hl => match us, hl with | [_, _], _ => rfl),
        d__law_mix := DefOk.mk' (fun_mk (st := s__law_mix) l3 c3 k3) (PySem.W.mg_of X Gn a3) (Fun.binds (fun_mk (st := s__law_mix) l3 c3 k3) fun _ _ _ _ _ _ us hl => match us, hl with | [_, _], _ => rfl),
        d__law_pair := DefOk.mk' (fun_mk (st := s__law_pair) l4 c4 k4) (PySem.W.mg_of X Gn a4) (Fun.binds (fun_mk (st := s__law_pair) l4 c4 k4) fun _ _ _ _ _ _ us hl => match us, hl with | [_], _ => rfl),
        d_is_whole := DefOk.mk' (fun_mk (st := s_is_whole) l5 c5 k5) (PySem.W.mg_of X Gn a5) (Fun.binds (fun_mk (st := s_is_whole) l5 c5 k5) fun _ _ _ _ _ _ us hl => match us, hl with | [_], _ => rfl),
        d_lowest_terms := DefOk.mk' (fun_mk (st := s_lowest_terms) l6 c6 k6) (PySem.W.mg_of X Gn a6) (Fun.binds (fun_mk (st := s_lowest_terms) l6 c6 k6) fun _ _ _ _ _ _ us hl => match us, hl with | [_, _], _ => rfl),
        d__law_draw := DefOk.mk' (fun_mk (st := s__law_draw) l7 c7 k7) (PySem.W.mg_of X Gn a7) (Fun.binds (fun_mk (st := s__law_draw) l7 c7 k7) fun _ _ _ _ _ _ us hl => match us, hl with | [_, _], _ => rfl),
        d__law_right := DefOk.mk' (fun_mk (st := s__law_right) l8 c8 k8) (PySem.W.mg_of X Gn a8) (Fun.binds (fun_mk (st := s__law_right) l8 c8 k8) fun _ _ _ _ _ _ us hl => match us, hl with | [_, _], _ => rfl),
        d_is_ratio := DefOk.mk' (fun_mk (st := s_is_ratio) l9 c9 k9) (PySem.W.mg_of X Gn a9) (Fun.binds (fun_mk (st := s_is_ratio) l9 c9 k9) fun _ _ _ _ _ _ us hl => match us, hl with | [_], _ => rfl),
        d__law_odd := DefOk.mk' (fun_mk (st := s__law_odd) l10 c10 k10) (PySem.W.mg_of X Gn a10) (Fun.binds (fun_mk (st := s__law_odd) l10 c10 k10) fun _ _ _ _ _ _ us hl => match us, hl with | [_, _], _ => rfl),
        d__law_row := DefOk.mk' (fun_mk (st := s__law_row) l11 c11 k11) (PySem.W.mg_of X Gn a11) (Fun.binds (fun_mk (st := s__law_row) l11 c11 k11) fun _ _ _ _ _ _ us hl => match us, hl with | [_], _ => rfl),
        d_ratio_of := DefOk.mk' (fun_mk (st := s_ratio_of) l12 c12 k12) (PySem.W.mg_of X Gn a12) (Fun.binds (fun_mk (st := s_ratio_of) l12 c12 k12) fun _ _ _ _ _ _ us hl => match us, hl with | [_], _ => rfl),
        d_compare := DefOk.mk' (fun_mk (st := s_compare) l13 c13 k13) (PySem.W.mg_of X Gn a13) (Fun.binds (fun_mk (st := s_compare) l13 c13 k13) fun _ _ _ _ _ _ us hl => match us, hl with | [_, _], _ => rfl),
        d_lowest_row := DefOk.mk' (fun_mk (st := s_lowest_row) l14 c14 k14) (PySem.W.mg_of X Gn a14) (Fun.binds (fun_mk (st := s_lowest_row) l14 c14 k14) fun _ _ _ _ _ _ us hl => match us, hl with | [_], _ => rfl),
        d_minus := DefOk.mk' (fun_mk (st := s_minus) l15 c15 k15) (PySem.W.mg_of X Gn a15) (Fun.binds (fun_mk (st := s_minus) l15 c15 k15) fun _ _ _ _ _ _ us hl => match us, hl with | [_, _], _ => rfl),
        d_over := DefOk.mk' (fun_mk (st := s_over) l16 c16 k16) (PySem.W.mg_of X Gn a16) (Fun.binds (fun_mk (st := s_over) l16 c16 k16) fun _ _ _ _ _ _ us hl => match us, hl with | [_, _], _ => rfl),
        d_plus := DefOk.mk' (fun_mk (st := s_plus) l17 c17 k17) (PySem.W.mg_of X Gn a17) (Fun.binds (fun_mk (st := s_plus) l17 c17 k17) fun _ _ _ _ _ _ us hl => match us, hl with | [_, _], _ => rfl),
        d_times := DefOk.mk' (fun_mk (st := s_times) l18 c18 k18) (PySem.W.mg_of X Gn a18) (Fun.binds (fun_mk (st := s_times) l18 c18 k18) fun _ _ _ _ _ _ us hl => match us, hl with | [_, _], _ => rfl),
        d__law_refused := DefOk.mk' (fun_mk (st := s__law_refused) l19 c19 k19) (PySem.W.mg_of X Gn a19) (Fun.binds (fun_mk (st := s__law_refused) l19 c19 k19) fun _ _ _ _ _ _ us hl => match us, hl with | [_, _, _], _ => rfl),
        d_law := DefOk.mk' (fun_mk (st := s_law) l20 c20 k20) (PySem.W.mg_of X Gn a20) (Fun.binds (fun_mk (st := s_law) l20 c20 k20) fun _ _ _ _ _ _ us hl => match us, hl with | [_], _ => rfl),
        n_ValueError := PySem.W.mg_none_of X Gn z_ValueError,
        n_abs := PySem.W.mg_none_of X Gn z_abs,
        n_bool := PySem.W.mg_none_of X Gn z_bool,
        n_enumerate := PySem.W.mg_none_of X Gn z_enumerate,
        n_int := PySem.W.mg_none_of X Gn z_int,
        n_isinstance := PySem.W.mg_none_of X Gn z_isinstance,
        n_len := PySem.W.mg_none_of X Gn z_len,
        n_list := PySem.W.mg_none_of X Gn z_list,
        n_range := PySem.W.mg_none_of X Gn z_range,
        n_tuple := PySem.W.mg_none_of X Gn z_tuple,
        m_gcd := PySem.W.mg_of X Gn i_gcd,
        m_lcm := PySem.W.mg_of X Gn i_lcm,
        e_BadRatio := ⟨PySem.W.mg_of X Gn ca1, cx1, ck1, cs1, ct1_⟩,
        clX_BadRatio := fun c b hb => (by
            unfold clX_BadRatio at hb
            split at hb
            · cases hb; exact PySem.W.exm_ref cs1 cd1_ ct1_ s1_1
            · cases hb),
        tabX := fun c d b hb => (by
            unfold tabX at hb
            split at hb
            · cases hb; exact ⟨DL.excB_ok xc1, _, rfl, xk1_0⟩
            · split at hb
              · rename_i e; subst e; cases hb; exact ⟨DL.excB_ok xc1, _, rfl, xk1_V⟩
              · cases hb
            · cases hb) }
  have eK : G.K = K := congrArg Glb.K hG
  have ea : fa 20 = f20 := congrFun hfa' 20
  refine ⟨fd 20, fun s v => ?_, fun base _ _ => ?_⟩
  · rw [hfd]; exact .of_eq rfl
  · have r := ok_law (P := l.prog) (w := w) (base := base) T hH
    rw [eK, ea, ← ela] at r
    exact r
end My

namespace My
open PySem PySem.Spec PyProof.Rows L2 DL
theorem e_mix (a b : Int) (st : List D) : ∃ r : Int, 0 ≤ r ∧ m__law_mix [.int a, .int b] st = .ok (.int r) st := by
  obtain ⟨s0, hs⟩ : ∃ s, s = (a * 48271 + b * 16807 + 11).fmod 2147483647 := ⟨_, rfl⟩
  obtain ⟨t0, ht⟩ : ∃ s, s = (s0 * s0 + s0.fdiv 127 * 40692 + b * 69621).fmod 2147483399 := ⟨_, rfl⟩
  have h1 := fmod_small (i := a * 48271 + b * 16807 + 11) (j := 2147483647) (by decide)
  have h2 := fmod_small (i := s0 * s0 + s0.fdiv 127 * 40692 + b * 69621) (j := 2147483399) (by decide)
  rw [← hs] at h1
  rw [← ht] at h2
  have m1 : DL.MulOk a 48271 := mulOk_r (by decide)
  have m2 : DL.MulOk b 16807 := mulOk_r (by decide)
  have m3 : DL.MulOk s0 s0 := mulOk_l (by omega)
  have m4 : DL.MulOk (s0.fdiv 127) 40692 := mulOk_r (by decide)
  have m5 : DL.MulOk b 69621 := mulOk_r (by decide)
  have m6 : DL.MulOk t0 t0 := mulOk_l (by omega)
  have d1 : DivOk s0 127 := ⟨by decide, .inl (by decide)⟩
  have d2 : DivOk (t0 * t0) 1009 := ⟨by decide, .inl (by decide)⟩
  have d3 : ∀ i, DivOk i 16 := fun i => ⟨by decide, .inl (by decide)⟩
  refine ⟨((t0 * t0).fdiv 1009 + s0).fmod 2147483563 |>.fdiv 16, ?_, ?_⟩
  · have h3 := fmod_small (i := (t0 * t0).fdiv 1009 + s0) (j := 2147483563) (by decide)
    exact Int.fdiv_nonneg h3.1 (by decide)
  · unfold m__law_mix b__law_mix
    simp [ev1, ev2, ev3, ev4, bind_ok, mkEnv, get?, ret_ok, m1, m2, m3, m4, m5, m6, d1, d2, d3, ← hs, ← ht]
theorem e_draw (n : Int) (hn : 0 < n) (hn2 : n.natAbs.log2 < 9000) (st : List D) (hs : HandOk st) : ∃ (r : Int) (st' : List D), 0 ≤ r ∧ r < n ∧ HandOk st' ∧ m__law_draw [.tok 0, .int n] st = .ok (.int r) st' := by
  obtain ⟨cells, at_, rest, total, rfl, ha, hr, hc⟩ := hs.ex
  have hn0 : n ≠ 0 := by omega
  have dn : ∀ i, DivOk i n := fun i => ⟨hn0, .inl hn2⟩
  have hpow : dPow (.int 10) (.int 18) = some (.int 1000000000000000000) := by rfl
  have red : ∀ i : Int, 0 ≤ i.fmod n ∧ i.fmod n < n := fun i => fmod_small hn
  have hmod : ∀ i : Int, dMod (.int i) (.int n) = some (.int (i.fmod n)) := fun i => dMod_pos i n hn0
  obtain ⟨k0, hk0⟩ : ∃ k : Nat, at_ = k := ⟨at_.toNat, by omega⟩
  subst hk0
  unfold m__law_draw b__law_draw
  have mk : ∀ (at' rest' total' : Int), 0 ≤ at' → 0 ≤ rest' → HandOk [handD cells at' rest' total'] := fun a b c h1 h2 => ⟨cells, a, b, c, rfl, h1, h2, hc⟩
  have tail : ∀ (a b t : Int), 0 ≤ a → ∃ r', 0 ≤ r' ∧ m__law_mix [.int t, .int a] [handD cells a b t] = .ok (.int r') [handD cells a b t] := fun a b t _ => e_mix t a _
  have hm8 : ∀ i : Int, dMod (.int i) (.int 2147483629) = some (.int (i.fmod 2147483629)) := fun i => dMod_pos i _ (by decide)
  by_cases h0 : rest = 0
  · subst h0
    by_cases h1 : k0 < cells.length
    · have hcp : 0 ≤ cells[k0] := hc _ (List.getElem_mem h1)
      by_cases h2 : cells[k0] < 1000000000000000000
      · obtain ⟨q, hq, eq⟩ := e_mix (cells[k0].fmod 2147483647) (k0 + 1) [handD cells (k0 + 1) 0 total]
        refine ⟨q.fmod n, _, (red q).1, (red q).2, mk (k0 + 1) 0 total (by omega) (by omega), ?_⟩
        simp [ev1, ev2, ev3, ev4, bind_ok, mkEnv, get?, ret_ok, hix0, hix1, hix2, hix3, mPut_eq, put1, put2, put3, hpow, hmod, dMod_pos, dn, h1, h2, hcell cells k0 h1, eq]
      · have h3 : ¬ cells[k0] = 0 := by omega
        have h4 : 0 < cells[k0] := by omega
        refine ⟨cells[k0].fmod n, _, (red _).1, (red _).2, mk (k0 + 1) (cells[k0].fdiv n) total (by omega) (Int.fdiv_nonneg hcp (by omega)), ?_⟩
        simp [ev1, ev2, ev3, ev4, bind_ok, mkEnv, get?, ret_ok, hix0, hix1, hix2, hix3, mPut_eq, put1, put2, put3, hpow, hmod, dMod_pos, dn, h1, h2, h3, h4, hcell cells k0 h1]
    · obtain ⟨q, hq, eq⟩ := e_mix ((total + 1).fmod 2147483629) k0 [handD cells k0 0 ((total + 1).fmod 2147483629)]
      refine ⟨q.fmod n, _, (red q).1, (red q).2, mk k0 0 ((total + 1).fmod 2147483629) (by omega) (by omega), ?_⟩
      simp [ev1, ev2, ev3, ev4, bind_ok, mkEnv, get?, ret_ok, hix0, hix1, hix2, hix3, mPut_eq, put1, put2, put3, hpow, hmod, dMod_pos, dn, h1, hm8, eq]
  · have h4 : 0 < rest := by omega
    refine ⟨rest.fmod n, _, (red _).1, (red _).2, mk k0 (rest.fdiv n) total (by omega) (Int.fdiv_nonneg hr (by omega)), ?_⟩
    simp [ev1, ev2, ev3, ev4, bind_ok, mkEnv, get?, ret_ok, hix0, hix1, hix2, hix3, mPut_eq, put1, put2, put3, hpow, hmod, dMod_pos, dn, h0, h4]
end My

namespace My
open PySem PySem.Spec PyProof.Rows L2 DL
theorem e_hand (ns : List Int) (hl : ns.length ≤ 63) : ∃ (cells : List Int) (t : Int), (∀ c ∈ cells, 0 ≤ c) ∧ m__law_hand [.rol (ns.map .int)] [] = .ok (handD cells 0 0 t) [] := by
  obtain ⟨env', st', hf, t, x, y, rfl, rfl⟩ := forD_inv (g := gTp (gsCons (gNm 2) (gsCons (gNm 3) (gsNil)))) (body := mSet 1 (mOp dMod (mCall1 (c1 dInt1) (mCons (mOp dAdd (mOp dMul (mVar 1) (mC (.int 31))) (mOp dMul (mCall1 (c1 dInt1) (mCons (mVar 3) (mNil))) (mOp dAdd (mVar 2) (mC (.int 7))))) (mNil))) (mC (.int 2147483629))))
    (fun env st => ∃ (t : Int) (x y : Option D), env = [some (.rol (ns.map .int)), some (.int t), x, y] ∧ st = []) (fun d => ∃ (i : Nat) (v : Int), i < 63 ∧ d = .tup [.int (i : Int), .int v])
    (by
      rintro d env st ⟨i, v, hi, rfl⟩ ⟨t, x, y, rfl, rfl⟩
      refine ⟨_, [some (.rol (ns.map .int)), some (.int ((t * 31 + v * (i + 7)).fmod 2147483629)), some (.int i), some (.int v)], [], rfl, ?_, _, _, _, rfl, rfl⟩
      have m1 : DL.MulOk t 31 := mulOk_r (by decide)
      have m2 : DL.MulOk v (i + 7) := mulOk_r (by omega)
      simp [ev1, ev2, ev3, ev4, bind_ok, mkEnv, get?, ret_ok, dMod_pos, m1, m2]) (numbered (ns.map .int)) [some (.rol (ns.map .int)), some (.int 0), none, none] []
    (by
      intro d hd
      obtain ⟨i, x, h1, h2, rfl⟩ := numbered_mem hd
      obtain ⟨v, _, rfl⟩ := List.mem_map.mp h2
      exact ⟨i, v, by rw [List.length_map] at h1; omega, rfl⟩) ⟨0, _, _, rfl, rfl⟩
  refine ⟨ns.map fun n => if n < 0 then -n else n, t, ?_, ?_⟩
  · intro c hc
    rw [List.mem_map] at hc
    obtain ⟨n, _, rfl⟩ := hc
    split <;> omega
  · have hc := lcD_map (env := [some (.rol (ns.map .int)), some (.int t), x, none]) (g := gNm 3) (mt := mYes) (me := mCall1 (c1 dAbs) (mCons (mCall1 (c1 dInt1) (mCons (mVar 3) (mNil))) (mNil))) (st := []) (fun d => match d with | .int n => .int (if n < 0 then -n else n) | d => d) (ns.map .int) (by
      intro d hd
      obtain ⟨v, _, rfl⟩ := List.mem_map.mp hd
      refine ⟨_, rfl, rfl, ?_⟩
      simp [ev1, ev2, ev3, ev4, bind_ok, mkEnv, get?, ret_ok])
    have hz : ns.length ≤ sizeLine := Nat.le_trans hl (by decide)
    unfold m__law_hand b__law_hand
    simp [ev1, ev2, ev3, ev4, bind_ok, mkEnv, get?, ret_ok, mFor_eq, enum?, hf, handD, mItems, DL.items?, wipeE]
    rw [hc]
    simp [ev1, ev2, ev3, ev4, bind_ok, mkEnv, get?, ret_ok, lstOk, hz]
    rw [if_pos (by decide)]
    rfl
end My

namespace My
open PySem PySem.Spec PyProof.Rows L2 DL
/-- a told ratio -/
def rD (q : Rat) : D := .tup [.int q.num, .int (q.den : Int)]
/-- its sizes -/
def Sm (n : Nat) (q : Rat) : Prop := q.num.natAbs < 2 ^ n ∧ q.den < 2 ^ n
theorem fdiv_ediv {a b : Int} (hb : 0 ≤ b) : a.fdiv b = a / b := Int.fdiv_eq_ediv_of_nonneg a hb
theorem e_is_whole_int (i : Int) (st : List D) : m_is_whole [.int i] st = .ok (.bl true) st := by
  unfold m_is_whole b_is_whole
  simp [ev1, ev2, ev3, ev4, ev5, bind_ok, mkEnv, get?, ret_ok, dIsi, isiD, tyN, subTy]
theorem divs (t b : Int) (hb : b ≠ 0) : (Rat.divInt t b).num = (if b < 0 then (t.fdiv (-(Int.gcd t b : Int))) else t.fdiv (Int.gcd t b)) ∧ ((Rat.divInt t b).den : Int) = (if b < 0 then (b.fdiv (-(Int.gcd t b : Int))) else b.fdiv (Int.gcd t b)) := by
  have hg : (Int.gcd t b : Int) ∣ t := Int.gcd_dvd_left ..
  have hg2 : (Int.gcd t b : Int) ∣ b := Int.gcd_dvd_right ..
  have hg0 : (Int.gcd t b : Int) ≠ 0 := by
    intro h
    have : Int.gcd t b = 0 := by omega
    rw [Int.gcd_eq_zero_iff] at this
    exact hb this.2
  rw [Rat.num_divInt, Rat.den_divInt, Int.gcd_comm b t, if_neg hb]
  obtain ⟨u, hu⟩ := hg
  obtain ⟨v, hv⟩ := hg2
  have hgn : (0 : Int) ≤ (Int.gcd t b : Int) := by omega
  have hcast : ((b.natAbs / Int.gcd t b : Nat) : Int) = (b.natAbs : Int) / (Int.gcd t b : Int) := Int.natCast_ediv _ _
  rw [hcast]
  generalize (Int.gcd t b : Int) = g at *
  have f1 : (-g) ∣ t := ⟨-u, by rw [hu]; grind⟩
  have f2 : (-g) ∣ b := ⟨-v, by rw [hv]; grind⟩
  by_cases hn : b < 0
  · rw [if_pos hn, if_pos hn, Int.fdiv_eq_ediv_of_dvd f1, Int.fdiv_eq_ediv_of_dvd f2, Int.sign_eq_neg_one_of_neg hn]
    have : (b.natAbs : Int) = -b := by omega
    rw [this, Int.ediv_neg, Int.ediv_neg]
    refine ⟨?_, ?_⟩
    · rw [hu, show -1 * (g * u) = g * (-u) by grind, Int.mul_ediv_cancel_left _ hg0, Int.mul_ediv_cancel_left _ hg0]
    · rw [hv, show -(g * v) = g * (-v) by grind, Int.mul_ediv_cancel_left _ hg0, Int.mul_ediv_cancel_left _ hg0]
  · rw [if_neg hn, if_neg hn, Int.fdiv_eq_ediv_of_nonneg _ hgn, Int.fdiv_eq_ediv_of_nonneg _ hgn, Int.sign_eq_one_of_pos (by omega)]
    have : (b.natAbs : Int) = b := by omega
    rw [this, Int.one_mul]
    exact ⟨rfl, rfl⟩
theorem e_lowest (t b : Int) (hb : b ≠ 0) (hb2 : b.natAbs < 2 ^ 8000) (st : List D) : m_lowest_terms [.int t, .int b] st = .ok (rD (Rat.divInt t b)) st := by
  have hgl : Nat.gcd t.natAbs b.natAbs ≤ b.natAbs := Nat.gcd_le_right _ (by omega)
  have hgp : 0 < Nat.gcd t.natAbs b.natAbs := Nat.gcd_pos_of_pos_right _ (by omega)
  have hlog : (Nat.gcd t.natAbs b.natAbs).log2 < 9000 := by
    have := (Nat.log2_lt (n := Nat.gcd t.natAbs b.natAbs) (k := 8000) (by omega)).mpr (by omega)
    omega
  have d1 : ∀ i, DivOk i ((Nat.gcd t.natAbs b.natAbs : Nat) : Int) := fun i => ⟨by omega, .inl (by simpa using hlog)⟩
  have d2 : ∀ i, DivOk i (-((Nat.gcd t.natAbs b.natAbs : Nat) : Int)) := fun i => ⟨by omega, .inl (by simpa using hlog)⟩
  obtain ⟨h1, h2⟩ := divs t b hb
  unfold m_lowest_terms b_lowest_terms
  by_cases hn : b < 0
  · simp [ev1, ev2, ev3, ev4, ev5, bind_ok, mkEnv, get?, ret_ok, hn, d1, d2]
    simp only [rD, h1, h2, if_pos hn]
    rfl
  · simp [ev1, ev2, ev3, ev4, ev5, bind_ok, mkEnv, get?, ret_ok, hn, d1, d2]
    simp only [rD, h1, h2, if_neg hn]
    rfl
/-- x tells the ratio q, within n bits -/
inductive Tells (n : Nat) : D → Rat → Prop
  | one (i : Int) (hn : 1 ≤ n) (h : i.natAbs < 2 ^ n) : Tells n (.int i) (i : Rat)
  | two (t b : Int) (hb : 0 < b) (h1 : t.natAbs < 2 ^ n) (h2 : b.natAbs < 2 ^ n) : Tells n (.tup [.int t, .int b]) (Rat.divInt t b)
theorem Tells.rat {n : Nat} {q : Rat} (h : Sm n q) : Tells n (rD q) q := by
  have := Tells.two (n := n) q.num (q.den : Int) (by have := q.den_pos; omega) h.1 (by simpa using h.2)
  rw [Rat.num_divInt_den] at this
  exact this
theorem sm_divInt {n : Nat} {t b : Int} (hb : b ≠ 0) (h1 : t.natAbs < 2 ^ n) (h2 : b.natAbs < 2 ^ n) : Sm n (Rat.divInt t b) := by
  constructor
  · rw [Rat.num_divInt]
    refine Nat.lt_of_le_of_lt (Int.natAbs_ediv_le_natAbs _ _) ?_
    rw [Int.natAbs_mul, Int.natAbs_sign_of_ne_zero hb]
    omega
  · rw [Rat.den_divInt, if_neg hb]
    exact Nat.lt_of_le_of_lt (Nat.div_le_self _ _) h2
theorem Tells.sm {n : Nat} {x : D} {q : Rat} (h : Tells n x q) : Sm n q := by
  cases h with
  | one i hn h => exact ⟨h, by show 1 < 2 ^ n; have := Nat.pow_le_pow_right (n := 2) (by omega) hn; omega⟩
  | two t b hb h1 h2 => exact sm_divInt (by omega) h1 h2
theorem e_is_ratio {n : Nat} {x : D} {q : Rat} (h : Tells n x q) (st : List D) : m_is_ratio [x] st = .ok (.bl true) st := by
  cases h with
  | one i _ h =>
    unfold m_is_ratio b_is_ratio
    simp [ev1, ev2, ev3, ev4, ev5, bind_ok, mkEnv, get?, ret_ok, dIsi, isiD, tyN, subTy, e_is_whole_int]
  | two t b hb h1 h2 =>
    unfold m_is_ratio b_is_ratio
    simp [ev1, ev2, ev3, ev4, ev5, bind_ok, mkEnv, get?, ret_ok, dIsi, isiD, tyN, subTy, e_is_whole_int, hb]
theorem e_ratio_of {n : Nat} {x : D} {q : Rat} (h : Tells n x q) (hn : n ≤ 8000) (st : List D) : m_ratio_of [x] st = .ok (rD q) st := by
  have hr := e_is_ratio h st
  cases h with
  | one i _ h =>
    unfold m_ratio_of b_ratio_of
    simp [ev1, ev2, ev3, ev4, ev5, bind_ok, mkEnv, get?, ret_ok, dIsi, isiD, tyN, subTy, hr, rD]
  | two t b hb h1 h2 =>
    have := Nat.pow_le_pow_right (n := 2) (by omega) hn
    have hl := e_lowest t b (by omega) (by omega) st
    unfold m_ratio_of b_ratio_of
    simp [ev1, ev2, ev3, ev4, ev5, bind_ok, mkEnv, get?, ret_ok, dIsi, isiD, tyN, subTy, hr, hl]
theorem log_le {a n : Nat} (h : a < 2 ^ n) : a.log2 ≤ n := by
  by_cases h0 : a = 0
  · subst h0; simp
  · exact Nat.le_of_lt ((Nat.log2_lt h0).mpr h)
theorem mulOk_sm {i j : Int} {n m : Nat} (h1 : i.natAbs < 2 ^ n) (h2 : j.natAbs < 2 ^ m) (h : n + m ≤ 8000) : DL.MulOk i j := by
  have := log_le h1
  have := log_le h2
  exact .inr (.inr (by omega))
theorem mul_sm {i j : Int} {n m : Nat} (h1 : i.natAbs < 2 ^ n) (h2 : j.natAbs < 2 ^ m) : (i * j).natAbs < 2 ^ (n + m) := by
  rw [Int.natAbs_mul, Nat.pow_add]
  exact Nat.mul_lt_mul'' h1 h2
theorem add_sm {i j : Int} {n : Nat} (h1 : i.natAbs < 2 ^ n) (h2 : j.natAbs < 2 ^ n) : (i + j).natAbs < 2 ^ (n + 1) := by
  rw [Nat.pow_succ]; omega
theorem sub_sm {i j : Int} {n : Nat} (h1 : i.natAbs < 2 ^ n) (h2 : j.natAbs < 2 ^ n) : (i - j).natAbs < 2 ^ (n + 1) := by
  rw [Nat.pow_succ]; omega
theorem sm_mono {i : Int} {n m : Nat} (h : i.natAbs < 2 ^ n) (hm : n ≤ m) : i.natAbs < 2 ^ m := Nat.lt_of_lt_of_le h (Nat.pow_le_pow_right (by omega) hm)
theorem Sm.den' {n : Nat} {q : Rat} (h : Sm n q) : (q.den : Int).natAbs < 2 ^ n := by simpa using h.2
theorem den0 (q : Rat) : (q.den : Int) ≠ 0 := by have := q.den_pos; omega
theorem add_as (p q : Rat) : p + q = Rat.divInt (p.num * q.den + q.num * p.den) (p.den * q.den) := by
  have h := Rat.divInt_add_divInt p.num q.num (den0 p) (den0 q)
  rwa [Rat.num_divInt_den, Rat.num_divInt_den] at h
theorem sub_as (p q : Rat) : p - q = Rat.divInt (p.num * q.den - q.num * p.den) (p.den * q.den) := by
  have h := Rat.divInt_sub_divInt p.num q.num (den0 p) (den0 q)
  rwa [Rat.num_divInt_den, Rat.num_divInt_den] at h
theorem mul_as (p q : Rat) : p * q = Rat.divInt (p.num * q.num) (p.den * q.den) := by
  have h := Rat.divInt_mul_divInt p.num q.num (d₁ := p.den) (d₂ := q.den)
  rwa [Rat.num_divInt_den, Rat.num_divInt_den] at h
theorem div_as (p q : Rat) : p / q = Rat.divInt (p.num * q.den) (p.den * q.num) := by
  have h := Rat.divInt_mul_divInt p.num q.den (d₁ := p.den) (d₂ := q.num)
  rw [Rat.num_divInt_den, ← Rat.inv_divInt, Rat.num_divInt_den] at h
  rw [Rat.div_def, h]
theorem mul_ne {a b : Int} (h : a ≠ 0) (k : b ≠ 0) : a * b ≠ 0 := Int.mul_ne_zero h k
theorem sm_add {n m : Nat} {p q : Rat} (h : Sm n p) (k : Sm m q) : Sm (n + m + 1) (p + q) := by
  rw [add_as]
  refine sm_divInt (mul_ne (den0 p) (den0 q)) (add_sm (mul_sm h.1 k.den') ?_) (sm_mono (mul_sm h.den' k.den') (by omega))
  rw [Nat.add_comm n m]
  exact mul_sm k.1 h.den'
theorem sm_sub {n m : Nat} {p q : Rat} (h : Sm n p) (k : Sm m q) : Sm (n + m + 1) (p - q) := by
  rw [sub_as]
  refine sm_divInt (mul_ne (den0 p) (den0 q)) (sub_sm (mul_sm h.1 k.den') ?_) (sm_mono (mul_sm h.den' k.den') (by omega))
  rw [Nat.add_comm n m]
  exact mul_sm k.1 h.den'
theorem sm_mul {n m : Nat} {p q : Rat} (h : Sm n p) (k : Sm m q) : Sm (n + m) (p * q) := by
  rw [mul_as]
  exact sm_divInt (mul_ne (den0 p) (den0 q)) (mul_sm h.1 k.1) (mul_sm h.den' k.den')
theorem e_plus {n m : Nat} {x y : D} {p q : Rat} (h : Tells n x p) (k : Tells m y q) (hz : n + m ≤ 7000) (st : List D) : m_plus [x, y] st = .ok (rD (p + q)) st := by
  have h1 := e_ratio_of h (by omega) st
  have h2 := e_ratio_of k (by omega) st
  have m1 : DL.MulOk p.num q.den := mulOk_sm h.sm.1 k.sm.den' (by omega)
  have m2 : DL.MulOk q.num p.den := mulOk_sm k.sm.1 h.sm.den' (by omega)
  have m3 : DL.MulOk p.den q.den := mulOk_sm h.sm.den' k.sm.den' (by omega)
  have m4 : DL.MulOk p.num q.num := mulOk_sm h.sm.1 k.sm.1 (by omega)
  have hl := e_lowest (p.num * q.den + q.num * p.den) (p.den * q.den) (mul_ne (den0 p) (den0 q)) (sm_mono (mul_sm h.sm.den' k.sm.den') (by omega)) st
  rw [← add_as] at hl
  unfold m_plus b_plus
  simp [ev1, ev2, ev3, ev4, ev5, bind_ok, mkEnv, get?, ret_ok, h1, h2, m1, m2, m3, m4, rD, hl]
theorem e_minus {n m : Nat} {x y : D} {p q : Rat} (h : Tells n x p) (k : Tells m y q) (hz : n + m ≤ 7000) (st : List D) : m_minus [x, y] st = .ok (rD (p - q)) st := by
  have h1 := e_ratio_of h (by omega) st
  have h2 := e_ratio_of k (by omega) st
  have m1 : DL.MulOk p.num q.den := mulOk_sm h.sm.1 k.sm.den' (by omega)
  have m2 : DL.MulOk q.num p.den := mulOk_sm k.sm.1 h.sm.den' (by omega)
  have m3 : DL.MulOk p.den q.den := mulOk_sm h.sm.den' k.sm.den' (by omega)
  have m4 : DL.MulOk p.num q.num := mulOk_sm h.sm.1 k.sm.1 (by omega)
  have hl := e_lowest (p.num * q.den - q.num * p.den) (p.den * q.den) (mul_ne (den0 p) (den0 q)) (sm_mono (mul_sm h.sm.den' k.sm.den') (by omega)) st
  rw [← sub_as] at hl
  unfold m_minus b_minus
  simp [ev1, ev2, ev3, ev4, ev5, bind_ok, mkEnv, get?, ret_ok, h1, h2, m1, m2, m3, m4, rD, hl]
theorem e_times {n m : Nat} {x y : D} {p q : Rat} (h : Tells n x p) (k : Tells m y q) (hz : n + m ≤ 7000) (st : List D) : m_times [x, y] st = .ok (rD (p * q)) st := by
  have h1 := e_ratio_of h (by omega) st
  have h2 := e_ratio_of k (by omega) st
  have m1 : DL.MulOk p.num q.den := mulOk_sm h.sm.1 k.sm.den' (by omega)
  have m2 : DL.MulOk q.num p.den := mulOk_sm k.sm.1 h.sm.den' (by omega)
  have m3 : DL.MulOk p.den q.den := mulOk_sm h.sm.den' k.sm.den' (by omega)
  have m4 : DL.MulOk p.num q.num := mulOk_sm h.sm.1 k.sm.1 (by omega)
  have hl := e_lowest (p.num * q.num) (p.den * q.den) (mul_ne (den0 p) (den0 q)) (sm_mono (mul_sm h.sm.den' k.sm.den') (by omega)) st
  rw [← mul_as] at hl
  unfold m_times b_times
  simp [ev1, ev2, ev3, ev4, ev5, bind_ok, mkEnv, get?, ret_ok, h1, h2, m1, m2, m3, m4, rD, hl]
theorem e_over {n m : Nat} {x y : D} {p q : Rat} (h : Tells n x p) (k : Tells m y q) (hz : n + m ≤ 7000) (hq : q ≠ 0) (st : List D) : m_over [x, y] st = .ok (rD (p / q)) st := by
  have h1 := e_ratio_of h (by omega) st
  have h2 := e_ratio_of k (by omega) st
  have hq0 : q.num ≠ 0 := fun z => hq (Rat.num_eq_zero.mp z)
  have m1 : DL.MulOk p.num q.den := mulOk_sm h.sm.1 k.sm.den' (by omega)
  have m2 : DL.MulOk p.den q.num := mulOk_sm h.sm.den' k.sm.1 (by omega)
  have hl := e_lowest (p.num * q.den) (p.den * q.num) (mul_ne (den0 p) hq0) (sm_mono (mul_sm h.sm.den' k.sm.1) (by omega)) st
  rw [← div_as] at hl
  unfold m_over b_over
  simp [ev1, ev2, ev3, ev4, ev5, bind_ok, mkEnv, get?, ret_ok, h1, h2, m1, m2, rD, hl, hq0]
theorem e_over0 {n m : Nat} {x y : D} {p : Rat} (h : Tells n x p) (k : Tells m y 0) (hz : n + m ≤ 7000) (st : List D) : m_over [x, y] st = .err ⟨c_BadRatio, none⟩ st := by
  have h1 := e_ratio_of h (by omega) st
  have h2 := e_ratio_of k (by omega) st
  unfold m_over b_over
  simp [ev1, ev2, ev3, ev4, ev5, bind_ok, mkEnv, get?, ret_ok, h1, h2, rD, mRaise0]
/-- -1, 0, 1 -/
def cmpR (p q : Rat) : Int := if p < q then -1 else if q < p then 1 else 0
theorem e_compare {n m : Nat} {x y : D} {p q : Rat} (h : Tells n x p) (k : Tells m y q) (hz : n + m ≤ 7000) (st : List D) : m_compare [x, y] st = .ok (.int (cmpR p q)) st := by
  have h1 := e_ratio_of h (by omega) st
  have h2 := e_ratio_of k (by omega) st
  have m1 : DL.MulOk p.num q.den := mulOk_sm h.sm.1 k.sm.den' (by omega)
  have m2 : DL.MulOk q.num p.den := mulOk_sm k.sm.1 h.sm.den' (by omega)
  unfold m_compare b_compare cmpR
  by_cases c1 : p < q
  · have d1 := (Rat.lt_iff p q).mp c1
    simp [ev1, ev2, ev3, ev4, ev5, bind_ok, mkEnv, get?, ret_ok, h1, h2, m1, m2, rD, d1, c1]
  · have d1 : ¬ (p.num * q.den < q.num * p.den) := fun z => c1 ((Rat.lt_iff p q).mpr z)
    by_cases c2 : q < p
    · have d2 := (Rat.lt_iff q p).mp c2
      simp [ev1, ev2, ev3, ev4, ev5, bind_ok, mkEnv, get?, ret_ok, h1, h2, m1, m2, rD, d1, d2, c1, c2]
    · have d2 : ¬ (q.num * p.den < p.num * q.den) := fun z => c2 ((Rat.lt_iff q p).mpr z)
      simp [ev1, ev2, ev3, ev4, ev5, bind_ok, mkEnv, get?, ret_ok, h1, h2, m1, m2, rD, d1, d2, c1, c2]
/-! the law's own words -/
theorem low_loop : ∀ (b a : Nat) (t u : D) (st : List D), mWhile (mTru (mVar 3)) (mPar 2 3 (mCons (mVar 3) (mCons (mOp dMod (mCall1 (c1 dInt1) (mCons (mVar 2) (mNil))) (mVar 3)) (mNil)))) [some t, some u, some (.int a), some (.int b)] st = .nx [some t, some u, some (.int (Nat.gcd a b : Nat)), some (.int 0)] st := by
  intro b
  induction b using Nat.strongRecOn with
  | _ b ih =>
    intro a t u st
    rw [mWhile_eq]
    by_cases hb : b = 0
    · subst hb
      simp [ev1, ev2, ev3, ev4, ev5, bind_ok, mkEnv, get?, ret_ok, rD]
    · have hr := ih (a % b) (Nat.mod_lt _ (by omega)) b t u st
      have hb' : (b : Int) ≠ 0 := by omega
      have hm : dMod (.int a) (.int b) = some (.int ((a % b : Nat) : Int)) := by
        rw [dMod_pos _ _ hb', Int.fmod_eq_emod_of_nonneg _ (by omega)]
        rfl
      simp [ev1, ev2, ev3, ev4, ev5, bind_ok, mkEnv, get?, ret_ok, hm, hb, hr]
      rw [Int.natCast_emod] at hr
      rw [hr, Nat.gcd_comm b (a % b), ← Nat.gcd_rec, Nat.gcd_comm]
theorem e_law_low (t b : Int) (hb : b ≠ 0) (hb2 : b.natAbs < 2 ^ 8000) (st : List D) : m__law_low [.int t, .int b] st = .ok (rD (Rat.divInt t b)) st := by
  have hgl : Nat.gcd t.natAbs b.natAbs ≤ b.natAbs := Nat.gcd_le_right _ (by omega)
  have hgp : 0 < Nat.gcd t.natAbs b.natAbs := Nat.gcd_pos_of_pos_right _ (by omega)
  have hlog : (Nat.gcd t.natAbs b.natAbs).log2 < 9000 := by
    have := (Nat.log2_lt (n := Nat.gcd t.natAbs b.natAbs) (k := 8000) (by omega)).mpr (by omega)
    omega
  have d1 : ∀ i, DivOk i ((Nat.gcd t.natAbs b.natAbs : Nat) : Int) := fun i => ⟨by omega, .inl (by simpa using hlog)⟩
  have d2 : ∀ i, DivOk i (-((Nat.gcd t.natAbs b.natAbs : Nat) : Int)) := fun i => ⟨by omega, .inl (by simpa using hlog)⟩
  obtain ⟨h1, h2⟩ := divs t b hb
  have at_ : dAbs (.int t) = some (.int (t.natAbs : Nat)) := congrArg (fun i => some (D.int i)) (by split <;> omega)
  have ab_ : dAbs (.int b) = some (.int (b.natAbs : Nat)) := congrArg (fun i => some (D.int i)) (by split <;> omega)
  have hw := low_loop b.natAbs t.natAbs (.int t) (.int b) st
  unfold m__law_low b__law_low
  by_cases hn : b < 0
  · simp only [ev1, ev2, ev3, bind_ok, mkEnv, get?, ret_ok, List.set_cons_zero, List.set_cons_succ, ev4.2.2.2.2.2.2.2.2.2.2.2.2.1, at_, ab_, hw]
    simp [ev1, ev2, ev3, ev4, ev5, bind_ok, get?, ret_ok, hn, d1, d2]
    simp only [rD, h1, h2, if_pos hn]
    rfl
  · simp only [ev1, ev2, ev3, bind_ok, mkEnv, get?, ret_ok, List.set_cons_zero, List.set_cons_succ, ev4.2.2.2.2.2.2.2.2.2.2.2.2.1, at_, ab_, hw]
    simp [ev1, ev2, ev3, ev4, ev5, bind_ok, get?, ret_ok, hn, d1, d2]
    simp only [rD, h1, h2, if_neg hn]
    rfl
theorem dEq_pair (a b c d : Int) : dEq (.tup [.int a, .int b]) (.tup [.int c, .int d]) = some (.bl (decide (a = c) && decide (b = d))) := by
  have e : dEq (.tup [.int a, .int b]) (.tup [.int c, .int d]) = some (.bl ((a == c) && ((b == d) && true))) := rfl
  rw [e, Bool.and_true, Bool.beq_eq_decide_eq, Bool.beq_eq_decide_eq]
theorem dEq_rD (p q : Rat) : dEq (rD p) (rD q) = some (.bl (decide (p = q))) := by
  unfold rD
  rw [dEq_pair]
  congr 2
  rw [← Bool.decide_and, decide_eq_decide]
  refine ⟨fun ⟨a, b⟩ => Rat.ext a (by omega), fun h => by rw [h]; exact ⟨rfl, rfl⟩⟩
theorem dNe_rD (p q : Rat) : dNe (rD p) (rD q) = some (.bl (!decide (p = q))) := by
  have h := dEq_rD p q
  unfold dEq at h
  unfold dNe
  cases e : eqD (rD p) (rD q) with
  | none => rw [e] at h; cases h
  | some b => rw [e] at h; have := Option.some.inj h; injection this with this; simp [this]
end My

namespace My
open PySem PySem.Spec PyProof.Rows L2 DL
/-! equality of data -/
def Sh (k : Nat) (d : D) : Prop := (toP d).canLay0 = true ∧ (toP d).depth ≤ k
def ShA (k : Nat) (ds : List D) : Prop := PyData.canLayAll0 (toPs ds) = true ∧ PyData.depthAll (toPs ds) ≤ k
theorem ShA.nil {k : Nat} : ShA k [] := ⟨rfl, Nat.zero_le _⟩
theorem ShA.cons {k : Nat} {d : D} {ds : List D} (h : Sh k d) (r : ShA k ds) : ShA k (d :: ds) := by
  obtain ⟨a, b⟩ := h
  obtain ⟨c, e⟩ := r
  constructor
  · show PyData.canLayAll0 (toP d :: toPs ds) = true
    unfold PyData.canLayAll0
    rw [a, c]; rfl
  · show PyData.depthAll (toP d :: toPs ds) ≤ k
    unfold PyData.depthAll
    omega
theorem ShA.map {α : Type} {k : Nat} {f : α → D} (h : ∀ a, Sh k (f a)) : ∀ l : List α, ShA k (l.map f)
  | [] => .nil
  | a :: l => .cons (h a) (ShA.map h l)
theorem Sh.tup {k : Nat} {ds : List D} (h : ShA k ds) : Sh (k + 1) (.tup ds) := by
  obtain ⟨a, b⟩ := h
  refine ⟨?_, ?_⟩
  · show PyData.canLay0 (.tuple (toPs ds)) = true
    unfold PyData.canLay0; exact a
  · show PyData.depth (.tuple (toPs ds)) ≤ k + 1
    unfold PyData.depth; omega
theorem Sh.lst {k : Nat} {ds : List D} (h : ShA k ds) : Sh (k + 1) (.lst ds) := by
  obtain ⟨a, b⟩ := h
  refine ⟨?_, ?_⟩
  · show PyData.canLay0 (.list (toPs ds)) = true
    unfold PyData.canLay0; exact a
  · show PyData.depth (.list (toPs ds)) ≤ k + 1
    unfold PyData.depth; omega
theorem Sh.int (k : Nat) (i : Int) : Sh k (.int i) := ⟨rfl, Nat.zero_le _⟩
theorem Sh.bl (k : Nat) (b : Bool) : Sh k (.bl b) := ⟨rfl, Nat.zero_le _⟩
theorem Sh.non (k : Nat) : Sh k .non := ⟨rfl, Nat.zero_le _⟩
theorem Sh.str (k : Nat) {x : Str} (h : (toP (.str x)).canLay0 = true) : Sh k (.str x) := ⟨h, Nat.zero_le _⟩
theorem Sh.mono {k l : Nat} {d : D} (h : Sh k d) (hk : k ≤ l) : Sh l d := ⟨h.1, Nat.le_trans h.2 hk⟩
def eqv (x y : D) : Bool := PyData.eqv (toP x) (toP y)
def eqvL (xs ys : List D) : Bool := PyData.eqvAll (toPs xs) (toPs ys)
theorem Sh.shaped {k : Nat} {d : D} (h : Sh k d) (hk : k ≤ 64) : SeqAt.shaped (toP d) = true := by
  unfold SeqAt.shaped
  rw [h.1, decide_eq_true (Nat.le_trans h.2 hk)]
  rfl
theorem eqD_of {k l : Nat} {x y : D} (h : Sh k x) (g : Sh l y) (hk : k ≤ 64) (hl : l ≤ 64) : eqD x y = some (eqv x y) := by
  unfold eqD
  rw [if_pos ⟨h.shaped hk, g.shaped hl⟩]
  rfl
theorem dEq_of {k l : Nat} {x y : D} (h : Sh k x) (g : Sh l y) (hk : k ≤ 64 := by decide) (hl : l ≤ 64 := by decide) : dEq x y = some (.bl (eqv x y)) := by
  unfold dEq; rw [eqD_of h g hk hl]; rfl
theorem dNe_of {k l : Nat} {x y : D} (h : Sh k x) (g : Sh l y) (hk : k ≤ 64 := by decide) (hl : l ≤ 64 := by decide) : dNe x y = some (.bl (!eqv x y)) := by
  unfold dNe; rw [eqD_of h g hk hl]; rfl
theorem eqv_tup (xs ys : List D) : eqv (.tup xs) (.tup ys) = eqvL xs ys := by
  show PyData.eqv (.tuple (toPs xs)) (.tuple (toPs ys)) = _
  unfold PyData.eqv; rfl
theorem eqv_lst (xs ys : List D) : eqv (.lst xs) (.lst ys) = eqvL xs ys := by
  show PyData.eqv (.list (toPs xs)) (.list (toPs ys)) = _
  unfold PyData.eqv; rfl
theorem eqvL_cons (x y : D) (xs ys : List D) : eqvL (x :: xs) (y :: ys) = (eqv x y && eqvL xs ys) := by
  show PyData.eqvAll (toP x :: toPs xs) (toP y :: toPs ys) = _
  unfold PyData.eqvAll; rfl
theorem eqvL_nil : eqvL [] [] = true := rfl
theorem eqvL_nc (x : D) (xs : List D) : eqvL [] (x :: xs) = false := rfl
theorem eqvL_cn (x : D) (xs : List D) : eqvL (x :: xs) [] = false := rfl
theorem eqv_int (i j : Int) : eqv (.int i) (.int j) = decide (i = j) := Bool.beq_eq_decide_eq i j
theorem eqv_bl (a b : Bool) : eqv (.bl a) (.bl b) = decide (a = b) := by cases a <;> cases b <;> rfl
theorem eqv_str (x y : Str) : eqv (.str x) (.str y) = (x == y) := rfl
theorem eqvL_map {α : Type} [DecidableEq α] {f : α → D} (h : ∀ a b, eqv (f a) (f b) = decide (a = b)) : ∀ xs ys : List α, eqvL (xs.map f) (ys.map f) = decide (xs = ys)
  | [], [] => rfl
  | [], _ :: _ => by rw [List.map_nil, List.map_cons, eqvL_nc]; simp
  | _ :: _, [] => by rw [List.map_nil, List.map_cons, eqvL_cn]; simp
  | x :: xs, y :: ys => by
    rw [List.map_cons, List.map_cons, eqvL_cons, h, eqvL_map h xs ys, ← Bool.decide_and, decide_eq_decide]
    simp
theorem eqvL_ints (xs ys : List Int) : eqvL (xs.map .int) (ys.map .int) = decide (xs = ys) := eqvL_map eqv_int xs ys
theorem sh_ints (ws : List Int) : Sh 1 (.tup (ws.map .int)) := .tup (.map (.int 0) ws)
/-! rows: fields and == -/
end My

namespace My
open PySem PySem.Spec PyProof.Rows L2 DL
/-! comprehensions that an error may leave, without an error -/
theorem lcX_of_lcD {env : Env'} {g : MG} {mt : MT} {me : ME} : ∀ (ds : List D) {st st' ys : List D}, lcD env g mt me ds st = .ok ys st' → lcX env g mt me ds st = .ok ys st'
  | [], st, st', ys, h => h
  | d :: ds, st, st', ys, h => by
    rw [lcX_cons]
    unfold lcD at h
    cases eg : g d env with
    | none => rw [eg] at h; cases h
    | some env1 =>
      rw [eg] at h
      dsimp only at h ⊢
      cases et : mt env1 st with
      | err x s => rw [et] at h; cases h
      | bad => rw [et] at h; cases h
      | ok k s1 =>
        rw [et] at h
        have h : (if k = true then (noEr (me env1 s1)).bind fun y st2 => (lcD env g mt me ds st2).bind fun ys st3 => Res.ok (y :: ys) st3 else lcD env g mt me ds s1) = .ok ys st' := h
        show (if k = true then (me env1 s1).bind fun y st2 => (lcX env g mt me ds st2).bind fun ys st3 => Res.ok (y :: ys) st3 else lcX env g mt me ds s1) = .ok ys st'
        cases k with
        | false =>
          rw [if_neg Bool.false_ne_true] at h ⊢
          exact lcX_of_lcD ds h
        | true =>
          rw [if_pos rfl] at h ⊢
          cases em : me env1 s1 with
          | err x s => rw [em] at h; cases h
          | bad => rw [em] at h; cases h
          | ok y s2 =>
            rw [em] at h
            have h : ((lcD env g mt me ds s2).bind fun ys st3 => Res.ok (y :: ys) st3) = .ok ys st' := h
            show ((lcX env g mt me ds s2).bind fun ys st3 => Res.ok (y :: ys) st3) = .ok ys st'
            cases e2 : lcD env g mt me ds s2 with
            | err x s => rw [e2] at h; cases h
            | bad => rw [e2] at h; cases h
            | ok ys2 s3 =>
              rw [e2] at h
              rw [lcX_of_lcD ds e2]
              exact h
theorem mLXR_of {mi : MA} {vs : List Nat} {g : MG} {mt : MT} {me : ME} {env : Env'} {st st1 : List D} {ds : List D} (h : mi env st = .ok ds st1) (hd : ds.length ≤ 100000) : mLX mi vs g mt me env st = (lcX (wipeE env vs) g mt me ds st1).bind lstOk := by
  unfold mLX
  rw [h, bind_ok, if_pos (Nat.le_trans hd (by decide))]
theorem mLXC_of {mi : MA} {vs : List Nat} {g : MG} {mt : MT} {me : ME} {env : Env'} {st st1 st2 : List D} {ds ys : List D} (h : mi env st = .ok ds st1) (hd : ds.length ≤ 100000) (k : lcD (wipeE env vs) g mt me ds st1 = .ok ys st2) (hl : ys.length ≤ 100000) : mLX mi vs g mt me env st = .ok (.lst ys) st2 := by
  rw [mLXR_of h hd, lcX_of_lcD ds k, bind_ok]
  unfold lstOk
  rw [if_pos (Nat.le_trans hl (by decide))]
/-- an item's error -/
theorem lcX_err {env : Env'} {g : MG} {mt : MT} {me : ME} {st : List D} {x : Ex} (a : List D) (d : D) (b : List D) {env1 : Env'} (ha : ∀ y ∈ a, ∃ e1 d1, g y env = some e1 ∧ mt e1 st = .ok true st ∧ me e1 st = .ok d1 st) (hg : g d env = some env1) (ht : mt env1 st = .ok true st) (he : me env1 st = .err x st) : lcX env g mt me (a ++ d :: b) st = .err x st := by
  induction a with
  | nil =>
    rw [List.nil_append, lcX_cons, hg]
    simp only [ht, noEr, bind_ok, bind_err, if_true, he]
  | cons y a ih =>
    obtain ⟨e1, d1, h1, h2, h3⟩ := ha y List.mem_cons_self
    rw [List.cons_append, lcX_cons, h1]
    simp only [h2, noEr, bind_ok, if_true, h3]
    rw [ih fun z hz => ha z (List.mem_cons_of_mem _ hz)]
    rfl
end My

namespace My
open PySem PySem.Spec PyProof.Rows L2 DL
/-! rows of ratios brought to whole numbers without a common divisor: plain law -/
def gcdL : List Int → Nat
  | [] => 0
  | t :: ts => Nat.gcd t.natAbs (gcdL ts)
def lcmD : List Rat → Nat
  | [] => 1
  | v :: vs => Nat.lcm v.den (lcmD vs)
def tops (vs : List Rat) : List Int := vs.map fun v => v.num * (((lcmD vs : Nat) : Int) / (v.den : Int))
def low (vs : List Rat) : List Int := if gcdL (tops vs) = 0 then tops vs else (tops vs).map fun t => t / ((gcdL (tops vs) : Nat) : Int)
def Prim (t : List Int) : Prop := gcdL t = 0 ∨ gcdL t = 1
theorem gcdL_mul (m : Nat) : ∀ t : List Int, gcdL (t.map fun a => (m : Int) * a) = m * gcdL t
  | [] => rfl
  | a :: t => by
    show Nat.gcd ((m : Int) * a).natAbs (gcdL (t.map fun a => (m : Int) * a)) = m * Nat.gcd a.natAbs (gcdL t)
    rw [gcdL_mul m t, Int.natAbs_mul, Int.natAbs_natCast, Nat.gcd_mul_left]
theorem gcdL_dvd : ∀ {t : List Int} {a : Int}, a ∈ t → ((gcdL t : Nat) : Int) ∣ a
  | b :: t, a, h => by
    have h0 : gcdL (b :: t) = Nat.gcd b.natAbs (gcdL t) := rfl
    rcases List.mem_cons.mp h with rfl | h
    · rw [h0]; exact Int.ofNat_dvd_left.mpr (Nat.gcd_dvd_left _ _)
    · exact Int.dvd_trans (Int.natCast_dvd_natCast.mpr (h0 ▸ Nat.gcd_dvd_right _ _)) (gcdL_dvd h)
theorem gcdL_zero {t : List Int} (h : gcdL t = 0) : ∀ a ∈ t, a = 0 := fun a ha => by
  have := gcdL_dvd ha
  rw [h] at this
  exact Int.zero_dvd.mp this
theorem lcmD_pos : ∀ vs : List Rat, 0 < lcmD vs
  | [] => by decide
  | v :: vs => Nat.lcm_pos v.den_pos (lcmD_pos vs)
theorem lcmD_dvd : ∀ {vs : List Rat} {v : Rat}, v ∈ vs → v.den ∣ lcmD vs
  | u :: vs, v, h => by
    have h0 : lcmD (u :: vs) = Nat.lcm u.den (lcmD vs) := rfl
    rcases List.mem_cons.mp h with rfl | h
    · rw [h0]; exact Nat.dvd_lcm_left _ _
    · rw [h0]; exact Nat.dvd_trans (lcmD_dvd h) (Nat.dvd_lcm_right _ _)
theorem lcmD_least {N : Nat} : ∀ {vs : List Rat}, (∀ v ∈ vs, v.den ∣ N) → lcmD vs ∣ N
  | [], _ => Nat.one_dvd _
  | v :: vs, h => Nat.lcm_dvd (h v List.mem_cons_self) (lcmD_least fun u hu => h u (List.mem_cons_of_mem _ hu))
theorem map_rel {α β γ δ : Type} {f : α → γ} {g : β → γ} {f' : α → δ} {g' : β → δ} (h : ∀ a b, f a = g b → f' a = g' b) : ∀ (s : List α) (t : List β), s.map f = t.map g → s.map f' = t.map g'
  | [], [], _ => rfl
  | [], _ :: _, e => by simp at e
  | _ :: _, [], e => by simp at e
  | a :: s, b :: t, e => by
    rw [List.map_cons, List.map_cons, List.cons.injEq] at e
    rw [List.map_cons, List.map_cons, h a b e.1, map_rel h s t e.2]
theorem den_ne (q : Rat) : (q.den : Rat) ≠ 0 := by
  intro e
  have := (Rat.natCast_inj (a := q.den) (b := 0)).mp (by simpa using e)
  exact absurd this (Nat.pos_iff_ne_zero.mp q.den_pos)
theorem mul_den' (q : Rat) : q * ((q.den : Nat) : Rat) = (q.num : Rat) := by
  have h0 := Rat.num_divInt_den q
  rw [Rat.divInt_eq_div] at h0
  have h1 : ((q.den : Int) : Rat) = (q.den : Rat) := rfl
  rw [h1] at h0
  have h2 := den_ne q
  grind
theorem icast_inj {a b : Int} (h : (a : Rat) = (b : Rat)) : a = b := by
  have := congrArg Rat.num h
  simpa using this
theorem div_pos' {a b : Rat} (ha : 0 < a) (hb : 0 < b) : 0 < a / b := by
  have h1 : a / b * b = a := by
    have : b ≠ 0 := by grind
    grind
  by_cases h : 0 < a / b
  · exact h
  · have h2 : 0 ≤ -(a / b) := by grind
    have h3 := Rat.mul_nonneg h2 (by grind : 0 ≤ b)
    grind
theorem num_pos' {q : Rat} (h : 0 < q) : 0 < q.num := by
  have := (Rat.lt_iff 0 q).mp h
  simpa using this
/-- two primitive rows in one direction are one row -/
theorem prim_uniq {c d : Rat} {s t : List Int} (hc : 0 < c) (hd : 0 < d) (e : (s.map fun (a : Int) => c * (a : Rat)) = t.map fun (a : Int) => d * (a : Rat)) (hs : Prim s) (ht : Prim t) : s = t := by
  obtain ⟨r, hr⟩ : ∃ r : Rat, r = c / d := ⟨_, rfl⟩
  have hr0 : 0 < r := by rw [hr]; exact div_pos' hc hd
  have hn0 : 0 < r.num := num_pos' hr0
  obtain ⟨n, hn⟩ : ∃ n : Nat, r.num = (n : Int) := ⟨r.num.toNat, by omega⟩
  have hmd : r * (r.den : Rat) = (r.num : Rat) := mul_den' r
  have key : ∀ a b : Int, c * (a : Rat) = d * (b : Rat) → (n : Int) * a = (r.den : Int) * b := fun a b h => by
    apply icast_inj
    rw [Rat.intCast_mul, Rat.intCast_mul, ← hn, ← hmd]
    have h1 : ((r.den : Int) : Rat) = (r.den : Rat) := rfl
    rw [h1]
    have h2 : r * (a : Rat) = (b : Rat) := by
      rw [hr]
      have : d ≠ 0 := by grind
      grind
    rw [← h2]
    grind
  have e2 := map_rel key s t e
  have hg := congrArg gcdL e2
  rw [gcdL_mul, gcdL_mul] at hg
  have hdp := r.den_pos
  have zz : ∀ {s t : List Int}, gcdL s = 0 → gcdL t = 0 → s.length = t.length → s = t := fun {s t} a b l => by
    have h1 := List.eq_replicate_iff.mpr ⟨rfl, gcdL_zero a⟩
    have h2 := List.eq_replicate_iff.mpr ⟨rfl, gcdL_zero b⟩
    rw [h1, h2, l]
  have hlen : s.length = t.length := by simpa using congrArg List.length e
  rcases hs with hs | hs <;> rcases ht with ht | ht
  · exact zz hs ht hlen
  · rw [hs, ht] at hg; omega
  · rw [hs, ht] at hg; omega
  · rw [hs, ht] at hg
    have hnm : n = r.den := by omega
    have e3 := map_rel (f' := fun a : Int => a) (g' := fun a : Int => a) (fun a b h => by
      have := key a b h
      rw [hnm] at this
      exact Int.eq_of_mul_eq_mul_left (by omega) this) s t e
    simpa using e3
theorem tops_at {vs : List Rat} {v : Rat} (h : v ∈ vs) : (((v.num * (((lcmD vs : Nat) : Int) / (v.den : Int)) : Int)) : Rat) = v * (lcmD vs : Rat) := by
  obtain ⟨k, hk⟩ := lcmD_dvd h
  have h1 : ((lcmD vs : Nat) : Int) / (v.den : Int) = (k : Int) := by
    rw [hk, Int.natCast_mul]
    exact Int.mul_ediv_cancel_left _ (by have := v.den_pos; omega)
  rw [h1, hk, Rat.intCast_mul, Rat.natCast_mul, ← mul_den' v, Rat.mul_assoc]
  rfl
theorem ncast_pos {n : Nat} (h : 0 < n) : (0 : Rat) < (n : Rat) := by
  have : ((0 : Nat) : Rat) < (n : Rat) := Rat.natCast_lt_natCast.mpr h
  simpa using this
theorem low_spec (vs : List Rat) : ∃ c : Rat, 0 < c ∧ vs = ((low vs).map fun (t : Int) => c * (t : Rat)) ∧ Prim (low vs) := by
  have hL := ncast_pos (lcmD_pos vs)
  have h1 : vs = (tops vs).map fun (t : Int) => (1 / (lcmD vs : Rat)) * (t : Rat) := by
    unfold tops
    rw [List.map_map]
    have : vs.map id = vs.map ((fun (t : Int) => (1 / (lcmD vs : Rat)) * (t : Rat)) ∘ fun v => v.num * (((lcmD vs : Nat) : Int) / (v.den : Int))) := List.map_congr_left fun v hv => by
      show v = (1 / (lcmD vs : Rat)) * ((v.num * (((lcmD vs : Nat) : Int) / (v.den : Int)) : Int) : Rat)
      rw [tops_at hv]
      have : (lcmD vs : Rat) ≠ 0 := by grind
      grind
    rw [List.map_id] at this
    exact this
  unfold low
  by_cases g0 : gcdL (tops vs) = 0
  · rw [if_pos g0]
    exact ⟨_, div_pos' (by decide) hL, h1, .inl g0⟩
  · rw [if_neg g0]
    have hg := ncast_pos (Nat.pos_of_ne_zero g0)
    have back : (((tops vs).map fun t => t / ((gcdL (tops vs) : Nat) : Int)).map fun t => ((gcdL (tops vs) : Nat) : Int) * t) = tops vs := by
      rw [List.map_map]
      have : (tops vs).map ((fun t => ((gcdL (tops vs) : Nat) : Int) * t) ∘ fun t => t / ((gcdL (tops vs) : Nat) : Int)) = (tops vs).map id := List.map_congr_left fun t ht => Int.mul_ediv_cancel' (gcdL_dvd ht)
      rw [this, List.map_id]
    refine ⟨(gcdL (tops vs) : Rat) * (1 / (lcmD vs : Rat)), Rat.mul_pos hg (div_pos' (by decide) hL), ?_, .inr ?_⟩
    · rw [List.map_map]
      have : (tops vs).map ((fun (t : Int) => ((gcdL (tops vs) : Rat) * (1 / (lcmD vs : Rat))) * (t : Rat)) ∘ fun t => t / ((gcdL (tops vs) : Nat) : Int)) = (tops vs).map fun (t : Int) => (1 / (lcmD vs : Rat)) * (t : Rat) := List.map_congr_left fun t ht => by
        show ((gcdL (tops vs) : Rat) * (1 / (lcmD vs : Rat))) * ((t / ((gcdL (tops vs) : Nat) : Int) : Int) : Rat) = (1 / (lcmD vs : Rat)) * (t : Rat)
        have hq : ((gcdL (tops vs) : Rat)) * ((t / ((gcdL (tops vs) : Nat) : Int) : Int) : Rat) = (t : Rat) := by
          have := congrArg (fun i : Int => (i : Rat)) (Int.mul_ediv_cancel' (gcdL_dvd ht))
          simp only [Rat.intCast_mul] at this
          exact this
        rw [← hq]
        grind
      rw [this]
      exact h1
    · have := congrArg gcdL back
      rw [gcdL_mul] at this
      exact Nat.eq_of_mul_eq_mul_left (Nat.pos_of_ne_zero g0) (by rw [Nat.mul_one]; exact this)
theorem low_prim (vs : List Rat) : Prim (low vs) := (low_spec vs).choose_spec.2.2
theorem low_len (vs : List Rat) : (low vs).length = vs.length := by
  obtain ⟨c, _, h, _⟩ := low_spec vs
  have := congrArg List.length h
  rw [List.length_map] at this
  exact this.symm
theorem low_eq {vs : List Rat} {t : List Int} {c : Rat} (hc : 0 < c) (h : vs = t.map fun (a : Int) => c * (a : Rat)) (p : Prim t) : low vs = t := by
  obtain ⟨d, hd, h2, h3⟩ := low_spec vs
  exact prim_uniq hd hc (h2.symm.trans h) h3 p
theorem low_mul {vs : List Rat} {q : Rat} (hq : 0 < q) : low (vs.map fun v => v * q) = low vs := by
  obtain ⟨d, hd, h2, h3⟩ := low_spec vs
  refine low_eq (Rat.mul_pos hd hq) ?_ h3
  have := congrArg (List.map fun v => v * q) h2
  rw [this, List.map_map]
  exact List.map_congr_left fun a _ => by
    show d * (a : Rat) * q = d * q * (a : Rat)
    grind
theorem low_int {t : List Int} (p : Prim t) : low (t.map fun (a : Int) => (a : Rat)) = t :=
  low_eq (c := 1) (by decide) (List.map_congr_left fun a _ => by rw [Rat.one_mul]) p
theorem low_low (vs : List Rat) : low ((low vs).map fun (a : Int) => (a : Rat)) = low vs := low_int (low_prim vs)
/-- equal least rows: one row is the other times a ratio above 0 -/
theorem low_ratio {vs us : List Rat} (h : low vs = low us) : ∃ c : Rat, 0 < c ∧ us = vs.map fun v => v * c := by
  obtain ⟨c, hc, h2, _⟩ := low_spec vs
  obtain ⟨d, hd, h3, _⟩ := low_spec us
  refine ⟨d / c, div_pos' hd hc, ?_⟩
  have := congrArg (List.map fun v => v * (d / c)) h2
  rw [this, List.map_map, h3, ← h]
  exact List.map_congr_left fun a _ => by
    show d * (a : Rat) = c * (a : Rat) * (d / c)
    have : c ≠ 0 := by grind
    grind
theorem tops_len (vs : List Rat) : (tops vs).length = vs.length := List.length_map ..
end My

namespace My
open PySem PySem.Spec PyProof.Rows L2 DL
/-! stepping through a body, statement by statement, without writing the slots -/
def seqK (o : Out) (b : MS) : Out := match o with
  | .nx e s => b e s
  | o => o
theorem mSeq_k (a b : MS) (env : Env') (st : List D) : mSeq a b env st = seqK (a env st) b := by
  unfold mSeq seqK
  cases a env st <;> rfl
theorem seqK_nx (e : Env') (s : List D) (b : MS) : seqK (.nx e s) b = b e s := rfl
theorem seqK_rt (d : D) (s : List D) (b : MS) : seqK (.rt d s) b = .rt d s := rfl
theorem seqK_er (x : Ex) (e : Env') (s : List D) (b : MS) : seqK (.er x e s) b = .er x e s := rfl
/-- the law's end -/
def RetT (o : Out) : Prop := ∃ s, o = .rt (.bl true) s
theorem RetT.mk (s : List D) : RetT (.rt (.bl true) s) := ⟨s, rfl⟩
/-- a function's end, the state left open -/
def Ends (o : Out) (P : D → List D → Prop) : Prop := ∃ d s, o = .rt d s ∧ P d s
end My

namespace My
open PySem PySem.Spec PyProof.Rows L2 DL
/-! words that serve any law -/
def NoWhole (d : D) : Prop := ∀ st, m_is_whole [d] st = .ok (.bl false) st
theorem nw_of {d : D} (h : dIsi [d, .ty "int"] = some (.bl false) ∨ dIsi [d, .ty "bool"] = some (.bl true)) (h2 : ∃ b, dIsi [d, .ty "int"] = some (.bl b)) : NoWhole d := fun st => by
  unfold m_is_whole b_is_whole
  obtain ⟨b, hb⟩ := h2
  rcases h with h | h
  · simp only [ev, bind_ok, bind_err, get?, ret_ok, List.set_cons_zero, List.set_cons_succ, if_true, if_false, ite_true, ite_false, Bool.false_eq_true, Bool.not_true, Bool.not_false, Bool.and_true, Bool.true_and, Bool.and_false, Bool.false_and, decide_true, decide_false, not_true_eq_false, not_false_eq_true, mkEnv, h]
  · cases b
    · simp only [ev, bind_ok, bind_err, get?, ret_ok, List.set_cons_zero, List.set_cons_succ, if_true, if_false, ite_true, ite_false, Bool.false_eq_true, Bool.not_true, Bool.not_false, Bool.and_true, Bool.true_and, Bool.and_false, Bool.false_and, decide_true, decide_false, not_true_eq_false, not_false_eq_true, mkEnv, h, hb]
    · simp only [ev, bind_ok, bind_err, get?, ret_ok, List.set_cons_zero, List.set_cons_succ, if_true, if_false, ite_true, ite_false, Bool.false_eq_true, Bool.not_true, Bool.not_false, Bool.and_true, Bool.true_and, Bool.and_false, Bool.false_and, decide_true, decide_false, not_true_eq_false, not_false_eq_true, mkEnv, h, hb]
theorem raise1 (c : Nat) (f : Str) (d : D) (env : Env') (st : List D) : raiseR c [f] env (.ok [d] st) = .er ⟨c, some [(f, d)]⟩ env st := rfl
theorem fn3 {m : MS} {a b : D} {st : List D} : fnM 3 m [a, b] st = outR (m [some a, some b, none] st) := fnM_eq (by simp)
theorem fn2 {m : MS} {a : D} {st : List D} : fnM 2 m [a] st = outR (m [some a, none] st) := fnM_eq (by simp)
theorem chain_lt {mc : List D → Res D} {a b c : Int} {st : List D} (h : mc st = .ok (.int c) st) : chainR dLe dLt mc (.int a) (.int b) st = .ok (.bl (decide (a ≤ b) && decide (b < c))) st := by
  unfold chainR
  have e : dLe (.int a) (.int b) = some (.bl (decide (a ≤ b))) := rfl
  rw [e]
  by_cases hab : a ≤ b
  · simp only [hab, decide_true, h, bind_ok, Bool.true_and]; rfl
  · simp only [hab, decide_false, Bool.false_and]
theorem log2_lt' {n k : Nat} (h0 : n ≠ 0) (h : n < 2 ^ k) : n.log2 < k := (Nat.log2_lt h0).mpr h
theorem drB (n : Int) (k : Nat) (h0 : 0 < n) (h1 : n.natAbs < 2 ^ k) (hk : k ≤ 9000) (st : List D) (hs : HandOk st) : ∃ (r : Int) (st' : List D), 0 ≤ r ∧ r < n ∧ HandOk st' ∧ m__law_draw [.tok 0, .int n] st = .ok (.int r) st' :=
  e_draw n h0 (by have := log2_lt' (n := n.natAbs) (k := k) (by omega) h1; omega) st hs
/-- flat data: equal to itself, and == answers -/
def Rf (d : D) : Prop := Sh 2 d ∧ eqv d d = true
def RfL (ds : List D) : Prop := ShA 2 ds ∧ eqvL ds ds = true
theorem Rf.int (i : Int) : Rf (.int i) := ⟨.int 2 i, by rw [eqv_int, decide_eq_true rfl]⟩
theorem Rf.pair (a b : Int) : Rf (.tup [.int a, .int b]) := ⟨(Sh.tup (k := 0) (.cons (.int 0 a) (.cons (.int 0 b) .nil))).mono (by decide), by rw [eqv_tup, eqvL_cons, eqvL_cons, eqvL_nil, eqv_int, eqv_int]; simp⟩
theorem RfL.nil : RfL [] := ⟨.nil, rfl⟩
theorem RfL.cons {d : D} {ds : List D} (h : Rf d) (r : RfL ds) : RfL (d :: ds) := ⟨.cons h.1 r.1, by rw [eqvL_cons, h.2, r.2]; rfl⟩
theorem RfL.dNe {xs : List D} (h : RfL xs) : dNe (.lst xs) (.lst xs) = some (.bl false) := by
  rw [dNe_of (Sh.lst h.1) (Sh.lst h.1), eqv_lst, h.2]; rfl
theorem RfL.dEq {xs : List D} (h : RfL xs) : dEq (.lst xs) (.lst xs) = some (.bl true) := by
  rw [dEq_of (Sh.lst h.1) (Sh.lst h.1), eqv_lst, h.2]
theorem Rf.str {x : Str} (h : (toP (.str x)).canLay0 = true) : Rf (.str x) := ⟨.str 2 h, by rw [eqv_str]; simp⟩
theorem ints_of' {P : Int → Prop} : ∀ ys : List D, (∀ y ∈ ys, ∃ w, P w ∧ y = .int w) → ∃ ws : List Int, ys = ws.map .int ∧ ∀ w ∈ ws, P w
  | [], _ => ⟨[], rfl, fun w hw => by cases hw⟩
  | y :: ys, h => by
    obtain ⟨w, p, rfl⟩ := h y List.mem_cons_self
    obtain ⟨ws, rfl, ps⟩ := ints_of' ys fun x hx => h x (List.mem_cons_of_mem _ hx)
    exact ⟨w :: ws, rfl, fun x hx => (List.mem_cons.mp hx).elim (fun e => e ▸ p) (ps x)⟩
theorem cut_take (xs : List D) (k : Nat) : DL.cutD xs none (some (k : Int)) = xs.take k := by
  unfold DL.cutD
  rw [HT.sIx_none, HT.sIx_nat]
  simp [List.take_eq_take_iff]
theorem cut_drop (xs : List D) (k : Nat) : DL.cutD xs (some (k : Int)) none = xs.drop k := by
  unfold DL.cutD
  rw [HT.sIx_none, HT.sIx_nat]
  by_cases h : k ≤ xs.length
  · rw [Nat.min_eq_left h, List.take_of_length_le (by simp)]
  · rw [Nat.min_eq_right (by omega), List.drop_of_length_le (Nat.le_refl _), List.drop_of_length_le (by omega)]; simp
theorem cut_last (xs : List D) : DL.cutD xs none (some (-1)) = xs.take (xs.length - 1) := by
  unfold DL.cutD
  have h1 : HT.sIx xs.length 0 none = 0 := rfl
  have h2 : HT.sIx xs.length xs.length (some (-1)) = xs.length - 1 := by
    show (if (-1 : Int) < 0 then ((-1 : Int) + (xs.length : Int)).toNat else min (-1 : Int).toNat xs.length) = _
    rw [if_pos (by decide)]
    omega
  rw [h1, h2]; simp
theorem addL (a b : List D) (h : a.length + b.length ≤ 100) : dAdd (.lst a) (.lst b) = some (.lst (a ++ b)) := by
  show (if a.length + b.length ≤ sizeLine then _ else _) = _
  rw [if_pos (Nat.le_trans h (by decide))]
theorem mSl_of {m : ME} {l h : MO} {env : Env'} {st s1 s2 s3 : List D} {xs : List D} {lo hi : Option Int} (hm : m env st = .ok (.lst xs) s1) (hl : l env s1 = .ok lo s2) (hh : h env s2 = .ok hi s3) : mSl m l h env st = .ok (.lst (DL.cutD xs lo hi)) s3 := by
  unfold mSl
  rw [hm, bind_ok, hl, bind_ok, hh, bind_ok]; rfl
theorem mPart_of {m : ME} {env : Env'} {st s1 : List D} {i : Int} (hm : m env st = .ok (.int i) s1) : mPart m env st = .ok (some i) s1 := by
  unfold mPart
  rw [hm]; rfl
theorem mNo_of {env : Env'} {st : List D} : mNo env st = .ok none st := rfl
theorem repL {d : D} {k : Nat} (h : k ≤ 1000) : dMul (.lst [d]) (.int (k : Int)) = some (.lst (repD k [d])) := by
  have h2 : (k : Int) ≤ (1000 : Int) := Int.ofNat_le.mpr h
  have hz : (1000 : Nat) ≤ sizeLine := by decide
  have hc : -(2 ^ 63) ≤ (k : Int) ∧ (k : Int) < 2 ^ 63 ∧ [d].length * (k : Int).toNat ≤ sizeLine := ⟨Int.le_trans (by decide : -(2 ^ 63) ≤ (0 : Int)) (Int.natCast_nonneg k), Int.lt_of_le_of_lt h2 (by decide), by rw [Int.toNat_natCast, List.length_singleton]; omega⟩
  have e : dMul (.lst [d]) (.int (k : Int)) = @ite _ (-(2 ^ 63) ≤ (k : Int) ∧ (k : Int) < 2 ^ 63 ∧ [d].length * (k : Int).toNat ≤ sizeLine) (Classical.propDecidable _) (some (.lst (repD (k : Int).toNat [d]))) none := rfl
  rw [e, if_pos hc, Int.toNat_natCast]
theorem rep_len (d : D) (k : Nat) : (repD k [d]).length = k := by
  unfold repD
  rw [List.length_flatten, List.map_replicate, List.sum_replicate_nat, List.length_singleton, Nat.mul_one]
theorem forD_rt {g : MG} {body : MS} {d : D} {ds : List D} {env e1 e2 : Env'} {st s1 : List D} (hg : g d env = some e1) (hb : body e1 st = .nx e2 s1) : forD g body (d :: ds) env st = forD g body ds e2 s1 := by
  rw [forD_cons, hg]
  simp only [hb]
theorem xf_of {c : Nat} {fs : List (Str × D)} {env : Env'} {i : Nat} {d : D} {b : Bool} {st : List D} (he : env[i]? = some (some (.obj c fs))) (ht : tabX c d = some b) : mIsXF i tabX (mC d) env st = .ok (.bl b) st := by
  unfold mIsXF
  rw [he]
  show ret? ((tabX c d).map .bl) st = _
  rw [ht]; rfl
theorem drK {n : Nat} (h0 : 1 ≤ n) (h1 : n ≤ 40) (st : List D) (hs : HandOk st) : ∃ (r : Nat) (st' : List D), r < n ∧ HandOk st' ∧ m__law_draw [.tok 0, .int (n : Int)] st = .ok (.int (r : Int)) st' := by
  obtain ⟨r, s, a, b, k, e⟩ := drB (n : Int) 6 (by omega) (by omega) (by decide) st hs
  obtain ⟨r', rfl⟩ : ∃ r' : Nat, r = r' := ⟨r.toNat, by omega⟩
  exact ⟨r', s, by omega, k, e⟩
theorem lcD_filterL {env : Env'} {g : MG} {mt : MT} {me : ME} {st : List D} {α : Type} (u : α → D) (c : α → Bool) (l : List α) (h : ∀ a ∈ l, ∃ env1, g (u a) env = some env1 ∧ mt env1 st = .ok (c a) st ∧ me env1 st = .ok (u a) st) : lcD env g mt me (l.map u) st = .ok ((l.filter c).map u) st := by
  induction l with
  | nil => rfl
  | cons a l ih =>
    obtain ⟨e1, h1, h2, h3⟩ := h a List.mem_cons_self
    have ih := ih fun b hb => h b (List.mem_cons_of_mem _ hb)
    rw [List.map_cons]
    unfold lcD
    simp only [h1]
    rw [h2]
    simp only [noEr, bind_ok]
    by_cases hc : c a = true
    · rw [if_pos hc, h3, List.filter_cons_of_pos hc]
      simp only [bind_ok]
      rw [ih]
      rfl
    · rw [if_neg hc, List.filter_cons_of_neg hc, ih]
end My

namespace My
open PySem PySem.Spec PyProof.Rows L2 DL
/-! k02: helpers; the program's least row for any sizes; odd things -/
theorem seq_ifF56 {c : MT} {a rest : MS} {env : Env'} {st s : List D} (h : c env st = .ok false s) : mSeq (mIfS c a mNx) rest env st = rest env s := by
  rw [mSeq_k]
  simp only [ev3, h, Bool.false_eq_true, if_false, seqK_nx]
theorem mIfS_t {c : MT} {a b : MS} {env : Env'} {st s : List D} (h : c env st = .ok true s) : mIfS c a b env st = a env s := by
  simp only [ev3, h, if_true]
theorem mIfS_f {c : MT} {a b : MS} {env : Env'} {st s : List D} (h : c env st = .ok false s) : mIfS c a b env st = b env s := by
  simp only [ev3, h, Bool.false_eq_true, if_false]
def SeqD (d : D) (xs : List D) : Prop := d = .lst xs ∨ d = .tup xs
theorem SeqD.len {d : D} {xs : List D} (h : SeqD d xs) : c1 dLen [d] = some (.int (xs.length : Nat)) := by rcases h with rfl | rfl <;> rfl
theorem SeqD.len' {d : D} {xs : List D} (h : SeqD d xs) : dLen d = some (.int (xs.length : Nat)) := by rcases h with rfl | rfl <;> rfl
theorem SeqD.isi {d : D} {xs : List D} (h : SeqD d xs) : dIsi [d, .tup [.ty "list", .ty "tuple"]] = some (.bl true) := by
  rcases h with rfl | rfl <;> rfl
theorem SeqD.tup {d : D} {xs : List D} (h : SeqD d xs) : c1 dTuple [d] = some (.tup xs) := by rcases h with rfl | rfl <;> rfl
theorem SeqD.items {d : D} {xs : List D} (h : SeqD d xs) (st : List D) : DL.items? d st = .ok xs st := by rcases h with rfl | rfl <;> rfl
theorem SeqD.inj {d : D} {xs ys : List D} (h : SeqD d xs) (k : SeqD d ys) : xs = ys := by
  rcases h with rfl | rfl <;> rcases k with k | k <;> cases k <;> rfl
inductive TL (n : Nat) : List D → List Rat → Prop
  | nil : TL n [] []
  | cons {x : D} {v : Rat} {xs : List D} {vs : List Rat} : Tells n x v → TL n xs vs → TL n (x :: xs) (v :: vs)
theorem TL.len {n : Nat} : ∀ {xs : List D} {vs : List Rat}, TL n xs vs → xs.length = vs.length
  | _, _, .nil => rfl
  | _, _, .cons _ r => congrArg (· + 1) r.len
theorem Tells.mono {n m : Nat} {d : D} {q : Rat} (h : Tells n d q) (hm : n ≤ m) : Tells m d q := by
  cases h with
  | one i a b => exact .one i (by omega) (sm_mono b hm)
  | two t b h0 h1 h2 => exact .two t b h0 (sm_mono h1 hm) (sm_mono h2 hm)
theorem TL.mono {n m : Nat} (hm : n ≤ m) : ∀ {xs : List D} {vs : List Rat}, TL n xs vs → TL m xs vs
  | _, _, .nil => .nil
  | _, _, .cons h r => .cons (h.mono hm) (r.mono hm)
theorem TL.sm {n : Nat} : ∀ {xs : List D} {vs : List Rat}, TL n xs vs → ∀ v ∈ vs, Sm n v
  | _, _, .nil, _, hv => by cases hv
  | _, _, .cons h r, v, hv => by
    rcases List.mem_cons.mp hv with rfl | hv
    · exact h.sm
    · exact r.sm v hv
theorem TL.app {n : Nat} {x : D} {v : Rat} (h : Tells n x v) : ∀ {xs : List D} {vs : List Rat}, TL n xs vs → TL n (xs ++ [x]) (vs ++ [v])
  | _, _, .nil => .cons h .nil
  | _, _, .cons a r => .cons a (r.app h)
theorem Tells.sh {n : Nat} {d : D} {q : Rat} (h : Tells n d q) : Sh 1 d := by
  cases h with
  | one i => exact .int 1 i
  | two t b => exact .tup (.cons (.int 0 _) (.cons (.int 0 _) .nil))
theorem ixr0 (q : Rat) (st : List D) : ixS (rD q) (.int 0) st = .ok (.int q.num) st := rfl
theorem ixr1 (q : Rat) (st : List D) : ixS (rD q) (.int 1) st = .ok (.int (q.den : Int)) st := rfl
theorem lcmD_lt {b : Nat} : ∀ vs : List Rat, (∀ v ∈ vs, Sm b v) → lcmD vs ≤ 2 ^ (b * vs.length)
  | [], _ => Nat.one_le_two_pow
  | v :: vs, h => by
    have ih := lcmD_lt vs fun u hu => h u (List.mem_cons_of_mem _ hu)
    have hv := (h v List.mem_cons_self).2
    have h1 : Nat.lcm v.den (lcmD vs) ≤ v.den * lcmD vs := Nat.le_of_dvd (Nat.mul_pos v.den_pos (lcmD_pos vs)) (Nat.lcm_dvd_mul _ _)
    show Nat.lcm v.den (lcmD vs) ≤ _
    rw [List.length_cons, Nat.mul_add, Nat.mul_one, Nat.add_comm, Nat.pow_add]
    exact Nat.le_trans h1 (Nat.mul_le_mul (Nat.le_of_lt hv) ih)
theorem tops_lt {b : Nat} {vs : List Rat} (h : ∀ v ∈ vs, Sm b v) : ∀ t ∈ tops vs, t.natAbs ≤ 2 ^ (b + b * vs.length) := fun t ht => by
  obtain ⟨v, hv, rfl⟩ := List.mem_map.mp ht
  rw [Int.natAbs_mul, Nat.pow_add]
  refine Nat.mul_le_mul (Nat.le_of_lt (h v hv).1) ?_
  rw [← Int.natCast_ediv, Int.natAbs_natCast]
  exact Nat.le_trans (Nat.div_le_self _ _) (lcmD_lt vs h)
theorem low_lt {b : Nat} {vs : List Rat} (h : ∀ v ∈ vs, Sm b v) : ∀ t ∈ low vs, t.natAbs ≤ 2 ^ (b + b * vs.length) := fun t ht => by
  unfold low at ht
  by_cases g0 : gcdL (tops vs) = 0
  · rw [if_pos g0] at ht; exact tops_lt h t ht
  · rw [if_neg g0] at ht
    obtain ⟨u, hu, rfl⟩ := List.mem_map.mp ht
    refine Nat.le_trans ?_ (tops_lt h u hu)
    exact Int.natAbs_ediv_le_natAbs _ _
theorem gcdL_lt {k : Nat} : ∀ t : List Int, (∀ a ∈ t, a.natAbs ≤ 2 ^ k) → gcdL t ≤ 2 ^ k
  | [], _ => Nat.zero_le _
  | a :: t, h => by
    have ih := gcdL_lt t fun u hu => h u (List.mem_cons_of_mem _ hu)
    show Nat.gcd a.natAbs (gcdL t) ≤ _
    by_cases z : a.natAbs = 0
    · rw [z, Nat.gcd_zero_left]; exact ih
    · exact Nat.le_trans (Nat.gcd_le_left _ (Nat.pos_of_ne_zero z)) (h a List.mem_cons_self)
theorem gcd_log {k : Nat} {t : List Int} (h : ∀ a ∈ t, a.natAbs ≤ 2 ^ k) (hk : k < 8000) (h0 : gcdL t ≠ 0) : (gcdL t).log2 < 9000 := by
  have := gcdL_lt t h
  have h1 : (2 : Nat) ^ k < 2 ^ (k + 1) := Nat.pow_lt_pow_right (by decide) (by omega)
  have := log2_lt' (k := k + 1) h0 (by omega)
  omega
theorem tl_ratio {b : Nat} (hb : b ≤ 2000) {env : Env'} {st : List D} {g : MG} {me : ME} (h : ∀ x v, Tells b x v → ∃ env1, g x env = some env1 ∧ me env1 st = .ok (rD v) st) : ∀ {xs : List D} {vs : List Rat}, TL b xs vs → lcD env g mYes me xs st = .ok (vs.map rD) st
  | _, _, .nil => rfl
  | _, _, .cons (x := x) (v := v) (xs := xs) (vs := vs) t r => by
    obtain ⟨e1, h1, h2⟩ := h x v t
    have ih := tl_ratio hb h r
    unfold lcD
    simp only [h1, mYes, noEr, bind_ok, if_true]
    rw [h2]
    simp only [bind_ok, ih, List.map_cons]
theorem low_lcm33 (e0 e1 : Option D) (r : Env') (st : List D) : ∀ (vs : List Rat) (l : Nat) (e3 : Option D), 0 < l → Nat.lcm l (lcmD vs) ≤ 2 ^ 5000 → ∃ e3', forD (gNm 3) bd_lowest_row_2 (vs.map rD) (e0 :: e1 :: some (.int (l : Int)) :: e3 :: r) st = .nx (e0 :: e1 :: some (.int ((Nat.lcm l (lcmD vs) : Nat) : Int)) :: e3' :: r) st
  | [], l, e3, _, h => ⟨e3, by
      have : Nat.lcm l (lcmD []) = l := Nat.lcm_one_right l
      rw [this]; rfl⟩
  | v :: vs, l, e3, h0, h => by
    have ea : Nat.lcm l (lcmD (v :: vs)) = Nat.lcm (Nat.lcm l v.den) (lcmD vs) := (Nat.lcm_assoc ..).symm
    rw [ea] at h ⊢
    have p1 : 0 < Nat.lcm l v.den := Nat.lcm_pos h0 v.den_pos
    have p2 : 0 < Nat.lcm (Nat.lcm l v.den) (lcmD vs) := Nat.lcm_pos p1 (lcmD_pos vs)
    have b1 : l ≤ Nat.lcm (Nat.lcm l v.den) (lcmD vs) := Nat.le_of_dvd p2 (Nat.dvd_trans (Nat.dvd_lcm_left _ _) (Nat.dvd_lcm_left _ _))
    have b2 : v.den ≤ Nat.lcm (Nat.lcm l v.den) (lcmD vs) := Nat.le_of_dvd p2 (Nat.dvd_trans (Nat.dvd_lcm_right _ _) (Nat.dvd_lcm_left _ _))
    have pw : (2 : Nat) ^ 5000 < 2 ^ 5001 := Nat.pow_lt_pow_right (by decide) (by decide)
    have l1 := log2_lt' (n := l) (k := 5001) (by omega) (by omega)
    have l2 := log2_lt' (n := v.den) (k := 5001) (Nat.pos_iff_ne_zero.mp v.den_pos) (by omega)
    have lo : LcmOk (l : Int) (v.den : Int) := ⟨by rw [Int.natAbs_natCast]; omega, by rw [Int.natAbs_natCast]; omega⟩
    have e : dLcm [.int (l : Int), .int (v.den : Int)] = some (.int ((Nat.lcm l v.den : Nat) : Int)) := by
      unfold dLcm; simp only [if_pos lo, Int.natAbs_natCast]
    obtain ⟨e3', ih⟩ := low_lcm33 e0 e1 r st vs (Nat.lcm l v.den) (some (rD v)) p1 h
    refine ⟨e3', ?_⟩
    rw [List.map_cons, forD_cons]
    have g : gNm 3 (rD v) (e0 :: e1 :: some (.int (l : Int)) :: e3 :: r) = some (e0 :: e1 :: some (.int (l : Int)) :: some (rD v) :: r) := rfl
    have s : bd_lowest_row_2 (e0 :: e1 :: some (.int (l : Int)) :: some (rD v) :: r) st = .nx (e0 :: e1 :: some (.int ((Nat.lcm l v.den : Nat) : Int)) :: some (rD v) :: r) st := by
      unfold bd_lowest_row_2
      exact mSet_of (by simp only [ev, bind_ok, get?, ret_ok, ixr1, e])
    rw [g]
    simp only [s, ih]
theorem low_gcd (e0 e1 e2 e3 e4 : Option D) (r : Env') (st : List D) : ∀ (ts : List Int) (g : Nat) (e6 : Option D), ∃ e6', forD (gNm 6) bd_lowest_row_4 (ts.map D.int) (e0 :: e1 :: e2 :: e3 :: e4 :: some (.int (g : Int)) :: e6 :: r) st = .nx (e0 :: e1 :: e2 :: e3 :: e4 :: some (.int ((Nat.gcd g (gcdL ts) : Nat) : Int)) :: e6' :: r) st
  | [], g, e6 => ⟨e6, by
      have : Nat.gcd g (gcdL []) = g := Nat.gcd_zero_right g
      rw [this]; rfl⟩
  | t :: ts, g, e6 => by
    have ea : Nat.gcd g (gcdL (t :: ts)) = Nat.gcd (Nat.gcd g t.natAbs) (gcdL ts) := (Nat.gcd_assoc ..).symm
    obtain ⟨e6', ih⟩ := low_gcd e0 e1 e2 e3 e4 r st ts (Nat.gcd g t.natAbs) (some (.int t))
    refine ⟨e6', ?_⟩
    rw [List.map_cons, forD_cons, ea]
    have gg : gNm 6 (.int t) (e0 :: e1 :: e2 :: e3 :: e4 :: some (.int (g : Int)) :: e6 :: r) = some (e0 :: e1 :: e2 :: e3 :: e4 :: some (.int (g : Int)) :: some (.int t) :: r) := rfl
    have s : bd_lowest_row_4 (e0 :: e1 :: e2 :: e3 :: e4 :: some (.int (g : Int)) :: some (.int t) :: r) st = .nx (e0 :: e1 :: e2 :: e3 :: e4 :: some (.int ((Nat.gcd g t.natAbs : Nat) : Int)) :: some (.int t) :: r) st := by
      unfold bd_lowest_row_4
      refine mSet_of ?_
      simp only [ev, bind_ok, get?, ret_ok, Int.natAbs_natCast]
    rw [gg]
    simp only [s, ih]
def wT (w : List Int) : D := .tup (w.map .int)
theorem e_lowest_row {b : Nat} {vs : List Rat} {xs : List D} {X : D} (hX : SeqD X xs) (h : TL b xs vs) (hb : b ≤ 2000) (hl : vs.length ≤ 1000) (hL2 : lcmD vs ≤ 2 ^ 1500) (hT : ∀ t ∈ tops vs, t.natAbs ≤ 2 ^ 2000) (st : List D) : m_lowest_row [X] st = .ok (wT (low vs)) st := by
  have sm := h.sm
  have hL0 := lcmD_pos vs
  have hL : lcmD vs ≤ 2 ^ 5000 := Nat.le_trans hL2 (Nat.pow_le_pow_right (by decide) (by decide))
  have hL1 : Nat.lcm 1 (lcmD vs) = lcmD vs := Nat.lcm_one_left _
  have hG1 : Nat.gcd 0 (gcdL (tops vs)) = gcdL (tops vs) := Nat.gcd_zero_left _
  have f1 : mSet 1 L_lowest_row_1 [some X, none, none, none, none, none, none] st = .nx [some X, some (.lst (vs.map rD)), none, none, none, none, none] st := by
    refine mSet_of ?_
    unfold L_lowest_row_1
    have lc := tl_ratio hb (env := [some X, none, none, none, none, none, none]) (st := st) (g := gNm 3) (me := el_lowest_row_1) (fun x v t => ⟨_, rfl, by
      have t := e_ratio_of t (by omega) st
      unfold el_lowest_row_1
      simp only [ev, bind_ok, get?, wipeE, List.set_cons_zero, List.set_cons_succ, t]⟩) h
    exact mLXC_of (mItems_of (x := X) (st1 := st) (by simp only [ev, get?]) (hX.items st)) (by rw [h.len]; omega) lc (by simp only [List.length_map]; omega)
  obtain ⟨x3, f3⟩ := low_lcm33 (some X) (some (.lst (vs.map rD))) [none, none, none] st vs 1 none (by decide) (by rw [hL1]; exact hL)
  rw [hL1] at f3
  have f3' : F_lowest_row_2 [some X, some (.lst (vs.map rD)), some (.int 1), none, none, none, none] st = .nx [some X, some (.lst (vs.map rD)), some (.int ((lcmD vs : Nat) : Int)), x3, none, none, none] st := by
    unfold F_lowest_row_2
    exact mFor_of (mItems_of (x := .lst (vs.map rD)) (st1 := st) (by simp only [ev, get?]) rfl) f3
  have f4 : mSet 4 L_lowest_row_3 [some X, some (.lst (vs.map rD)), some (.int ((lcmD vs : Nat) : Int)), x3, none, none, none] st = .nx [some X, some (.lst (vs.map rD)), some (.int ((lcmD vs : Nat) : Int)), x3, some (.lst ((tops vs).map .int)), none, none] st := by
    refine mSet_of ?_
    unfold L_lowest_row_3
    refine mLC_of (mItems_of (x := .lst (vs.map rD)) (st1 := st) (by simp only [ev, get?]) rfl) (lcD_mapL rD D.int (fun v => v.num * (((lcmD vs : Nat) : Int) / (v.den : Int))) vs fun v hv => ⟨_, rfl, rfl, ?_⟩) (by simp only [List.length_map, tops_len]; omega)
    have hs := sm v hv
    have hvd : v.den ≤ lcmD vs := Nat.le_of_dvd hL0 (lcmD_dvd hv)
    have p2 : (2 : Nat) ^ 1500 < 2 ^ 1501 := Nat.pow_lt_pow_right (by decide) (by decide)
    have dv : DivOk ((lcmD vs : Nat) : Int) (v.den : Int) := ⟨den0 v, .inl (by
      rw [Int.natAbs_natCast]
      have := log2_lt' (n := v.den) (k := 1501) (Nat.pos_iff_ne_zero.mp v.den_pos) (by omega)
      omega)⟩
    have fd : ((lcmD vs : Nat) : Int).fdiv (v.den : Int) = ((lcmD vs : Nat) : Int) / (v.den : Int) := fdiv_ediv (by omega)
    have mo : DL.MulOk v.num (((lcmD vs : Nat) : Int) / (v.den : Int)) := mulOk_sm hs.1 (m := 1501) (by
      rw [← Int.natCast_ediv, Int.natAbs_natCast]
      have := Nat.div_le_self (lcmD vs) v.den
      omega) (by omega)
    unfold el_lowest_row_3
    simp only [ev, bind_ok, get?, wipeE, List.set_cons_zero, List.set_cons_succ, ixr0, ixr1, dv, fd, mo, if_true]
  obtain ⟨x6, f6⟩ := low_gcd (some X) (some (.lst (vs.map rD))) (some (.int ((lcmD vs : Nat) : Int))) x3 (some (.lst ((tops vs).map .int))) [] st (tops vs) 0 none
  rw [hG1] at f6
  have f6' : F_lowest_row_4 [some X, some (.lst (vs.map rD)), some (.int ((lcmD vs : Nat) : Int)), x3, some (.lst ((tops vs).map .int)), some (.int 0), none] st = .nx [some X, some (.lst (vs.map rD)), some (.int ((lcmD vs : Nat) : Int)), x3, some (.lst ((tops vs).map .int)), some (.int ((gcdL (tops vs) : Nat) : Int)), x6] st := by
    unfold F_lowest_row_4
    exact mFor_of (mItems_of (x := .lst ((tops vs).map .int)) (st1 := st) (by simp only [ev, get?]) rfl) f6
  unfold m_lowest_row b_lowest_row wT
  rw [fnM_eq (by simp), show mkEnv 7 [X] = [some X, none, none, none, none, none, none] from rfl, mSeq_of f1, mSeq_of (mSet_of (s := st) (d := .int 1) rfl)]
  simp only [List.set_cons_zero, List.set_cons_succ]
  rw [mSeq_of f3', mSeq_of f4, mSeq_of (mSet_of (s := st) (d := .int 0) rfl)]
  simp only [List.set_cons_zero, List.set_cons_succ]
  rw [mSeq_of f6']
  by_cases g0 : gcdL (tops vs) = 0
  · have h2 : low vs = tops vs := by unfold low; rw [if_pos g0]
    rw [h2, g0]
    simp only [ev, bind_ok, get?, ret_ok]
    rfl
  · have h2 : low vs = (tops vs).map fun t => t / ((gcdL (tops vs) : Nat) : Int) := by unfold low; rw [if_neg g0]
    have gne : ¬ ((gcdL (tops vs) : Nat) : Int) = 0 := by omega
    have glog : (gcdL (tops vs)).log2 < 9000 := gcd_log hT (by decide) g0
    have hL5 : L_lowest_row_5 [some X, some (.lst (vs.map rD)), some (.int ((lcmD vs : Nat) : Int)), x3, some (.lst ((tops vs).map .int)), some (.int ((gcdL (tops vs) : Nat) : Int)), x6] st = .ok (.lst ((low vs).map .int)) st := by
      rw [h2]
      unfold L_lowest_row_5
      refine mLC_of (mItems_of (x := .lst ((tops vs).map .int)) (st1 := st) (by simp only [ev, get?]) rfl) (lcD_mapL D.int D.int (fun t => t / ((gcdL (tops vs) : Nat) : Int)) (tops vs) fun t ht => ⟨_, rfl, rfl, ?_⟩) (by simp only [List.length_map, tops_len]; omega)
      have dv : DivOk t ((gcdL (tops vs) : Nat) : Int) := ⟨gne, .inl (by rw [Int.natAbs_natCast]; exact glog)⟩
      have fd : t.fdiv ((gcdL (tops vs) : Nat) : Int) = t / ((gcdL (tops vs) : Nat) : Int) := fdiv_ediv (by omega)
      unfold el_lowest_row_5
      simp only [ev, bind_ok, get?, wipeE, List.set_cons_zero, List.set_cons_succ, dv, fd, if_true]
    simp only [ev, bind_ok, get?, ret_ok, gne, decide_false, if_false, Bool.false_eq_true, hL5]
end My

namespace My
open PySem PySem.Spec PyProof.Rows L2 DL
/-! k02: things that are no ratios; what the calls say of them -/
def NoRat (d : D) : Prop := ∀ st, m_is_ratio [d] st = .ok (.bl false) st
def NoWh (d : D) : Prop := ∀ st, m_is_whole [d] st = .ok (.bl false) st
def oddL (n : Int) : List D := [.non, .bl true, .bl false, .str "1", .lst [.int n, .int n], .tup [.int n], .tup [.int n, .int n, .int n], .tup [.int n, .int 0], .tup [.int n, .int (-n)], .tup [.bl true, .int n],
  .tup [.int n, .bl true], .tup [.int n, .str "1"], .tup [.tup [.int n, .int 1], .int 1], .tup []]
theorem nw_non : NoWh .non := fun st => by
  unfold m_is_whole b_is_whole
  simp [ev1, ev2, ev3, ev4, ev5, bind_ok, mkEnv, get?, ret_ok, dIsi, isiD, tyN, subTy]
theorem nw_bl (b : Bool) : NoWh (.bl b) := fun st => by
  unfold m_is_whole b_is_whole
  simp [ev1, ev2, ev3, ev4, ev5, bind_ok, mkEnv, get?, ret_ok, dIsi, isiD, tyN, subTy]
theorem nw_str (x : Str) : NoWh (.str x) := fun st => by
  unfold m_is_whole b_is_whole
  simp [ev1, ev2, ev3, ev4, ev5, bind_ok, mkEnv, get?, ret_ok, dIsi, isiD, tyN, subTy]
theorem nw_lst (x : List D) : NoWh (.lst x) := fun st => by
  unfold m_is_whole b_is_whole
  simp [ev1, ev2, ev3, ev4, ev5, bind_ok, mkEnv, get?, ret_ok, dIsi, isiD, tyN, subTy]
theorem nw_tup (x : List D) : NoWh (.tup x) := fun st => by
  unfold m_is_whole b_is_whole
  simp [ev1, ev2, ev3, ev4, ev5, bind_ok, mkEnv, get?, ret_ok, dIsi, isiD, tyN, subTy]
theorem nr_of {d : D} (h : NoWh d) (t : dIsi [d, .ty "tuple"] = some (.bl false)) : NoRat d := fun st => by
  unfold m_is_ratio b_is_ratio
  simp only [ev, bind_ok, mkEnv, get?, ret_ok, t, h st, if_false, Bool.false_eq_true]
theorem odd_nw {n : Int} {d : D} (h : d ∈ oddL n) : NoWh d := by
  unfold oddL at h
  simp only [List.mem_cons, List.not_mem_nil, or_false] at h
  rcases h with rfl | rfl | rfl | rfl | rfl | rfl | rfl | rfl | rfl | rfl | rfl | rfl | rfl | rfl
  · exact nw_non
  · exact nw_bl _
  · exact nw_bl _
  · exact nw_str _
  · exact nw_lst _
  all_goals exact nw_tup _
theorem odd_nr {n : Int} (hn : 1 ≤ n) {d : D} (h : d ∈ oddL n) : NoRat d := by
  have hnn : ¬ (0 < -n) := by omega
  have hn0 : 0 ≤ n := by omega
  unfold oddL at h
  simp only [List.mem_cons, List.not_mem_nil, or_false] at h
  have w1 := fun st => nw_bl true st
  have w2 := fun st => nw_str "1" st
  have w3 := fun st => nw_tup [.int n, .int 1] st
  rcases h with rfl | rfl | rfl | rfl | rfl | rfl | rfl | rfl | rfl | rfl | rfl | rfl | rfl | rfl
  · exact nr_of nw_non rfl
  · exact nr_of (nw_bl _) rfl
  · exact nr_of (nw_bl _) rfl
  · exact nr_of (nw_str _) rfl
  · exact nr_of (nw_lst _) rfl
  all_goals
    intro st
    unfold m_is_ratio b_is_ratio
    simp [ev1, ev2, ev3, ev4, ev5, bind_ok, mkEnv, get?, ret_ok, dIsi, isiD, tyN, subTy, e_is_whole_int, w1 st, w2 st, w3 st, hnn, hn0]
theorem e_odd (n : Int) (st : List D) (hs : HandOk st) : ∃ (d : D) (st' : List D), d ∈ oddL n ∧ HandOk st' ∧ m__law_odd [.tok 0, .int n] st = .ok d st' := by
  obtain ⟨r, s1, h0, h1, hs1, e1⟩ := e_draw 14 (by decide) (by decide) st hs
  obtain ⟨k, rfl⟩ : ∃ k : Nat, r = (k : Int) := ⟨r.toNat, by omega⟩
  have hk : k < (oddL n).length := by
    have : (oddL n).length = 14 := rfl
    omega
  refine ⟨(oddL n)[k], s1, List.getElem_mem hk, hs1, ?_⟩
  have ad : dAdd (.lst [.non, .bl true, .bl false, .str "1", .lst [.int n, .int n], .tup [.int n], .tup [.int n, .int n, .int n], .tup [.int n, .int 0], .tup [.int n, .int (-n)], .tup [.bl true, .int n]])
      (.lst [.tup [.int n, .bl true], .tup [.int n, .str "1"], .tup [.tup [.int n, .int 1], .int 1], .tup []]) = some (.lst (oddL n)) := by
    show (if (14 : Nat) ≤ sizeLine then some (D.lst (oddL n)) else none) = _
    rw [if_pos (by decide)]
  have l10 : ∀ (xs : List D) (s : List D), xs.length ≤ 100 → lstOk xs s = .ok (.lst xs) s := fun xs s h => lstOk_of h s
  have lk := l10 [.non, .bl true, .bl false, .str "1", .lst [.int n, .int n], .tup [.int n], .tup [.int n, .int n, .int n], .tup [.int n, .int 0], .tup [.int n, .int (-n)], .tup [.bl true, .int n]] s1 (by simp)
  have ix : ixS (.lst (oddL n)) (.int (k : Int)) s1 = .ok (oddL n)[k] s1 := by
    simp only [ev5, atI_nat hk, ret_ok]
  unfold m__law_odd b__law_odd
  simp only [ev, bind_ok, mkEnv, get?, ret_ok, List.set_cons_zero, List.set_cons_succ, e1, lk, ad, ix]
theorem e_ratio_bad {d : D} (h : NoRat d) (st : List D) : m_ratio_of [d] st = .err ⟨c_BadRatio, none⟩ st := by
  have h := h st
  unfold m_ratio_of b_ratio_of
  simp only [ev, bind_ok, mkEnv, get?, ret_ok, h, Bool.not_false, if_true]
theorem e_lowest_bad {b : Nat} {vs : List Rat} {xs ys : List D} {X d : D} (hX : SeqD X (xs ++ d :: ys)) (h : TL b xs vs) (hb : b ≤ 2000) (hd : NoRat d) (hl : (xs ++ d :: ys).length ≤ 1000) (st : List D) : m_lowest_row [X] st = .err ⟨c_BadRatio, none⟩ st := by
  have bad := e_ratio_bad hd st
  have good : ∀ y ∈ xs, ∃ e1 d1, gNm 3 y [some X, none, none, none, none, none, none] = some e1 ∧ mYes e1 st = .ok true st ∧ el_lowest_row_1 e1 st = .ok d1 st := fun y hy => by
    obtain ⟨n, hn, e⟩ := List.mem_iff_getElem.mp hy
    have : ∀ {xs : List D} {vs : List Rat}, TL b xs vs → ∀ y ∈ xs, ∃ v, Tells b y v := fun {xs vs} t => by
      induction t with
      | nil => intro y hy; cases hy
      | cons t r ih =>
        intro y hy
        rcases List.mem_cons.mp hy with rfl | hy
        · exact ⟨_, t⟩
        · exact ih y hy
    obtain ⟨v, t⟩ := this h y hy
    have t := e_ratio_of t (by omega) st
    refine ⟨_, rD v, rfl, rfl, ?_⟩
    unfold el_lowest_row_1
    simp only [ev, bind_ok, get?, wipeE, List.set_cons_zero, List.set_cons_succ, t]
  have f1 : L_lowest_row_1 [some X, none, none, none, none, none, none] st = .err ⟨c_BadRatio, none⟩ st := by
    unfold L_lowest_row_1
    rw [mLXR_of (mItems_of (x := X) (st1 := st) (by simp only [ev, get?]) (hX.items st)) (by omega)]
    have := lcX_err (x := ⟨c_BadRatio, none⟩) (env := [some X, none, none, none, none, none, none]) (g := gNm 3) (mt := mYes) (me := el_lowest_row_1) (st := st) xs d ys (env1 := [some X, none, none, some d, none, none, none]) good rfl rfl (by
      unfold el_lowest_row_1
      simp only [ev, bind_ok, get?, bad])
    show (lcX [some X, none, none, none, none, none, none] (gNm 3) mYes el_lowest_row_1 (xs ++ d :: ys) st).bind lstOk = _
    rw [this]
    rfl
  unfold m_lowest_row b_lowest_row
  rw [fnM_eq (by simp), show mkEnv 7 [X] = [some X, none, none, none, none, none, none] from rfl, mSeq_k]
  simp only [ev, f1, seqK_er]
def nmS : Nat → Str
  | 0 => "of" | 1 => "plus" | 2 => "minus" | 3 => "times" | 4 => "over" | 5 => "compare" | _ => "row"
noncomputable def Rn : Nat → D → D → M D
  | 0, a, _ => m_ratio_of [a] | 1, a, b => m_plus [a, b] | 2, a, b => m_minus [a, b] | 3, a, b => m_times [a, b] | 4, a, b => m_over [a, b] | 5, a, b => m_compare [a, b] | _, a, b => m_lowest_row [.lst [a, b]]
def dropR (r : Res D) (env : Env') : Out := match r with
  | .ok _ st1 => .nx env st1
  | .err x st1 => .er x env st1
  | .bad => .bad
theorem dEq_str {x y : Str} (hx : (toP (.str x)).canLay0 = true) (hy : (toP (.str y)).canLay0 = true) : dEq (.str x) (.str y) = some (.bl (x == y)) := by
  rw [dEq_of (.str 0 hx) (.str 0 hy), eqv_str]
theorem lay_nm (k : Nat) : (toP (.str (nmS k))).canLay0 = true := by
  unfold nmS
  split <;> decide +kernel
theorem ty_eq (k : Nat) (hk : k ≤ 6) (a b : D) (st : List D) : ty_law_refused_1 [some (.str (nmS k)), some a, some b, none] st = dropR (Rn k a b st) [some (.str (nmS k)), some a, some b, none] := by
  have q : ∀ j, dEq (.str (nmS k)) (.str (nmS j)) = some (.bl (nmS k == nmS j)) := fun j => dEq_str (lay_nm k) (lay_nm j)
  have q0 : dEq (.str (nmS k)) (.str "of") = some (.bl (nmS k == "of")) := q 0
  have q1 : dEq (.str (nmS k)) (.str "plus") = some (.bl (nmS k == "plus")) := q 1
  have q2 : dEq (.str (nmS k)) (.str "minus") = some (.bl (nmS k == "minus")) := q 2
  have q3 : dEq (.str (nmS k)) (.str "times") = some (.bl (nmS k == "times")) := q 3
  have q4 : dEq (.str (nmS k)) (.str "over") = some (.bl (nmS k == "over")) := q 4
  have q5 : dEq (.str (nmS k)) (.str "compare") = some (.bl (nmS k == "compare")) := q 5
  have t : ∀ {c : MT} {x y : MS} {e : Env'} {i : Bool}, c e st = .ok i st → mIfS c x y e st = if i = true then x e st else y e st := fun {c x y e i} h => by simp only [ev3, h]
  have c : ∀ (z : Str) (i : Bool), dEq (.str (nmS k)) (.str z) = some (.bl i) → mTest (mOp dEq (mVar 0) (mC (.str z))) [some (.str (nmS k)), some a, some b, none] st = .ok i st := fun z i h => by simp only [ev, bind_ok, get?, h, ret_ok]
  have dr : ∀ (f : List D → M D) (ma : MA) (e : Env') (ds : List D), ma e st = .ok ds st → mDrop (mCall f ma) e st = dropR (f ds st) e := fun f ma e ds h => by
    simp only [ev, h, bind_ok]
    cases f ds st <;> rfl
  have a1 : (mCons (mVar 1) mNil) [some (.str (nmS k)), some a, some b, none] st = .ok [a] st := by simp only [ev, bind_ok, get?]
  have a2 : (mCons (mVar 1) (mCons (mVar 2) mNil)) [some (.str (nmS k)), some a, some b, none] st = .ok [a, b] st := by simp only [ev, bind_ok, get?]
  have a3 : (mCons (mLst (mCons (mVar 1) (mCons (mVar 2) mNil))) mNil) [some (.str (nmS k)), some a, some b, none] st = .ok [.lst [a, b]] st := by simp only [ev, bind_ok, get?]
  unfold ty_law_refused_1
  rw [t (c _ _ q0), t (c _ _ q1), t (c _ _ q2), t (c _ _ q3), t (c _ _ q4), t (c _ _ q5), dr _ _ _ _ a1, dr _ _ _ _ a2, dr _ _ _ _ a2, dr _ _ _ _ a2, dr _ _ _ _ a2, dr _ _ _ _ a2, dr _ _ _ _ a3]
  match k, hk with
  | 0, _ => rfl
  | 1, _ => rfl
  | 2, _ => rfl
  | 3, _ => rfl
  | 4, _ => rfl
  | 5, _ => rfl
  | 6, _ => rfl
theorem refused_no {k : Nat} (hk : k ≤ 6) {a b d : D} {st : List D} (h : Rn k a b st = .ok d st) : m__law_refused [.str (nmS k), a, b] st = .ok (.bl false) st := by
  have t := ty_eq k hk a b st
  rw [h] at t
  unfold m__law_refused b__law_refused
  rw [fnM_eq (by simp), show mkEnv 4 [.str (nmS k), a, b] = [some (.str (nmS k)), some a, some b, none] from rfl, mSeq_k]
  unfold mTryAs
  rw [t]
  simp only [dropR, seqK_nx, ev]
theorem refused_yes {k : Nat} (hk : k ≤ 6) {a b : D} {st : List D} (h : Rn k a b st = .err ⟨c_BadRatio, none⟩ st) : m__law_refused [.str (nmS k), a, b] st = .ok (.bl true) st := by
  have t := ty_eq k hk a b st
  rw [h] at t
  unfold m__law_refused b__law_refused
  rw [fnM_eq (by simp), show mkEnv 4 [.str (nmS k), a, b] = [some (.str (nmS k)), some a, some b, none] from rfl, mSeq_k]
  unfold mTryAs
  rw [t]
  rfl
end My

namespace My
open PySem PySem.Spec PyProof.Rows L2 DL
/-! k02: the seven calls with good and odd things -/
theorem rn_bad1 {k m : Nat} (hk : k ≤ 6) (hm : m ≤ 2000) {a b : D} {q : Rat} (ha : NoRat a) (hb : Tells m b q) (st : List D) : Rn k a b st = .err ⟨c_BadRatio, none⟩ st := by
  have h1 := e_ratio_bad ha st
  match k, hk with
  | 0, _ => exact h1
  | 1, _ =>
    show m_plus [a, b] st = _
    unfold m_plus b_plus
    simp only [ev, bind_ok, bind_err, mkEnv, get?, h1]
  | 2, _ =>
    show m_minus [a, b] st = _
    unfold m_minus b_minus
    simp only [ev, bind_ok, bind_err, mkEnv, get?, h1]
  | 3, _ =>
    show m_times [a, b] st = _
    unfold m_times b_times
    simp only [ev, bind_ok, bind_err, mkEnv, get?, h1]
  | 4, _ =>
    show m_over [a, b] st = _
    unfold m_over b_over
    simp only [ev, bind_ok, bind_err, mkEnv, get?, h1]
  | 5, _ =>
    show m_compare [a, b] st = _
    unfold m_compare b_compare
    simp only [ev, bind_ok, bind_err, mkEnv, get?, h1]
  | 6, _ =>
    show m_lowest_row [.lst [a, b]] st = _
    exact e_lowest_bad (b := m) (xs := []) (ys := [b]) (.inl rfl) .nil hm ha (by simp) st
theorem rn_bad2 {k m : Nat} (hk : k ≤ 6) (hk1 : 1 ≤ k) (hm : m ≤ 2000) {a b : D} {q : Rat} (ha : Tells m a q) (hb : NoRat b) (st : List D) : Rn k a b st = .err ⟨c_BadRatio, none⟩ st := by
  have h1 := e_ratio_of ha (by omega) st
  have h2 := e_ratio_bad hb st
  match k, hk with
  | 0, _ => omega
  | 1, _ =>
    show m_plus [a, b] st = _
    unfold m_plus b_plus
    simp [ev1, ev2, ev3, ev4, ev5, bind_ok, bind_err, mkEnv, get?, h1, h2, rD]
  | 2, _ =>
    show m_minus [a, b] st = _
    unfold m_minus b_minus
    simp [ev1, ev2, ev3, ev4, ev5, bind_ok, bind_err, mkEnv, get?, h1, h2, rD]
  | 3, _ =>
    show m_times [a, b] st = _
    unfold m_times b_times
    simp [ev1, ev2, ev3, ev4, ev5, bind_ok, bind_err, mkEnv, get?, h1, h2, rD]
  | 4, _ =>
    show m_over [a, b] st = _
    unfold m_over b_over
    simp [ev1, ev2, ev3, ev4, ev5, bind_ok, bind_err, mkEnv, get?, h1, h2, rD]
  | 5, _ =>
    show m_compare [a, b] st = _
    unfold m_compare b_compare
    simp [ev1, ev2, ev3, ev4, ev5, bind_ok, bind_err, mkEnv, get?, h1, h2, rD]
  | 6, _ =>
    show m_lowest_row [.lst [a, b]] st = _
    exact e_lowest_bad (b := m) (xs := [a]) (ys := []) (.inl rfl) (.cons ha .nil) hm hb (by simp) st
/-- least rows of few small ratios -/
theorem e_lowest_few {b : Nat} {vs : List Rat} {xs : List D} {X : D} (hX : SeqD X xs) (h : TL b xs vs) (hb : b ≤ 2000) (hl : vs.length ≤ 1000) (hz : b * vs.length ≤ 1500) (hz2 : b + b * vs.length ≤ 2000) (st : List D) : m_lowest_row [X] st = .ok (wT (low vs)) st :=
  e_lowest_row hX h hb hl (Nat.le_trans (lcmD_lt vs h.sm) (Nat.pow_le_pow_right (by decide) hz)) (fun t ht => Nat.le_trans (tops_lt h.sm t ht) (Nat.pow_le_pow_right (by decide) hz2)) st
theorem rn_good {k m : Nat} (hk : k ≤ 6) (hk4 : k ≠ 4) (hm : m ≤ 300) {a b : D} {p q : Rat} (ha : Tells m a p) (hb : Tells m b q) (st : List D) : ∃ d, Rn k a b st = .ok d st := by
  match k, hk with
  | 0, _ => exact ⟨_, e_ratio_of ha (by omega) st⟩
  | 1, _ => exact ⟨_, e_plus ha hb (by omega) st⟩
  | 2, _ => exact ⟨_, e_minus ha hb (by omega) st⟩
  | 3, _ => exact ⟨_, e_times ha hb (by omega) st⟩
  | 4, _ => exact absurd rfl hk4
  | 5, _ => exact ⟨_, e_compare ha hb (by omega) st⟩
  | 6, _ => exact ⟨_, e_lowest_few (xs := [a, b]) (.inl rfl) (.cons ha (.cons hb .nil)) (by omega) (by simp) (by simp only [List.length_cons, List.length_nil]; omega) (by simp only [List.length_cons, List.length_nil]; omega) st⟩
theorem body_name {k m : Nat} (hk : k ≤ 6) (hm : m ≤ 300) {O Gd : D} {q : Rat} (ho : NoRat O) (hg : Tells m Gd q) (e0 e1 e2 e3 : Option D) (r : Env') (st : List D) :
    bd_law_1 (e0 :: e1 :: e2 :: e3 :: some O :: some Gd :: some (.str (nmS k)) :: r) st = .nx (e0 :: e1 :: e2 :: e3 :: some O :: some Gd :: some (.str (nmS k)) :: r) st := by
  have r1 := refused_yes hk (rn_bad1 hk (by omega) ho hg st)
  have n0 : dNe (.str (nmS k)) (.str "of") = some (.bl (!(nmS k == "of"))) := by
    have h := dNe_of (Sh.str 0 (lay_nm k)) (Sh.str 0 (lay_nm 0))
    rw [eqv_str] at h
    exact h
  have n4 : dNe (.str (nmS k)) (.str "over") = some (.bl (!(nmS k == "over"))) := by
    have h := dNe_of (Sh.str 0 (lay_nm k)) (Sh.str 0 (lay_nm 4))
    rw [eqv_str] at h
    exact h
  by_cases k0 : k = 0
  · subst k0
    obtain ⟨d, hd⟩ := rn_good (k := 0) (by omega) (by omega) hm hg hg st
    have r3 := refused_no (k := 0) (by omega) hd
    have n0' : dNe (.str (nmS 0)) (.str "of") = some (.bl false) := n0
    have n4' : dNe (.str (nmS 0)) (.str "over") = some (.bl true) := n4
    unfold bd_law_1
    rw [seq_ifF56 (s := st) (by simp only [ev, bind_ok, get?, ret_ok, r1, n0', Bool.not_true, Bool.false_eq_true, if_false])]
    exact (mIfS_f (s := st) (by simp only [ev, bind_ok, get?, ret_ok, n4', r3, if_true])).trans rfl
  · have r2 := refused_yes hk (rn_bad2 hk (by omega) (by omega) hg ho st)
    have b0 : (nmS k == "of") = false := by
      match k, hk with
      | 0, _ => exact absurd rfl k0
      | 1, _ => decide
      | 2, _ => decide
      | 3, _ => decide
      | 4, _ => decide
      | 5, _ => decide
      | 6, _ => decide
    rw [b0] at n0
    by_cases k4 : k = 4
    · subst k4
      have n4' : dNe (.str (nmS 4)) (.str "over") = some (.bl false) := n4
      unfold bd_law_1
      rw [seq_ifF56 (s := st) (by simp only [ev, bind_ok, get?, ret_ok, r1, r2, n0, Bool.not_true, Bool.not_false, Bool.false_eq_true, if_false, if_true])]
      exact (mIfS_f (s := st) (by simp only [ev, bind_ok, get?, ret_ok, n4', if_false, Bool.false_eq_true])).trans rfl
    · obtain ⟨d, hd⟩ := rn_good (k := k) hk k4 hm hg hg st
      have r3 := refused_no hk hd
      have b4 : (nmS k == "over") = false := by
        match k, hk with
        | 0, _ => decide
        | 1, _ => decide
        | 2, _ => decide
        | 3, _ => decide
        | 4, _ => exact absurd rfl k4
        | 5, _ => decide
        | 6, _ => decide
      rw [b4] at n4
      unfold bd_law_1
      rw [seq_ifF56 (s := st) (by simp only [ev, bind_ok, get?, ret_ok, r1, r2, n0, Bool.not_true, Bool.not_false, Bool.false_eq_true, if_false, if_true])]
      exact (mIfS_f (s := st) (by simp only [ev, bind_ok, get?, ret_ok, n4, r3, if_true, Bool.not_false])).trans rfl
theorem loop_names {m : Nat} (hm : m ≤ 300) {O Gd : D} {q : Rat} (ho : NoRat O) (hg : Tells m Gd q) (e0 e1 e2 e3 e6 : Option D) (r : Env') (st : List D) :
    F_law_1 (e0 :: e1 :: e2 :: e3 :: some O :: some Gd :: e6 :: r) st = .nx (e0 :: e1 :: e2 :: e3 :: some O :: some Gd :: some (.str "row") :: r) st := by
  have b := fun k hk => body_name (k := k) hk hm ho hg e0 e1 e2 e3 r st
  have g : ∀ (x e : Option D) (d : D), gNm 6 d (e0 :: e1 :: e2 :: e3 :: some O :: some Gd :: e :: r) = some (e0 :: e1 :: e2 :: e3 :: some O :: some Gd :: some d :: r) := fun _ _ _ => rfl
  have l := lstOk_of (xs := [.str "of", .str "plus", .str "minus", .str "times", .str "over", .str "compare", .str "row"]) (by simp) st
  have b0 := b 0 (by omega); have b1 := b 1 (by omega); have b2 := b 2 (by omega); have b3 := b 3 (by omega); have b4 := b 4 (by omega); have b5 := b 5 (by omega); have b6 := b 6 (by omega)
  simp only [nmS] at b0 b1 b2 b3 b4 b5 b6
  unfold F_law_1
  refine mFor_of (ds := [.str "of", .str "plus", .str "minus", .str "times", .str "over", .str "compare", .str "row"]) (st1 := st) (mItems_of (x := .lst [.str "of", .str "plus", .str "minus", .str "times", .str "over", .str "compare", .str "row"]) (st1 := st) (by simp only [ev, bind_ok, l]) rfl) ?_
  rw [forD_cons, g none]; dsimp only; rw [b0]; dsimp only
  rw [forD_cons, g none]; dsimp only; rw [b1]; dsimp only
  rw [forD_cons, g none]; dsimp only; rw [b2]; dsimp only
  rw [forD_cons, g none]; dsimp only; rw [b3]; dsimp only
  rw [forD_cons, g none]; dsimp only; rw [b4]; dsimp only
  rw [forD_cons, g none]; dsimp only; rw [b5]; dsimp only
  rw [forD_cons, g none]; dsimp only; rw [b6]; dsimp only
  rfl
end My

namespace My
open PySem PySem.Spec PyProof.Rows L2 DL
/-! k02: the drawn row -/
/-- an item of the drawn row: a whole number or a ratio in lowest terms -/
inductive Itm (b : Nat) : D → Rat → Prop
  | one (i : Int) (h : i.natAbs < 2 ^ b) : Itm b (.int i) (i : Rat)
  | rat (q : Rat) (h : Sm b q) : Itm b (rD q) q
inductive PL (b : Nat) : List D → List Rat → Prop
  | nil : PL b [] []
  | cons {x : D} {v : Rat} {xs : List D} {vs : List Rat} : Itm b x v → PL b xs vs → PL b (x :: xs) (v :: vs)
theorem Itm.tells {b : Nat} (hb : 1 ≤ b) {x : D} {v : Rat} (h : Itm b x v) : Tells b x v := by
  cases h with
  | one i h => exact .one i hb h
  | rat q h => exact .rat h
theorem PL.tl {b : Nat} (hb : 1 ≤ b) : ∀ {xs : List D} {vs : List Rat}, PL b xs vs → TL b xs vs
  | _, _, .nil => .nil
  | _, _, .cons h r => .cons (h.tells hb) (r.tl hb)
theorem PL.snoc {b : Nat} {x : D} {v : Rat} (h : Itm b x v) : ∀ {xs : List D} {vs : List Rat}, PL b xs vs → PL b (xs ++ [x]) (vs ++ [v])
  | _, _, .nil => .cons h .nil
  | _, _, .cons a r => .cons a (r.snoc h)
theorem PL.len {b : Nat} : ∀ {xs : List D} {vs : List Rat}, PL b xs vs → xs.length = vs.length
  | _, _, .nil => rfl
  | _, _, .cons _ r => congrArg (· + 1) r.len
theorem PL.get {b : Nat} : ∀ {xs : List D} {vs : List Rat}, PL b xs vs → ∀ (k : Nat) (h : k < xs.length) (h' : k < vs.length), Itm b xs[k] vs[k]
  | _, _, .cons a _, 0, _, _ => a
  | _, _, .cons _ r, k + 1, h, h' => r.get k (by simpa using h) (by simpa using h')
theorem e_pair {b : Nat} {x : D} {v : Rat} (h : Itm b x v) (st : List D) : m__law_pair [x] st = .ok (rD v) st := by
  cases h with
  | one i h =>
    have r : rD (i : Rat) = .tup [.int i, .int 1] := by unfold rD; rw [Rat.num_intCast, Rat.den_intCast]; rfl
    rw [r]
    unfold m__law_pair b__law_pair
    simp [ev1, ev2, ev3, ev4, ev5, bind_ok, mkEnv, get?, ret_ok, dIsi, isiD, tyN, subTy]
  | rat q h =>
    unfold m__law_pair b__law_pair rD
    simp [ev1, ev2, ev3, ev4, ev5, bind_ok, mkEnv, get?, ret_ok, dIsi, isiD, tyN, subTy]
theorem Itm.sh {b : Nat} {x : D} {v : Rat} (h : Itm b x v) : Sh 1 x := by
  cases h with
  | one i h => exact .int 1 i
  | rat q h => exact .tup (.cons (.int 0 _) (.cons (.int 0 _) .nil))
theorem PL.sh {b : Nat} : ∀ {xs : List D} {vs : List Rat}, PL b xs vs → ShA 1 xs
  | _, _, .nil => .nil
  | _, _, .cons h r => .cons h.sh r.sh
theorem one_item (xs : List D) (vs : List Rat) (hp : PL 41 xs vs) (hl : xs.length < 1000) (lo : Int) (e3 e4 : Option D) (st : List D) (hs : HandOk st) : ∃ x v e3' e4' st', Itm 41 x v ∧ HandOk st' ∧
    bd_law_row_1 [some (.tok 0), some (.lst xs), some (.int lo), e3, e4] st = .nx [some (.tok 0), some (.lst (xs ++ [x])), some (.int lo), e3', e4'] st' := by
  obtain ⟨r1, s1, a0, a1, hs1, d1⟩ := e_draw 2 (by decide) (by decide) st hs
  obtain ⟨F, hF, hF2, eF⟩ : ∃ F : Int, 1 ≤ F ∧ F ≤ 1000000000000 ∧ (mIf (mTest (mOp dEq (mCall m__law_draw (mCons (mVar 0) (mCons (mC (.int 2)) (mNil)))) (mC (.int 0)))) (mC (.int 3)) (mOp dPow (mC (.int 10)) (mC (.int 12)))) [some (.tok 0), some (.lst xs), some (.int lo), e3, e4] st = .ok (.int F) s1 := by
    have hpow : dPow (.int 10) (.int 12) = some (.int 1000000000000) := by rfl
    by_cases z : r1 = 0
    · refine ⟨3, by decide, by decide, ?_⟩
      simp only [ev, bind_ok, get?, ret_ok, d1, z, decide_true, if_true]
    · refine ⟨1000000000000, by decide, by decide, ?_⟩
      simp only [ev, bind_ok, get?, ret_ok, d1, z, decide_false, if_false, Bool.false_eq_true, hpow]
  have l2 : (2 * F + 1).natAbs.log2 < 9000 := by
    have := log2_lt' (n := (2 * F + 1).natAbs) (k := 50) (by omega) (by omega)
    omega
  have lF : F.natAbs.log2 < 9000 := by
    have := log2_lt' (n := F.natAbs) (k := 50) (by omega) (by omega)
    omega
  obtain ⟨r2, s2, b0, b1, hs2, d2⟩ := e_draw (2 * F + 1) (by omega) l2 s1 hs1
  have m2 : DL.MulOk 2 F := mulOk_l (by decide)
  have f1 : mSet 3 (mIf (mTest (mOp dEq (mCall m__law_draw (mCons (mVar 0) (mCons (mC (.int 2)) (mNil)))) (mC (.int 0)))) (mC (.int 3)) (mOp dPow (mC (.int 10)) (mC (.int 12)))) [some (.tok 0), some (.lst xs), some (.int lo), e3, e4] st = .nx [some (.tok 0), some (.lst xs), some (.int lo), some (.int F), e4] s1 := mSet_of eF
  have f2 : mSet 4 (mOp dSub (mCall m__law_draw (mCons (mVar 0) (mCons (mOp dAdd (mOp dMul (mC (.int 2)) (mVar 3)) (mC (.int 1))) (mNil)))) (mVar 3)) [some (.tok 0), some (.lst xs), some (.int lo), some (.int F), e4] s1 = .nx [some (.tok 0), some (.lst xs), some (.int lo), some (.int F), some (.int (r2 - F))] s2 :=
    mSet_of (by simp only [ev, bind_ok, get?, ret_ok, m2, if_true, d2])
  obtain ⟨r3, s3, c0, c1, hs3, d3⟩ := e_draw 3 (by decide) (by decide) s2 hs2
  have hi : (r2 - F).natAbs < 2 ^ 41 := by omega
  by_cases z : r3 = 0
  · refine ⟨.int (r2 - F), ((r2 - F : Int) : Rat), some (.int F), some (.int (r2 - F)), s3, .one _ hi, hs3, ?_⟩
    unfold bd_law_row_1
    rw [mSeq_of f1, mSeq_of f2, mPush_eq]
    simp only [ev, bind_ok, get?, ret_ok, d3, z, decide_true, if_true]
    rw [pushR_ok _ _ _ _ _ (by omega)]
    rfl
  · obtain ⟨r4, s4, g0, g1, hs4, d4⟩ := e_draw F (by omega) lF s3 hs3
    have hb : (1 + r4).natAbs < 2 ^ 41 := by omega
    have lw := e_law_low (r2 - F) (1 + r4) (by omega) (Nat.lt_trans hb (Nat.pow_lt_pow_right (by decide) (by decide))) s4
    refine ⟨rD (Rat.divInt (r2 - F) (1 + r4)), _, some (.int F), some (.int (r2 - F)), s4, .rat _ (sm_divInt (by omega) hi hb), hs4, ?_⟩
    unfold bd_law_row_1
    rw [mSeq_of f1, mSeq_of f2, mPush_eq]
    simp only [ev, bind_ok, get?, ret_ok, d3, z, decide_false, if_false, Bool.false_eq_true, d4, lw]
    rw [pushR_ok _ _ _ _ _ (by omega)]
    rfl
theorem rng1_nat {n : Nat} (h : n ≤ 1000) (st : List D) : rng1? [.int (n : Int)] st = .ok (rangeD 0 n) st := by
  have h2 : (n : Int) ≤ (1000 : Int) := Int.ofNat_le.mpr h
  have hc : -(2 ^ 62) ≤ (n : Int) ∧ (n : Int) < 2 ^ 62 := ⟨Int.le_trans (by decide : -(2 ^ 62) ≤ (0 : Int)) (Int.natCast_nonneg n), Int.lt_of_le_of_lt h2 (by decide)⟩
  have e : rng1? [.int (n : Int)] st = @ite _ (-(2 ^ 62) ≤ (n : Int) ∧ (n : Int) < 2 ^ 62) (Classical.propDecidable _) (.ok (rangeD 0 (n : Int).toNat) st) .bad := rfl
  rw [e, if_pos hc, Int.toNat_natCast]
theorem rangeD_cons (lo : Int) (n : Nat) : rangeD lo (n + 1) = .int lo :: rangeD (lo + 1) n := by
  unfold rangeD
  rw [List.range_succ_eq_map, List.map_cons, List.map_map]
  congr 1
  · simp
  · refine List.map_congr_left fun i _ => ?_
    show D.int (lo + ((i + 1 : Nat) : Int)) = _
    congr 1
    omega
theorem row_loop : ∀ (n : Nat) (lo : Int) (xs : List D) (vs : List Rat) (e2 e3 e4 : Option D) (st : List D), PL 41 xs vs → xs.length + n < 1000 → HandOk st → ∃ ys ws e2' e3' e4' st', PL 41 ys ws ∧ ys.length = xs.length + n ∧ HandOk st' ∧
    forD (gNm 2) bd_law_row_1 (rangeD lo n) [some (.tok 0), some (.lst xs), e2, e3, e4] st = .nx [some (.tok 0), some (.lst ys), e2', e3', e4'] st'
  | 0, lo, xs, vs, e2, e3, e4, st, hp, _, hs => ⟨xs, vs, e2, e3, e4, st, hp, rfl, hs, rfl⟩
  | n + 1, lo, xs, vs, e2, e3, e4, st, hp, hl, hs => by
    obtain ⟨x, v, e3', e4', s1, hi, hs1, h1⟩ := one_item xs vs hp (by omega) lo e3 e4 st hs
    obtain ⟨ys, ws, a2, a3, a4, s2, q1, q2, q3, q4⟩ := row_loop n (lo + 1) (xs ++ [x]) (vs ++ [v]) (some (.int lo)) e3' e4' s1 (hp.snoc hi) (by rw [List.length_append, List.length_singleton]; omega) hs1
    refine ⟨ys, ws, a2, a3, a4, s2, q1, by rw [q2, List.length_append, List.length_singleton]; omega, q3, ?_⟩
    have rc : rangeD lo (n + 1) = .int lo :: rangeD (lo + 1) n := by
      unfold rangeD
      rw [List.range_succ_eq_map, List.map_cons, List.map_map]
      refine congr (congrArg _ (by simp)) (List.map_congr_left fun i _ => ?_)
      simp only [Function.comp]
      congr 1
      omega
    rw [rc, forD_cons]
    show (match bd_law_row_1 [some (.tok 0), some (.lst xs), some (.int lo), e3, e4] st with | .nx e s => _ | .ct e s => _ | .bk e s => _ | o => o) = _
    rw [h1]
    exact q4
theorem e_law_row (st : List D) (hs : HandOk st) : ∃ xs vs st', PL 41 xs vs ∧ xs.length ≤ 6 ∧ HandOk st' ∧ m__law_row [.tok 0] st = .ok (.lst xs) st' := by
  obtain ⟨r, s1, h0, h1, hs1, d1⟩ := e_draw 7 (by decide) (by decide) st hs
  obtain ⟨n, rfl⟩ : ∃ n : Nat, r = (n : Int) := ⟨r.toNat, by omega⟩
  obtain ⟨ys, ws, a2, a3, a4, s2, q1, q2, q3, q4⟩ := row_loop n 0 [] [] none none none s1 .nil (by simp; omega) hs1
  have rg := rng1_nat (n := n) (by omega) s1
  refine ⟨ys, ws, s2, q1, by rw [q2]; simp; omega, q3, ?_⟩
  have ff : F_law_row_1 [some (.tok 0), some (.lst []), none, none, none] st = .nx [some (.tok 0), some (.lst ys), a2, a3, a4] s2 := by
    unfold F_law_row_1
    exact mFor_of (mThenA_of (xs := [.int (n : Int)]) (st1 := s1) (by simp only [ev, bind_ok, get?, d1]) rg) q4
  have f0 : mSetF 1 (mThenA mNil fits?) [some (.tok 0), none, none, none, none] st = .nx [some (.tok 0), some (.lst []), none, none, none] st := rfl
  unfold m__law_row b__law_row
  rw [fnM_eq (by simp), show mkEnv 5 [.tok 0] = [some (.tok 0), none, none, none, none] from rfl, mSeq_of f0, mSeq_of ff]
  simp only [ev, get?]
end My

namespace My
open PySem PySem.Spec PyProof.Rows L2 DL
/-! k02: the law's look at a least row -/
theorem forD_at {g : MG} {body : MS} (ds : List D) (I : Nat → Env' → List D → Prop)
    (h : ∀ (i : Nat) (hi : i < ds.length) (env : Env') (st : List D), I i env st → ∃ e1 e2 st', g ds[i] env = some e1 ∧ body e1 st = .nx e2 st' ∧ I (i + 1) e2 st') (env : Env') (st : List D) (h0 : I 0 env st) :
    ∃ env' st', forD g body ds env st = .nx env' st' ∧ I ds.length env' st' := by
  have key : ∀ (k i : Nat) (env : Env') (st : List D), i + k = ds.length → I i env st → ∃ env' st', forD g body (ds.drop i) env st = .nx env' st' ∧ I ds.length env' st' := by
    intro k
    induction k with
    | zero =>
      intro i env st hk hI
      rw [List.drop_of_length_le (by omega)]
      have e : i = ds.length := by omega
      rw [e] at hI
      exact ⟨env, st, rfl, hI⟩
    | succ k ih =>
      intro i env st hk hI
      have hi : i < ds.length := by omega
      obtain ⟨e1, e2, s2, a, b, c⟩ := h i hi env st hI
      obtain ⟨e3, s3, d, e⟩ := ih (i + 1) e2 s2 (by omega) c
      refine ⟨e3, s3, ?_, e⟩
      rw [List.drop_eq_getElem_cons hi, forD_rt a b]
      exact d
  have := key ds.length 0 env st (by omega) h0
  rwa [List.drop_zero] at this
theorem forD_st {g : MG} {body : MS} (ds : List D) (st : List D) (I : Nat → Env' → Prop)
    (h : ∀ (i : Nat) (hi : i < ds.length) (env : Env'), I i env → ∃ e1 e2, g ds[i] env = some e1 ∧ body e1 st = .nx e2 st ∧ I (i + 1) e2) (env : Env') (h0 : I 0 env) :
    ∃ env', forD g body ds env st = .nx env' st ∧ I ds.length env' := by
  obtain ⟨e, s, a, b, c⟩ := forD_at (g := g) (body := body) ds (fun i e s => s = st ∧ I i e) (fun i hi env s hI => by
    obtain ⟨rfl, hI⟩ := hI
    obtain ⟨e1, e2, a, b, c⟩ := h i hi env hI
    exact ⟨e1, e2, s, a, b, rfl, c⟩) env st ⟨rfl, h0⟩
  subst b
  exact ⟨e, a, c⟩
theorem e_law_common (a b : Int) (st : List D) : m__law_common [.int a, .int b] st = .ok (.int ((Nat.gcd a.natAbs b.natAbs : Nat) : Int)) st := by
  have at_ : dAbs (.int a) = some (.int (a.natAbs : Nat)) := congrArg (fun i => some (D.int i)) (by split <;> omega)
  have ab_ : dAbs (.int b) = some (.int (b.natAbs : Nat)) := congrArg (fun i => some (D.int i)) (by split <;> omega)
  have hw := low_loop b.natAbs a.natAbs (.int a) (.int b) st
  have f1 : mSet 2 (mCall1 (c1 dAbs) (mCons (mVar 0) (mNil))) [some (.int a), some (.int b), none, none] st = .nx [some (.int a), some (.int b), some (.int (a.natAbs : Nat)), none] st :=
    mSet_of (by simp only [ev1, ev2, bind_ok, get?, ret_ok, ev4.2.2.2.2.2.2.2.2.2.2.2.2.1, at_])
  have f2 : mSet 3 (mCall1 (c1 dAbs) (mCons (mVar 1) (mNil))) [some (.int a), some (.int b), some (.int (a.natAbs : Nat)), none] st = .nx [some (.int a), some (.int b), some (.int (a.natAbs : Nat)), some (.int (b.natAbs : Nat))] st :=
    mSet_of (by simp only [ev1, ev2, bind_ok, get?, ret_ok, ev4.2.2.2.2.2.2.2.2.2.2.2.2.1, ab_])
  unfold m__law_common b__law_common
  rw [fnM_eq (by simp), show mkEnv 4 [.int a, .int b] = [some (.int a), some (.int b), none, none] from rfl, mSeq_of f1, mSeq_of f2, mSeq_of hw]
  simp only [ev, get?]
theorem prop_ok {c : Rat} {t u : Int} {v w : Rat} (hv : v = c * (t : Rat)) (hw : w = c * (u : Rat)) : t * w.num * (v.den : Int) = u * v.num * (w.den : Int) := by
  apply icast_inj
  have h1 := mul_den' v
  have h2 := mul_den' w
  have c1 : ((v.den : Int) : Rat) = (v.den : Rat) := rfl
  have c2 : ((w.den : Int) : Rat) = (w.den : Rat) := rfl
  rw [Rat.intCast_mul, Rat.intCast_mul, Rat.intCast_mul, Rat.intCast_mul, c1, c2, ← h1, ← h2]
  generalize (v.den : Rat) = a
  generalize (w.den : Rat) = b
  rw [hv, hw]
  grind
theorem sign_ok {c : Rat} (hc : 0 < c) {t : Int} {v : Rat} (hv : v = c * (t : Rat)) : ¬ (t * v.num < 0) ∧ (decide (t = 0) = decide (v.num = 0)) := by
  rcases Int.lt_trichotomy t 0 with h | h | h
  · have ht : (t : Rat) < 0 := by
      have := Rat.intCast_lt_intCast.mpr h
      simpa using this
    have h1 : 0 < -v := by
      have := Rat.mul_pos hc (by grind : (0 : Rat) < -(t : Rat))
      grind
    have h2 := num_pos' h1
    rw [Rat.neg_num] at h2
    refine ⟨fun z => ?_, ?_⟩
    · have := Int.mul_pos_of_neg_of_neg h (by omega : v.num < 0)
      omega
    · rw [decide_eq_false (by omega), decide_eq_false (by omega)]
  · subst h
    have h1 : v = 0 := by rw [hv]; grind
    subst h1
    exact ⟨by decide, by decide⟩
  · have ht : (0 : Rat) < (t : Rat) := by
      have := Rat.intCast_lt_intCast.mpr h
      simpa using this
    have h2 := num_pos' (by rw [hv]; exact Rat.mul_pos hc ht : 0 < v)
    refine ⟨fun z => ?_, ?_⟩
    · have := Int.mul_pos h h2
      omega
    · rw [decide_eq_false (by omega), decide_eq_false (by omega)]
theorem ixT {xs : List Int} {k : Nat} (h : k < xs.length) (st : List D) : ixS (wT xs) (.int (k : Int)) st = .ok (.int xs[k]) st := by
  unfold wT
  have := atI_nat (xs := xs.map D.int) (k := k) (by rw [List.length_map]; exact h)
  rw [List.getElem_map] at this
  simp only [ev5, this, ret_ok]
theorem ixL {xs : List D} {k : Nat} (h : k < xs.length) (st : List D) : ixS (.lst xs) (.int (k : Int)) st = .ok xs[k] st := by
  simp only [ev5, atI_nat h, ret_ok]
theorem isiI (i : Int) : dIsi [.int i, .ty "int"] = some (.bl true) := rfl
theorem isiB (i : Int) : dIsi [.int i, .ty "bool"] = some (.bl false) := rfl
theorem rn0 (q : Rat) (st : List D) : ixS (rD q) (.int 0) st = .ok (.int q.num) st := rfl
theorem rn1 (q : Rat) (st : List D) : ixS (rD q) (.int 1) st = .ok (.int (q.den : Int)) st := rfl
theorem dNe_bl (a b : Bool) : dNe (.bl a) (.bl b) = some (.bl (!decide (a = b))) := by
  rw [dNe_of (.bl 0 a) (.bl 0 b), eqv_bl]
section
variable {c : Rat} {ts : List Int} {vs : List Rat} {xs : List D}
theorem inner_ok (hc : 0 < c) (hv : ∀ (k : Nat) (h : k < vs.length) (h' : k < ts.length), vs[k] = c * (ts[k] : Rat)) (hp : PL 41 xs vs) (hl : ts.length = vs.length) (hz : ∀ t ∈ ts, t.natAbs < 2 ^ 400) (k : Nat) (hk : k < ts.length) (hk2 : k ≤ 1000) (e2 e4 e5 e6 : Option D) (st : List D) :
    ∃ e4' e5' e6', F_law_right_1 [some (wT ts), some (.lst xs), e2, some (.int (k : Int)), e4, e5, e6] st = .nx [some (wT ts), some (.lst xs), e2, some (.int (k : Int)), e4', e5', e6'] st := by
  have hxl := hp.len
  obtain ⟨env', hf, e4', e5', e6', rfl⟩ := forD_st (g := gNm 4) (body := bd_law_right_1) (rangeD 0 k) st (fun _ e => ∃ e4 e5 e6, e = [some (wT ts), some (.lst xs), e2, some (.int (k : Int)), e4, e5, e6]) (fun i hi env hI => by
    obtain ⟨f4, f5, f6, rfl⟩ := hI
    rw [rangeD_len] at hi
    have hr : (rangeD 0 k)[i]'(by rw [rangeD_len]; exact hi) = .int (i : Int) := by
      have := (rangeD_get (lo := 0) (n := k) (i := i) (d := (rangeD 0 k)[i]'(by rw [rangeD_len]; exact hi)) (List.getElem?_eq_getElem _)).2
      rw [this]; simp
    rw [hr]
    have hkx : k < xs.length := by omega
    have hix : i < xs.length := by omega
    have i1 := ixL hkx st
    have i2 := ixL hix st
    have p1 := e_pair (hp.get k hkx (by omega)) st
    have p2 := e_pair (hp.get i hix (by omega)) st
    have t1 := ixT hk st
    have t2 := ixT (xs := ts) (k := i) (by omega) st
    have s1 := (hp.get k hkx (by omega)).tells (by decide)
    have s2 := (hp.get i hix (by omega)).tells (by decide)
    have eq := prop_ok (hv k (by omega) hk) (hv i (by omega) (by omega))
    have z1 := hz _ (List.getElem_mem hk)
    have z2 := hz _ (List.getElem_mem (l := ts) (n := i) (by omega))
    have m1 : DL.MulOk ts[k] (vs[i]'(by omega)).num := mulOk_sm z1 s2.sm.1 (by omega)
    have m2 : DL.MulOk (ts[k] * (vs[i]'(by omega)).num) ((vs[k]'(by omega)).den : Int) := mulOk_sm (mul_sm z1 s2.sm.1) s1.sm.den' (by omega)
    have m3 : DL.MulOk (ts[i]'(by omega)) (vs[k]'(by omega)).num := mulOk_sm z2 s1.sm.1 (by omega)
    have m4 : DL.MulOk ((ts[i]'(by omega)) * (vs[k]'(by omega)).num) ((vs[i]'(by omega)).den : Int) := mulOk_sm (mul_sm z2 s1.sm.1) s2.sm.den' (by omega)
    refine ⟨_, _, rfl, ?_, ⟨some (.int (i : Int)), some (rD (vs[k]'(by omega))), some (rD (vs[i]'(by omega))), rfl⟩⟩
    have g1 : mSet 5 (mCall m__law_pair (mCons (mIx (mVar 1) (mVar 3)) (mNil))) [some (wT ts), some (.lst xs), e2, some (.int (k : Int)), some (.int (i : Int)), f5, f6] st = .nx [some (wT ts), some (.lst xs), e2, some (.int (k : Int)), some (.int (i : Int)), some (rD (vs[k]'(by omega))), f6] st :=
      mSet_of (by simp only [ev1, ev2, ev3, bind_ok, get?, ret_ok, i1, p1])
    have g2 : mSet 6 (mCall m__law_pair (mCons (mIx (mVar 1) (mVar 4)) (mNil))) [some (wT ts), some (.lst xs), e2, some (.int (k : Int)), some (.int (i : Int)), some (rD (vs[k]'(by omega))), f6] st = .nx [some (wT ts), some (.lst xs), e2, some (.int (k : Int)), some (.int (i : Int)), some (rD (vs[k]'(by omega))), some (rD (vs[i]'(by omega)))] st :=
      mSet_of (by simp only [ev1, ev2, ev3, bind_ok, get?, ret_ok, i2, p2])
    show bd_law_right_1 [some (wT ts), some (.lst xs), e2, some (.int (k : Int)), some (.int (i : Int)), f5, f6] st = _
    unfold bd_law_right_1
    rw [mSeq_of g1, mSeq_of g2]
    refine (mIfS_f (s := st) ?_).trans rfl
    simp only [ev1, ev2, ev3, ev4, bind_ok, get?, ret_ok, t1, t2, rn0, rn1, m1, m2, m3, m4, if_true, eq, decide_true, Bool.not_true]) [some (wT ts), some (.lst xs), e2, some (.int (k : Int)), e4, e5, e6] ⟨e4, e5, e6, rfl⟩
  refine ⟨e4', e5', e6', ?_⟩
  unfold F_law_right_1
  exact mFor_of (mThenA_of (xs := [.int (k : Int)]) (st1 := st) (by simp only [ev1, ev2, bind_ok, get?, ret_ok]) (rng1_nat hk2 st)) hf
theorem gcdL_drop (k : Nat) (h : k < ts.length) : gcdL (ts.drop k) = Nat.gcd ts[k].natAbs (gcdL (ts.drop (k + 1))) := by
  rw [List.drop_eq_getElem_cons h]; rfl
theorem e_right (hc : 0 < c) (hv : ∀ (k : Nat) (h : k < vs.length) (h' : k < ts.length), vs[k] = c * (ts[k] : Rat)) (hp : PL 41 xs vs) (hl : ts.length = vs.length) (hz : ∀ t ∈ ts, t.natAbs < 2 ^ 400) (hn : ts.length ≤ 1000) (hg : gcdL ts ≤ 1) (st : List D) :
    m__law_right [wT ts, .lst xs] st = .ok (.bl true) st := by
  have hxl := hp.len
  obtain ⟨env', hf, g, e3', e4', e5', e6', rfl, hgg⟩ := forD_st (g := gNm 3) (body := bd_law_right_2) (rangeD 0 xs.length) st (fun i e => ∃ (g : Nat) (e3 e4 e5 e6 : Option D), e = [some (wT ts), some (.lst xs), some (.int (g : Int)), e3, e4, e5, e6] ∧ Nat.gcd g (gcdL (ts.drop i)) = gcdL ts) (fun i hi env hI => by
    obtain ⟨g, f3, f4, f5, f6, rfl, hgg⟩ := hI
    rw [rangeD_len] at hi
    have hr : (rangeD 0 xs.length)[i]'(by rw [rangeD_len]; exact hi) = .int (i : Int) := by
      have := (rangeD_get (lo := 0) (n := xs.length) (i := i) (d := (rangeD 0 xs.length)[i]'(by rw [rangeD_len]; exact hi)) (List.getElem?_eq_getElem _)).2
      rw [this]; simp
    rw [hr]
    have hit : i < ts.length := by omega
    have i1 := ixL hi st
    have p1 := e_pair (hp.get i hi (by omega)) st
    have t1 := ixT hit st
    have s1 := (hp.get i hi (by omega)).tells (by decide)
    have z1 := hz _ (List.getElem_mem hit)
    have cm := e_law_common (g : Int) ts[i] st
    rw [Int.natAbs_natCast] at cm
    obtain ⟨q1, q2⟩ := sign_ok hc (hv i (by omega) hit)
    have m1 : DL.MulOk ts[i] (vs[i]'(by omega)).num := mulOk_sm z1 s1.sm.1 (by omega)
    obtain ⟨h4, h5, h6, hin⟩ := inner_ok hc hv hp hl hz i hit (by omega) (some (.int ((Nat.gcd g ts[i].natAbs : Nat) : Int))) f4 f5 f6 st
    refine ⟨_, [some (wT ts), some (.lst xs), some (.int ((Nat.gcd g ts[i].natAbs : Nat) : Int)), some (.int (i : Int)), h4, h5, h6], rfl, ?_, ⟨_, _, _, _, _, rfl, ?_⟩⟩
    · show bd_law_right_2 [some (wT ts), some (.lst xs), some (.int (g : Int)), some (.int (i : Int)), f4, f5, f6] st = _
      have g2 : mSet 2 (mCall m__law_common (mCons (mVar 2) (mCons (mIx (mVar 0) (mVar 3)) (mNil)))) [some (wT ts), some (.lst xs), some (.int (g : Int)), some (.int (i : Int)), f4, f5, f6] st = .nx [some (wT ts), some (.lst xs), some (.int ((Nat.gcd g ts[i].natAbs : Nat) : Int)), some (.int (i : Int)), f4, f5, f6] st :=
        mSet_of (by simp only [ev1, ev2, ev3, bind_ok, get?, ret_ok, t1, cm])
      unfold bd_law_right_2
      rw [seq_ifF56 (s := st) (by simp only [ev1, ev2, ev3, bind_ok, get?, ret_ok, t1, isiI, isiB, Bool.not_true, Bool.false_eq_true, if_false]), mSeq_of g2,
        seq_ifF56 (s := st) (by simp only [ev1, ev2, ev3, ev4, bind_ok, get?, ret_ok, t1, i1, p1, rn0, m1, if_true, q1, q2, decide_false, decide_true, dNe_bl, Bool.not_true, Bool.false_eq_true, if_false])]
      exact hin
    · rw [gcdL_drop i hit] at hgg
      rw [← hgg, Nat.gcd_assoc]) [some (wT ts), some (.lst xs), some (.int 0), none, none, none, none] ⟨0, none, none, none, none, rfl, by simp⟩
  rw [rangeD_len, hxl, ← hl, List.drop_length] at hgg
  have hg0 : g = gcdL ts := by rw [← hgg]; exact (Nat.gcd_zero_right g).symm
  have le1 : ((g : Nat) : Int) ≤ 1 := by omega
  have ff : F_law_right_2 [some (wT ts), some (.lst xs), some (.int 0), none, none, none, none] st = .nx [some (wT ts), some (.lst xs), some (.int (g : Int)), e3', e4', e5', e6'] st := by
    unfold F_law_right_2
    exact mFor_of (mThenA_of (xs := [.int (xs.length : Int)]) (st1 := st) (by simp only [ev1, ev2, ev4, bind_ok, get?, ret_ok]) (rng1_nat (by omega) st)) hf
  have it : dIsi [wT ts, .ty "tuple"] = some (.bl true) := rfl
  have lt : dLen (wT ts) = some (.int (xs.length : Int)) := by
    unfold wT
    simp only [ev4, List.length_map]
    congr 2
    omega
  unfold m__law_right b__law_right
  rw [fnM_eq (by simp), show mkEnv 7 [wT ts, .lst xs] = [some (wT ts), some (.lst xs), none, none, none, none, none] from rfl,
    seq_ifF56 (s := st) (by simp only [ev1, ev2, ev3, ev4, bind_ok, get?, ret_ok, it, lt, decide_true, Bool.not_true, Bool.false_eq_true, if_false]), mSeq_of (mSet_of (s := st) (d := .int 0) rfl)]
  simp only [List.set_cons_zero, List.set_cons_succ]
  rw [mSeq_of ff]
  simp only [ev1, ev2, ev3, ev4, bind_ok, get?, ret_ok, le1, decide_true]
end
end My

namespace My
open PySem PySem.Spec PyProof.Rows L2 DL
/-! k02: the law -/
theorem PL.refl {b : Nat} : ∀ {xs : List D} {vs : List Rat}, PL b xs vs → eqvL xs xs = true
  | _, _, .nil => rfl
  | _, _, .cons h r => by
    rw [eqvL_cons, r.refl, Bool.and_true]
    cases h with
    | one i h => rw [eqv_int]; simp
    | rat q h =>
      unfold rD
      rw [eqv_tup, eqvL_cons, eqvL_cons, eqvL_nil, eqv_int, eqv_int]
      simp
theorem lcm_ints : ∀ ts : List Int, lcmD (ts.map fun (a : Int) => (a : Rat)) = 1
  | [] => rfl
  | t :: ts => by
    show Nat.lcm (t : Rat).den (lcmD (ts.map fun (a : Int) => (a : Rat))) = 1
    rw [lcm_ints ts, Rat.den_intCast]
    rfl
theorem tl_ints {n : Nat} (hn : 1 ≤ n) : ∀ {t : List Int}, (∀ i ∈ t, i.natAbs < 2 ^ n) → TL n (t.map D.int) (t.map fun (a : Int) => (a : Rat))
  | [], _ => .nil
  | i :: t, h => .cons (.one i hn (h i List.mem_cons_self)) (tl_ints hn fun u hu => h u (List.mem_cons_of_mem _ hu))
theorem e_lowest_ints {ts : List Int} (h : ∀ t ∈ ts, t.natAbs < 2 ^ 400) (hl : ts.length ≤ 1000) (st : List D) : m_lowest_row [wT ts] st = .ok (wT (low (ts.map fun (a : Int) => (a : Rat)))) st := by
  refine e_lowest_row (b := 400) (xs := ts.map D.int) (.inr rfl) (tl_ints (by decide) h) (by decide) (by rw [List.length_map]; exact hl) (by rw [lcm_ints]; exact Nat.one_le_two_pow) (fun t ht => ?_) st
  unfold tops at ht
  rw [lcm_ints] at ht
  obtain ⟨v, hv, rfl⟩ := List.mem_map.mp ht
  obtain ⟨i, hi, rfl⟩ := List.mem_map.mp hv
  rw [Rat.num_intCast, Rat.den_intCast]
  have h1 := h i hi
  have h2 : (2 : Nat) ^ 400 < 2 ^ 2000 := Nat.pow_lt_pow_right (by decide) (by decide)
  have h3 : i * (((1 : Nat) : Int) / ((1 : Nat) : Int)) = i := by
    rw [show (((1 : Nat) : Int) / ((1 : Nat) : Int)) = 1 from rfl, Int.mul_one]
  rw [h3]
  omega
theorem larger_ok {sz : Rat} (hs : Sm 101 sz) {e0 e1 e2 e3 e4 e5 e6 e7 e8 e9 e11 e12 : Option D} (st : List D) : ∀ {xs : List D} {vs : List Rat}, PL 41 xs vs →
    lcD [e0, e1, e2, e3, e4, e5, e6, e7, e8, e9, some (rD sz), e11, e12, none] (gNm 13) mYes el_law_2 xs st = .ok ((vs.map fun v => v * sz).map rD) st
  | _, _, .nil => rfl
  | _, _, .cons (x := x) (v := v) (xs := xs) (vs := vs) h r => by
    have ih := larger_ok hs (e0 := e0) (e1 := e1) (e2 := e2) (e3 := e3) (e4 := e4) (e5 := e5) (e6 := e6) (e7 := e7) (e8 := e8) (e9 := e9) (e11 := e11) (e12 := e12) st r
    have p := e_pair h st
    have sm := (h.tells (by decide)).sm
    have m1 : DL.MulOk v.num sz.num := mulOk_sm sm.1 hs.1 (by omega)
    have m2 : DL.MulOk (v.den : Int) (sz.den : Int) := mulOk_sm sm.den' hs.den' (by omega)
    have lw := e_law_low (v.num * sz.num) (v.den * sz.den) (mul_ne (den0 v) (den0 sz)) (sm_mono (mul_sm sm.den' hs.den') (by omega)) st
    rw [← mul_as] at lw
    have el : el_law_2 [e0, e1, e2, e3, e4, e5, e6, e7, e8, e9, some (rD sz), e11, e12, some x] st = .ok (rD (v * sz)) st := by
      unfold el_law_2
      simp only [ev1, ev2, ev3, ev4, bind_ok, get?, ret_ok, p, rn0, rn1, m1, m2, if_true, lw]
    unfold lcD
    have g : gNm 13 x [e0, e1, e2, e3, e4, e5, e6, e7, e8, e9, some (rD sz), e11, e12, none] = some [e0, e1, e2, e3, e4, e5, e6, e7, e8, e9, some (rD sz), e11, e12, some x] := rfl
    rw [g]
    simp only [mYes, noEr, bind_ok, if_true, el, ih, List.map_cons]
theorem TL.takeV {n : Nat} : ∀ (k : Nat) {xs : List D} {vs : List Rat}, TL n xs vs → TL n (xs.take k) (vs.take k)
  | 0, _, _, _ => by simp; exact .nil
  | k + 1, _, _, .nil => .nil
  | k + 1, _, _, .cons h r => .cons h (TL.takeV k r)
/-- the good thing -/
theorem good_ok {far near : Int} (h1 : 1 ≤ near) (h2 : near.natAbs < 2 ^ 101) (h3 : far.natAbs < 2 ^ 101) (b : Bool) : ∃ (Gd : D) (q : Rat) (x y : Int), Gd = (if b then .int far else .tup [.int far, .int near]) ∧ Tells 101 Gd q ∧ 0 < y ∧ y.natAbs < 2 ^ 101 ∧ q = Rat.divInt x y ∧ ∀ st, m__law_pair [Gd] st = .ok (.tup [.int x, .int y]) st := by
  cases b with
  | true =>
    refine ⟨_, (far : Rat), far, 1, rfl, .one far (by decide) h3, by decide, by decide, ?_, fun st => ?_⟩
    · rw [Rat.divInt_eq_div]
      show (far : Rat) = (far : Rat) / ((1 : Int) : Rat)
      rw [Rat.intCast_one]
      grind
    · show m__law_pair [.int far] st = _
      unfold m__law_pair b__law_pair
      simp [ev1, ev2, ev3, ev4, ev5, bind_ok, mkEnv, get?, ret_ok, dIsi, isiD, tyN, subTy]
  | false =>
    refine ⟨_, Rat.divInt far near, far, near, rfl, .two far near (by omega) h3 h2, by omega, h2, rfl, fun st => ?_⟩
    show m__law_pair [.tup [.int far, .int near]] st = _
    unfold m__law_pair b__law_pair
    simp [ev1, ev2, ev3, ev4, ev5, bind_ok, mkEnv, get?, ret_ok, dIsi, isiD, tyN, subTy]
theorem num_pos2 {x y : Int} (hx : 0 < x) (hy : 0 < y) : 0 < Rat.divInt x y := by
  rw [Rat.divInt_eq_div]
  exact div_pos' (by have := Rat.intCast_lt_intCast.mpr hx; simpa using this) (by have := Rat.intCast_lt_intCast.mpr hy; simpa using this)
theorem tup2 (a b : D) (st : List D) : tupOk [a, b] st = .ok (.tup [a, b]) st := ev5.2.2.2.2.2.2.2.2.2.1 a b st
theorem law_ok (S : D) (st : List D) (hs : HandOk st) : RetT (b_law [some S, some (.tok 0), none, none, none, none, none, none, none, none, none, none, none, none] st) := by
  have hp30 : dPow (.int 10) (.int 30) = some (.int 1000000000000000000000000000000) := by rfl
  have hp29 : dPow (.int 10) (.int 29) = some (.int 100000000000000000000000000000) := by rfl
  have hp6 : dPow (.int 10) (.int 6) = some (.int 1000000) := by rfl
  have m5 : DL.MulOk 5 100000000000000000000000000000 := mulOk_l (by decide)
  obtain ⟨r1, s1, a0, a1, hs1, d1⟩ := e_draw 1000000000000000000000000000000 (by decide) (by decide +kernel) st hs
  obtain ⟨r2, s2, b0, b1, hs2, d2⟩ := e_draw 1000000000000000000000000000000 (by decide) (by decide +kernel) s1 hs1
  obtain ⟨near, hnear⟩ : ∃ n : Int, n = 1 + r1 := ⟨_, rfl⟩
  obtain ⟨far, hfar⟩ : ∃ n : Int, n = r2 - 500000000000000000000000000000 := ⟨_, rfl⟩
  have n1 : 1 ≤ near := by omega
  have n2 : near.natAbs < 2 ^ 101 := by omega
  have n3 : (near + 1).natAbs < 2 ^ 101 := by omega
  have f2 : far.natAbs < 2 ^ 101 := by omega
  obtain ⟨O, s3, hO, hs3, d3⟩ := e_odd near s2 hs2
  obtain ⟨r4, s4, q40, q41, hs4, d4⟩ := e_draw 2 (by decide) (by decide) s3 hs3
  obtain ⟨Gd, q, x, y, hGd, tG, hy, hy2, hq, pG⟩ := good_ok n1 n2 f2 (decide (r4 = 0))
  have iO := odd_nr n1 hO
  have wO := odd_nw hO
  have iG := e_is_ratio tG s4
  have iF := e_is_ratio (Tells.two far 1 (by decide) f2 (by decide)) s4
  have i0 := e_is_ratio (Tells.one (n := 1) 0 (by decide) (by decide)) s4
  have wF := e_is_whole_int far s4
  have wT2 := nw_tup [.int far, .int near] s4
  have wN := e_is_whole_int (-near) s4
  have rG := e_ratio_of tG (by decide) s4
  have lG := e_law_low x y (by omega) (Nat.lt_trans hy2 (Nat.pow_lt_pow_right (by decide) (by decide))) s4
  rw [← hq] at lG
  have ng := dNe_rD q q
  rw [decide_eq_true rfl, Bool.not_true] at ng
  have ov : ∃ d, Rn 4 Gd (.tup [.int near, .int (near + 1)]) s4 = .ok d s4 :=
    ⟨_, e_over tG (.two near (near + 1) (by omega) n2 n3) (by decide) (by
      have := num_pos2 (x := near) (y := near + 1) (by omega) (by omega)
      grind) s4⟩
  obtain ⟨dov, ov⟩ := ov
  have rv1 := refused_no (k := 4) (by decide) ov
  have ov0 : Rn 4 Gd (.tup [.int 0, .int near]) s4 = .err ⟨c_BadRatio, none⟩ s4 :=
    e_over0 tG (by
      have := Tells.two (n := 101) 0 near (by omega) (by decide) n2
      rw [Rat.zero_divInt] at this
      exact this) (by decide) s4
  have rv2 := refused_yes (k := 4) (by decide) ov0
  have ln := fun (e0 e1 e2 e3 e6 : Option D) (r : Env') => loop_names (m := 101) (by decide) iO tG e0 e1 e2 e3 e6 r s4
  obtain ⟨xs, vs, s5, hp, hl, hs5, d5⟩ := e_law_row s4 hs4
  have hlv : vs.length ≤ 6 := by have := hp.len; omega
  have tl := hp.tl (by decide)
  have z1 : 41 * vs.length ≤ 41 * 6 := Nat.mul_le_mul_left 41 hlv
  have lrow := fun st => e_lowest_few (X := .lst xs) (.inl rfl) tl (by decide) (by omega) (by omega) (by omega) st
  obtain ⟨c, hc, hvs, prim⟩ := low_spec vs
  have hll := low_len vs
  have lt400 : ∀ t ∈ low vs, t.natAbs < 2 ^ 400 := fun t ht => Nat.lt_of_le_of_lt (low_lt tl.sm t ht) (Nat.pow_lt_pow_right (by decide) (by omega))
  have rt := e_right hc (fun k h h' => by
    have := List.getElem_of_eq hvs h
    rw [List.getElem_map] at this
    exact this) hp hll lt400 (by omega) (by rcases prim with z | z <;> omega) s5
  have nx : dNe (.lst xs) (.lst xs) = some (.bl false) := by
    rw [dNe_of (Sh.lst hp.sh) (Sh.lst hp.sh), eqv_lst, hp.refl]; rfl
  have dl : c1 dList [.lst xs] = some (.lst xs) := rfl
  obtain ⟨r6, s6, g0, g1, hs6, d6⟩ := e_draw 1000000 (by decide) (by decide) s5 hs5
  have hb6 : (1 + r6).natAbs < 2 ^ 101 := by omega
  have lsz := e_law_low near (1 + r6) (by omega) (Nat.lt_trans hb6 (Nat.pow_lt_pow_right (by decide) (by decide))) s6
  have sms : Sm 101 (Rat.divInt near (1 + r6)) := sm_divInt (by omega) n2 hb6
  have psz := num_pos2 (x := near) (y := 1 + r6) (by omega) (by omega)
  generalize Rat.divInt near (1 + r6) = sz at lsz sms psz
  have tl2 : TL 142 ((vs.map fun v => v * sz).map rD) (vs.map fun v => v * sz) := by
    have : ∀ {xs : List D} {vs : List Rat}, TL 41 xs vs → TL 142 ((vs.map fun v => v * sz).map rD) (vs.map fun v => v * sz) := fun {xs vs} t => by
      induction t with
      | nil => exact .nil
      | cons t r ih => exact .cons (Tells.rat (sm_mul t.sm sms)) ih
    exact this tl
  have lrow2 := e_lowest_few (X := .tup ((vs.map fun v => v * sz).map rD)) (.inr rfl) tl2 (by decide) (by rw [List.length_map]; omega) (by rw [List.length_map]; omega) (by rw [List.length_map]; omega) s6
  rw [low_mul psz] at lrow2
  have lrow3 := e_lowest_ints lt400 (by omega) s6
  rw [low_low] at lrow3
  have nT : dNe (wT (low vs)) (wT (low vs)) = some (.bl false) := by
    unfold wT
    rw [dNe_of (sh_ints _) (sh_ints _), eqv_tup, eqvL_ints, decide_eq_true rfl]; rfl
  have eT : dEq (wT (low vs)) (wT (low vs)) = some (.bl true) := by
    unfold wT
    rw [dEq_of (sh_ints _) (sh_ints _), eqv_tup, eqvL_ints, decide_eq_true rfl]
  obtain ⟨r7, s7, h0, h1, hs7, d7⟩ := e_draw ((xs.length : Int) + 1) (by omega) (by
    have := log2_lt' (n := ((xs.length : Int) + 1).natAbs) (k := 10) (by omega) (by omega)
    omega) s6 hs6
  obtain ⟨k, rfl⟩ : ∃ k : Nat, r7 = (k : Int) := ⟨r7.toNat, by omega⟩
  have bad := e_lowest_bad (X := .lst (xs.take k ++ O :: xs.drop k)) (.inl rfl) (tl.takeV k) (by decide) iO (by simp; omega) s7
  have ad1 : dAdd (.lst (xs.take k)) (.lst [O]) = some (.lst (xs.take k ++ [O])) := addL _ _ (by simp; omega)
  have ad2 : dAdd (.lst (xs.take k ++ [O])) (.lst (xs.drop k)) = some (.lst (xs.take k ++ O :: xs.drop k)) := by
    rw [addL _ _ (by simp; omega), List.append_assoc]; rfl
  have hgd : (if r4 = 0 then D.int far else .tup [.int far, .int near]) = Gd := by
    rw [hGd]
    by_cases z : r4 = 0
    · rw [if_pos z, decide_eq_true z]; rfl
    · rw [if_neg z, decide_eq_false z]; rfl
  have eg : ∀ (e6 : Env'), (mIf (mTest (mOp dEq (mCall m__law_draw (mCons (mVar 1) (mCons (mC (.int 2)) (mNil)))) (mC (.int 0)))) (mVar 3) (mTup (mCons (mVar 3) (mCons (mVar 2) (mNil))))) (some S :: some (.tok 0) :: some (.int near) :: some (.int far) :: e6) s3 = .ok Gd s4 := fun e6 => by
    rw [← hgd]
    by_cases z : r4 = 0
    · simp only [ev1, ev2, ev3, ev4, bind_ok, get?, ret_ok, d4, z, decide_true, if_true]
    · simp only [ev1, ev2, ev3, ev4, bind_ok, get?, ret_ok, d4, z, decide_false, if_false, Bool.false_eq_true, tup2]
  unfold b_law
  rw [mSeq_of (mSet_of (s := s1) (d := .int near) (by simp only [ev1, ev2, ev3, ev4, bind_ok, get?, ret_ok, hp30, d1, hnear]))]
  simp only [List.set_cons_zero, List.set_cons_succ]
  rw [mSeq_of (mSet_of (s := s2) (d := .int far) (by simp only [ev1, ev2, ev3, ev4, bind_ok, get?, ret_ok, hp30, hp29, d2, m5, if_true, hfar]; rfl))]
  simp only [List.set_cons_zero, List.set_cons_succ]
  rw [mSeq_of (mSet_of (s := s3) (d := O) (by simp only [ev1, ev2, ev3, ev4, bind_ok, get?, ret_ok, d3]))]
  simp only [List.set_cons_zero, List.set_cons_succ]
  rw [mSeq_of (mSet_of (s := s4) (d := Gd) (eg _))]
  simp only [List.set_cons_zero, List.set_cons_succ]
  have nb : ∀ a b : Bool, dNotB (.bl a) (.bl b) = some (.bl (!decide (a = b))) := fun _ _ => rfl
  rw [seq_ifF56 (s := s4) (by simp only [ev1, ev2, ev3, ev4, bind_ok, get?, ret_ok, iO s4, iG, tup2, iF, i0, nb, decide_true, Bool.not_true, Bool.false_eq_true, if_false])]
  rw [seq_ifF56 (s := s4) (by simp only [ev1, ev2, ev3, ev4, bind_ok, get?, ret_ok, wO s4, wF, tup2, wT2, wN, nb, decide_true, Bool.not_true, Bool.false_eq_true, if_false])]
  have ix0 : ∀ (a b : D) (s : List D), ixS (.tup [a, b]) (.int 0) s = .ok a s := fun _ _ _ => rfl
  have ix1 : ∀ (a b : D) (s : List D), ixS (.tup [a, b]) (.int 1) s = .ok b s := fun _ _ _ => rfl
  rw [seq_ifF56 (s := s4) (by simp only [ev1, ev2, ev3, ev4, bind_ok, get?, ret_ok, rG, pG s4, ix0, ix1, lG, ng])]
  rw [mSeq_of (ln _ _ _ _ _ _)]
  have rv1' : m__law_refused [.str "over", Gd, .tup [.int near, .int (near + 1)]] s4 = .ok (.bl false) s4 := rv1
  have rv2' : m__law_refused [.str "over", Gd, .tup [.int 0, .int near]] s4 = .ok (.bl true) s4 := rv2
  rw [seq_ifF56 (s := s4) (by simp only [ev1, ev2, ev3, ev4, bind_ok, get?, ret_ok, tup2, rv1', rv2', Bool.not_true, Bool.false_eq_true, if_false])]
  rw [mSeq_of (mSet_of (s := s5) (d := .lst xs) (by simp only [ev1, ev2, ev3, ev4, bind_ok, get?, ret_ok, d5]))]
  simp only [List.set_cons_zero, List.set_cons_succ]
  rw [mSeq_of (mSet_of (s := s5) (d := .lst xs) (by simp only [ev1, ev2, ev3, bind_ok, get?, ret_ok, dl]))]
  simp only [List.set_cons_zero, List.set_cons_succ]
  rw [mSeq_of (mSet_of (s := s5) (d := wT (low vs)) (by simp only [ev1, ev2, ev3, bind_ok, get?, ret_ok, lrow s5]))]
  simp only [List.set_cons_zero, List.set_cons_succ]
  rw [seq_ifF56 (s := s5) (by simp only [ev1, ev2, ev3, bind_ok, get?, ret_ok, rt, nx, Bool.not_true, Bool.false_eq_true, if_false])]
  rw [mSeq_of (mSet_of (s := s6) (d := rD sz) (by simp only [ev1, ev2, ev3, ev4, bind_ok, get?, ret_ok, hp6, d6, lsz]))]
  simp only [List.set_cons_zero, List.set_cons_succ]
  have fL : ∀ (e6 e7 e11 e12 : Option D) (e13 : Option D), L_law_2 [some S, some (.tok 0), some (.int near), some (.int far), some O, some Gd, e6, e7, some (.lst xs), some (wT (low vs)), some (rD sz), e11, e12, e13] s6 = .ok (.lst ((vs.map fun v => v * sz).map rD)) s6 := fun e6 e7 e11 e12 e13 => by
    unfold L_law_2
    exact mLC_of (mItems_of (x := .lst xs) (st1 := s6) (by simp only [ev1, ev2, get?, ret_ok]) rfl) (larger_ok sms s6 hp) (by simp only [List.length_map]; omega)
  rw [mSeq_of (mSet_of (s := s6) (d := .lst ((vs.map fun v => v * sz).map rD)) (fL _ _ _ _ _))]
  simp only [List.set_cons_zero, List.set_cons_succ]
  have dt : c1 dTuple [.lst ((vs.map fun v => v * sz).map rD)] = some (.tup ((vs.map fun v => v * sz).map rD)) := rfl
  rw [seq_ifF56 (s := s6) (by simp only [ev1, ev2, ev3, bind_ok, get?, ret_ok, dt, lrow2, lrow3, nT, Bool.false_eq_true, if_false])]
  rw [mSeq_of (mSet_of (s := s7) (d := .int (k : Int)) (by simp only [ev1, ev2, ev3, ev4, bind_ok, get?, ret_ok, d7]))]
  simp only [List.set_cons_zero, List.set_cons_succ]
  have sl1 : ∀ (e6 e7 e11 e13 : Option D) (e9 e10 : Option D), mSl (mVar 8) (mNo) (mPart (mVar 12)) [some S, some (.tok 0), some (.int near), some (.int far), some O, some Gd, e6, e7, some (.lst xs), e9, e10, e11, some (.int (k : Int)), e13] s7 = .ok (.lst (xs.take k)) s7 := fun _ _ _ _ _ _ => by
    rw [mSl_of (xs := xs) (lo := none) (hi := some (k : Int)) (s1 := s7) (s2 := s7) (s3 := s7) (by simp only [ev1, ev2, get?, ret_ok]) rfl (mPart_of (by simp only [ev1, ev2, get?, ret_ok])), cut_take]
  have sl2 : ∀ (e6 e7 e11 e13 : Option D) (e9 e10 : Option D), mSl (mVar 8) (mPart (mVar 12)) (mNo) [some S, some (.tok 0), some (.int near), some (.int far), some O, some Gd, e6, e7, some (.lst xs), e9, e10, e11, some (.int (k : Int)), e13] s7 = .ok (.lst (xs.drop k)) s7 := fun _ _ _ _ _ _ => by
    rw [mSl_of (xs := xs) (lo := some (k : Int)) (hi := none) (s1 := s7) (s2 := s7) (s3 := s7) (by simp only [ev1, ev2, get?, ret_ok]) (mPart_of (by simp only [ev1, ev2, get?, ret_ok])) rfl, cut_drop]
  have l1 : lstOk [O] s7 = .ok (.lst [O]) s7 := lstOk_of (by simp) s7
  unfold mTryM
  rw [mSeq_k]
  simp only [ev1, ev2, ev3, bind_ok, bind_err, get?, ret_ok, sl1, sl2, l1, ad1, ad2, bad, seqK_er, mHands, clX_BadRatio, lrow s7, eT, noErS]
  exact RetT.mk _
theorem hH : ∀ (ns : List Int), ns.length ≤ 63 → ∃ cells t, m__law_hand [.rol (ns.map .int)] [] = .ok (handD cells 0 0 t) [] ∧ ∃ st', b_law (some (.rol (ns.map .int)) :: some (.tok 0) :: List.replicate 12 none) [handD cells 0 0 t] = .rt (.bl true) st' := fun ns hl => by
  obtain ⟨cells, t, hc, e⟩ := e_hand ns hl
  exact ⟨cells, t, e, law_ok _ _ ⟨cells, 0, 0, t, rfl, by decide, by decide, hc⟩⟩
end My

open PySem PySem.W PyProof.Rows
set_option maxHeartbeats 0 in
theorem PySem.Challenge.cw_untoldgaps_k02_things_that_are_no_ratios_holds : PySem.Challenge.rw_untoldgaps_k02_things_that_are_no_ratios.Holds :=
  hd (by
    k_fill
    refine DL.walk_ofC (l := PySem.Challenge.rw_untoldgaps_k02_things_that_are_no_ratios) (n := 63) (k := 6) (x := "_law_script") rfl (by decide) (by decide) rfl ⟨rfl, by decide, by decide⟩ (fun w h Y => PySem.W.kIn_of Y) ?F
    case F =>
      intro w mg la h KX G hmg
      refine' My.all_mk KX G hmg My.hH ?ca0 ?ca1 ?a0 ?l0 ?c0 ?k0 ?a1 ?l1 ?c1 ?k1 ?a2 ?l2 ?c2 ?k2 ?a3 ?l3 ?c3 ?k3 ?a4 ?l4 ?c4 ?k4 ?a5 ?l5 ?c5 ?k5 ?a6 ?l6 ?c6 ?k6 ?a7 ?l7 ?c7 ?k7 ?a8 ?l8 ?c8 ?k8 ?a9 ?l9 ?c9 ?k9 ?a10 ?l10 ?c10 ?k10 ?a11 ?l11 ?c11 ?k11 ?a12 ?l12 ?c12 ?k12 ?a13 ?l13 ?c13 ?k13 ?a14 ?l14 ?c14 ?k14 ?a15 ?l15 ?c15 ?k15 ?a16 ?l16 ?c16 ?k16 ?a17 ?l17 ?c17 ?k17 ?a18 ?l18 ?c18 ?k18 ?a19 ?l19 ?c19 ?k19 ?a20 ?l20 ?c20 ?k20 ?z_ValueError ?z_abs ?z_bool ?z_enumerate ?z_int ?z_isinstance ?z_len ?z_list ?z_range ?z_tuple ?i_gcd ?i_lcm ?cs0 ?ct0_ ?ck0 ?cd0_ ?cs1 ?ct1_ ?ck1 ?cd1_ ?cx1 ?s1_1 ?xc1 ?xk1_0 ?xk1_V
      (case ca0 => k_is)
      (case ca1 => k_is)
      (case a0 => k_is)
      (case l0 => k_is)
      (case c0 => k_is)
      (case k0 => k_is)
      (case a1 => k_is)
      (case l1 => k_is)
      (case c1 => k_is)
      (case k1 => k_is)
      (case a2 => k_is)
      (case l2 => k_is)
      (case c2 => k_is)
      (case k2 => k_is)
      (case a3 => k_is)
      (case l3 => k_is)
      (case c3 => k_is)
      (case k3 => k_is)
      (case a4 => k_is)
      (case l4 => k_is)
      (case c4 => k_is)
      (case k4 => k_is)
      (case a5 => k_is)
      (case l5 => k_is)
      (case c5 => k_is)
      (case k5 => k_is)
      (case a6 => k_is)
      (case l6 => k_is)
      (case c6 => k_is)
      (case k6 => k_is)
      (case a7 => k_is)
      (case l7 => k_is)
      (case c7 => k_is)
      (case k7 => k_is)
      (case a8 => k_is)
      (case l8 => k_is)
      (case c8 => k_is)
      (case k8 => k_is)
      (case a9 => k_is)
      (case l9 => k_is)
      (case c9 => k_is)
      (case k9 => k_is)
      (case a10 => k_is)
      (case l10 => k_is)
      (case c10 => k_is)
      (case k10 => k_is)
      (case a11 => k_is)
      (case l11 => k_is)
      (case c11 => k_is)
      (case k11 => k_is)
      (case a12 => k_is)
      (case l12 => k_is)
      (case c12 => k_is)
      (case k12 => k_is)
      (case a13 => k_is)
      (case l13 => k_is)
      (case c13 => k_is)
      (case k13 => k_is)
      (case a14 => k_is)
      (case l14 => k_is)
      (case c14 => k_is)
      (case k14 => k_is)
      (case a15 => k_is)
      (case l15 => k_is)
      (case c15 => k_is)
      (case k15 => k_is)
      (case a16 => k_is)
      (case l16 => k_is)
      (case c16 => k_is)
      (case k16 => k_is)
      (case a17 => k_is)
      (case l17 => k_is)
      (case c17 => k_is)
      (case k17 => k_is)
      (case a18 => k_is)
      (case l18 => k_is)
      (case c18 => k_is)
      (case k18 => k_is)
      (case a19 => k_is)
      (case l19 => k_is)
      (case c19 => k_is)
      (case k19 => k_is)
      (case a20 => k_is)
      (case l20 => k_is)
      (case c20 => k_is)
      (case k20 => k_is)
      (case z_ValueError => k_is)
      (case z_abs => k_is)
      (case z_bool => k_is)
      (case z_enumerate => k_is)
      (case z_int => k_is)
      (case z_isinstance => k_is)
      (case z_len => k_is)
      (case z_list => k_is)
      (case z_range => k_is)
      (case z_tuple => k_is)
      (case i_gcd => k_is)
      (case i_lcm => k_is)
      (case cs0 => k_is)
      (case ct0_ => k_is)
      (case ck0 => k_is)
      (case cd0_ => k_is)
      (case cs1 => k_is)
      (case ct1_ => k_is)
      (case ck1 => k_is)
      (case cd1_ => k_is)
      (case cx1 => k_exc)
      (case s1_1 => k_is)
      (case xc1 => exact DL.excB_mk (by k_is) (by k_is) (by k_is) (by k_is) (by k_is) (by k_is) (by k_is) (by k_is))
      (case xk1_0 => exact DL.kitO_ref (by k_is) (by k_is) (by k_is))
      (case xk1_V => exact DL.kitO_ty (by k_is) (by rfl)))
