import PyProof.Rows.All
import Wide.All
import OpenK.AllK
import Wide.FinOn
import HandS.ForMost
import HandS.TupAny
import HandS.Style
import HandS.IsInst
import KE.DataCmp
import KE.DataEq
import KE.DataMinMax
import KE.DataIsa
import KE.SortData
import PyProof.ReprRoads
import PyProof.TupleOfSeq
import HandS.TupMul
import HandS.Conv
import HandS.WideBits
import HandS.Text
import HandS.Zip
import KE.DatumIndex
import KE.KIndexOf
import HandS.DictComp
import KE.KDictSum
import HandS.Dict
import PyProof.ReprLen
import KE.GoesMore
import KE.GoesZip
import PyProof.Draws
import HandS.More
import HandS.Small
import HandS.Strs
import HandS.SetFor
import HandS.TupSets
import HandS.NoneIn
import KE.KRevSl
import HandS.TupLen
import KE.KDictDisplayH
import KE.KeyNested
import PySem.Challenge.RW_pourasked_k01_closings_of_books
set_option Elab.async false
set_option linter.all false
set_option maxRecDepth 100000
set_option maxHeartbeats 1000000
/-! A calculus of plain data over the hand layer: what a name holds is data (never an address); lists that a def makes are its own until they are given away. -/
namespace DL
open PySem PySem.Spec PyProof.Rows L2
abbrev D := PyData
/-- what a name holds: data that nobody changes any more; a list (a dict) of one's own; a token of the zone -/
inductive DV where
  | sh (d : D)
  | own (es : List DV)
  | dic (kvs : List (Key × DV))
  | dit (ks : List (List Key))
  | tok (n : Nat)
  /-- a tuple whose very object is known -/
  | kt (ds : List D)
/-- the zone: what may change behind every call (the deck), its invariant -/
structure Zn where
  P : Program
  w : World
  Z : Addr → Prop
  J : Hp → Prop
  tokV : Nat → V
  jmut : ∀ H, J H → ∀ a, Z a → Mut (H a)
  jloc : ∀ H H', J H → (∀ a, Z a → H' a = H a) → J H'
section
variable (K : PySem.W.Frag) (G : Addr → Prop) (H : Hp)
/-- a list to be read: one that G speaks of -/
def LstAt (a : Addr) (vs : List V) : Prop := H a = some (.lst vs) ∧ G a
mutual
inductive Dq : V → D → Prop
  | non : Dq .non .none
  | bl (b : Bool) : Dq (.bl b) (.bool b)
  | int (i : Int) : Dq (.int i) (.int i)
  | str (s : Str) : Dq (.str s) (.str s)
  | lst {a : Addr} {vs : List V} {ds : List D} : LstAt G H a vs → DqAll vs ds → Dq (.ref a) (.list ds)
  | tup {a : Addr} {vs : List V} {ds : List D} : SqT K H a vs → DqAll vs ds → Dq (.ref a) (.tuple ds)
inductive DqAll : List V → List D → Prop
  | nil : DqAll [] []
  | cons {v : V} {d : D} {vs : List V} {ds : List D} : Dq v d → DqAll vs ds → DqAll (v :: vs) (d :: ds)
end
end
section
variable {K : PySem.W.Frag} {G G' : Addr → Prop} {H H' : Hp}
/-- what may happen between two looks at shared data -/
structure Keep (G : Addr → Prop) (H : Hp) (G' : Addr → Prop) (H' : Hp) : Prop where
  tup : ∀ a vs, H a = some (.tup vs) → H' a = some (.tup vs)
  frz : ∀ a o u, H a = some (.frz o u) → H' a = some (.frz o u)
  lst : ∀ a vs, H a = some (.lst vs) → G a → H' a = some (.lst vs) ∧ G' a
theorem Keep.rd {a : Addr} {vs : List V} (k : Keep G H G' H') (h : Rd H a (.tup vs)) : Rd H' a (.tup vs) := by
  rcases h with h | ⟨o, h⟩
  · exact .inl (k.tup _ _ h)
  · exact .inr ⟨o, k.frz _ _ _ h⟩
theorem Keep.sqT {a : Addr} {vs : List V} (k : Keep G H G' H') (h : SqT K H a vs) : SqT K H' a vs := by
  rcases h with h | h
  · exact .inl (k.rd h)
  · exact .inr h
theorem Keep.lstAt {a : Addr} {vs : List V} (k : Keep G H G' H') (h : LstAt G H a vs) : LstAt G' H' a vs := by
  exact k.lst _ _ h.1 h.2
mutual
theorem Dq.mono (k : Keep G H G' H') : ∀ (d : D) (v : V), Dq K G H v d → Dq K G' H' v d
  | .none, _, h => by cases h; exact .non
  | .bool _, _, h => by cases h; exact .bl _
  | .int _, _, h => by cases h; exact .int _
  | .str _, _, h => by cases h; exact .str _
  | .list ds, _, h => by
    cases h with
    | lst h1 h2 => exact .lst (k.lstAt h1) (DqAll.mono k ds _ h2)
  | .tuple ds, _, h => by
    cases h with
    | tup h1 h2 => exact .tup (k.sqT h1) (DqAll.mono k ds _ h2)
  | .dict _, _, h => by cases h
theorem DqAll.mono (k : Keep G H G' H') : ∀ (ds : List D) (vs : List V), DqAll K G H vs ds → DqAll K G' H' vs ds
  | [], _, h => by cases h; exact .nil
  | d :: ds, _, h => by
    cases h with
    | cons h1 h2 => exact .cons (Dq.mono k d _ h1) (DqAll.mono k ds _ h2)
end
theorem Keep.weak (h : ∀ a, G a → G' a) : Keep G H G' H := ⟨fun _ _ e => e, fun _ _ _ e => e, fun a _ e g => ⟨e, h a g⟩⟩
theorem DqAll.length : ∀ {vs : List V} {ds : List D}, DqAll K G H vs ds → vs.length = ds.length
  | _, _, .nil => rfl
  | _, _, .cons _ t => congrArg (· + 1) (DqAll.length t)
theorem DqAll.get : ∀ {vs : List V} {ds : List D} {i : Nat} {d : D}, DqAll K G H vs ds → ds[i]? = some d → ∃ v, vs[i]? = some v ∧ Dq K G H v d
  | _, _, _, _, .nil, e => by cases e
  | _, _, 0, _, .cons r _, e => by cases e; exact ⟨_, rfl, r⟩
  | _, _, i + 1, d, .cons _ t, e => by
    obtain ⟨v, h1, h2⟩ := DqAll.get (i := i) (d := d) t (by simpa using e)
    exact ⟨v, by simpa using h1, h2⟩
theorem DqAll.append : ∀ {vs us : List V} {ds es : List D}, DqAll K G H vs ds → DqAll K G H us es → DqAll K G H (vs ++ us) (ds ++ es)
  | _, _, _, _, .nil, s => s
  | _, _, _, _, .cons r t, s => .cons r (DqAll.append t s)
theorem DqAll.take : ∀ {vs : List V} {ds : List D} (n : Nat), DqAll K G H vs ds → DqAll K G H (vs.take n) (ds.take n)
  | _, _, 0, _ => .nil
  | _, _, _ + 1, .nil => .nil
  | _, _, n + 1, .cons r t => .cons r (DqAll.take n t)
theorem DqAll.drop : ∀ {vs : List V} {ds : List D} (n : Nat), DqAll K G H vs ds → DqAll K G H (vs.drop n) (ds.drop n)
  | _, _, 0, r => r
  | _, _, _ + 1, .nil => .nil
  | _, _, n + 1, .cons _ t => DqAll.drop n t
/-- only one list of values has a given data's flat items -/
theorem DqAll.ints : ∀ {ns : List Int} {vs : List V}, DqAll K G H vs (ns.map PyData.int) → vs = ns.map V.int
  | [], _, h => by cases h; rfl
  | n :: ns, _, h => by
    cases h with
    | cons h1 h2 =>
      cases h1
      rw [DqAll.ints h2]; rfl
theorem DqAll.bools : ∀ {ns : List Bool} {vs : List V}, DqAll K G H vs (ns.map PyData.bool) → vs = ns.map V.bl
  | [], _, h => by cases h; rfl
  | n :: ns, _, h => by
    cases h with
    | cons h1 h2 =>
      cases h1
      rw [DqAll.bools h2]; rfl
theorem DqAll.ofInts : ∀ (ns : List Int), DqAll K G H (ns.map V.int) (ns.map PyData.int)
  | [] => .nil
  | n :: ns => .cons (.int n) (DqAll.ofInts ns)
end
/-! ### data without a list within -/
mutual
def noLst : D → Bool
  | .list _ => false
  | .dict _ => false
  | .tuple ds => noLsts ds
  | _ => true
def noLsts : List D → Bool
  | [] => true
  | d :: ds => noLst d && noLsts ds
end
section
variable {K : PySem.W.Frag} {G G' : Addr → Prop} {H : Hp}
mutual
theorem Dq.free : ∀ (d : D) (v : V), noLst d = true → Dq K G H v d → Dq K G' H v d
  | .none, _, _, h => by cases h; exact .non
  | .bool _, _, _, h => by cases h; exact .bl _
  | .int _, _, _, h => by cases h; exact .int _
  | .str _, _, _, h => by cases h; exact .str _
  | .list ds, _, n, h => by simp [noLst] at n
  | .tuple ds, _, n, h => by
    cases h with
    | tup h1 h2 => exact .tup h1 (DqAll.free ds _ (by simpa [noLst] using n) h2)
  | .dict _, _, _, h => by cases h
theorem DqAll.free : ∀ (ds : List D) (vs : List V), noLsts ds = true → DqAll K G H vs ds → DqAll K G' H vs ds
  | [], _, _, h => by cases h; exact .nil
  | d :: ds, _, n, h => by
    simp only [noLsts, Bool.and_eq_true] at n
    cases h with
    | cons h1 h2 => exact .cons (Dq.free d _ n.1 h1) (DqAll.free ds _ n.2 h2)
end
end
/-! ### dicts whose keys are tuples of ints and texts: the keys alone matter -/
abbrev TKey := List Key × Addr
/-- the dict at D has these keys, in this order -/
def KeysAt (P : Program) (w : World) (D : Addr) (ks : List TKey) : Heap → Prop := fun h => (D == sysModules) = false ∧
  ∃ xs : List (List Key × Addr × Value), xs.map (fun x => (x.1, x.2.1)) = ks ∧ ∃ o es ep, h.get? D = some o ∧ o.ExactDict ∧ o.data = .dict es ep ∧ es.toList = xs.map (entryOfKey (tupleKind (mixKind P w)))
abbrev HOT (P : Program) (w : World) (D : Addr) (ks : List TKey) : HO := .ext (KeysAt P w D ks)
/-! ### what a name holds, at the heap; the addresses that it owns -/
section
variable (K : PySem.W.Frag) (C : Zn) (F : Addr → Prop) (H : Hp)
mutual
inductive Rep : V → DV → List Addr → Prop
  | sh {v : V} {d : D} : Dq K F H v d → Rep v (.sh d) []
  | own {a : Addr} {vs : List V} {es : List DV} {as : List Addr} : H a = some (.lst vs) → Reps vs es as → Rep (.ref a) (.own es) (a :: as)
  | dic {a : Addr} {kvs : List (Key × V)} {es : List (Key × DV)} {as : List Addr} : H a = some (.dK kvs) → kvs.map (·.1) = es.map (·.1) → Reps (kvs.map (·.2)) (es.map (·.2)) as → Rep (.ref a) (.dic es) (a :: as)
  | dit {a : Addr} {ks : List TKey} : H a = some (HOT C.P C.w a ks) → (∀ q ∈ ks, SqT K H q.2 (q.1.map kV)) → (ks.map (·.1)).Nodup → Rep (.ref a) (.dit (ks.map (·.1))) [a]
  | tok (n : Nat) : Rep (C.tokV n) (.tok n) []
  | kt {a : Addr} {o : Obj} {vs : List V} {ds : List D} : H a = some (.frz o (.tup vs)) → o.dict = none → DqAll K F H vs ds → Rep (.ref a) (.kt ds) []
inductive Reps : List V → List DV → List Addr → Prop
  | nil : Reps [] [] []
  | cons {v : V} {d : DV} {vs : List V} {ds : List DV} {as bs : List Addr} : Rep v d as → Reps vs ds bs → Reps (v :: vs) (d :: ds) (as ++ bs)
end
end
section
variable {K : PySem.W.Frag} {C : Zn} {F F' : Addr → Prop} {H H' : Hp}
mutual
theorem Rep.mono (k : Keep F H F' H') : ∀ {v : V} {d : DV} {as : List Addr}, Rep K C F H v d as → (∀ a ∈ as, H' a = H a) → Rep K C F' H' v d as
  | _, _, _, .sh h, _ => .sh (Dq.mono k _ _ h)
  | _, _, _, .own e r, s => .own ((s _ List.mem_cons_self).trans e) (Reps.mono k r fun a m => s a (List.mem_cons_of_mem _ m))
  | _, _, _, .dic e q r, s => .dic ((s _ List.mem_cons_self).trans e) q (Reps.mono k r fun a m => s a (List.mem_cons_of_mem _ m))
  | _, _, _, .dit e q r, s => .dit ((s _ List.mem_cons_self).trans e) (fun z m => Keep.sqT k (q z m)) r
  | _, _, _, .tok n, _ => .tok n
  | _, _, _, .kt e d r, _ => .kt (k.frz _ _ _ e) d (DqAll.mono k _ _ r)
theorem Reps.mono (k : Keep F H F' H') : ∀ {vs : List V} {ds : List DV} {as : List Addr}, Reps K C F H vs ds as → (∀ a ∈ as, H' a = H a) → Reps K C F' H' vs ds as
  | _, _, _, .nil, _ => .nil
  | _, _, _, .cons r t, s => .cons (Rep.mono k r fun a m => s a (List.mem_append_left _ m)) (Reps.mono k t fun a m => s a (List.mem_append_right _ m))
end
mutual
/-- owned addresses are tracked -/
theorem Rep.there : ∀ {v : V} {d : DV} {as : List Addr}, Rep K C F H v d as → ∀ a ∈ as, ∃ o, H a = some o ∧ Mut (some o)
  | _, _, _, .sh _, _, m => by cases m
  | _, _, _, .own e r, a, m => by
    rcases List.mem_cons.mp m with rfl | m
    · exact ⟨_, e, trivial⟩
    · exact Reps.there r a m
  | _, _, _, .dic e _ r, a, m => by
    rcases List.mem_cons.mp m with rfl | m
    · exact ⟨_, e, trivial⟩
    · exact Reps.there r a m
  | _, _, _, .dit e _ _, a, m => by
    obtain rfl := List.mem_singleton.mp m
    exact ⟨_, e, trivial⟩
  | _, _, _, .tok _, _, m => by cases m
  | _, _, _, .kt _ _ _, _, m => by cases m
theorem Reps.there : ∀ {vs : List V} {ds : List DV} {as : List Addr}, Reps K C F H vs ds as → ∀ a ∈ as, ∃ o, H a = some o ∧ Mut (some o)
  | _, _, _, .nil, _, m => by cases m
  | _, _, _, .cons r t, a, m => by
    rcases List.mem_append.mp m with m | m
    · exact Rep.there r a m
    · exact Reps.there t a m
end
theorem Reps.length : ∀ {vs : List V} {ds : List DV} {as : List Addr}, Reps K C F H vs ds as → vs.length = ds.length
  | _, _, _, .nil => rfl
  | _, _, _, .cons _ t => congrArg (· + 1) (Reps.length t)
theorem Reps.append : ∀ {vs us : List V} {ds es : List DV} {as bs : List Addr}, Reps K C F H vs ds as → Reps K C F H us es bs → Reps K C F H (vs ++ us) (ds ++ es) (as ++ bs)
  | _, _, _, _, _, _, .nil, s => s
  | _, _, _, _, _, _, .cons r t, s => by rw [List.append_assoc]; exact .cons r (Reps.append t s)
theorem Reps.ofDq : ∀ {vs : List V} {ds : List D}, DqAll K F H vs ds → Reps K C F H vs (ds.map DV.sh) []
  | _, _, .nil => .nil
  | _, _, .cons r t => .cons (as := []) (.sh r) (Reps.ofDq t)
end
/-! ### giving away: a value as data -/
mutual
def DV.fz : DV → Option D
  | .sh d => some d
  | .own es => (DV.fzs es).map PyData.list
  | .dic _ => none
  | .dit _ => none
  | .tok _ => none
  | .kt ds => some (.tuple ds)
def DV.fzs : List DV → Option (List D)
  | [] => some []
  | e :: es => match DV.fz e, DV.fzs es with
    | some d, some ds => some (d :: ds)
    | _, _ => none
end
theorem fzs_sh : ∀ ds : List D, DV.fzs (ds.map DV.sh) = some ds
  | [] => rfl
  | d :: ds => by rw [List.map_cons, DV.fzs, DV.fz, fzs_sh ds]
section
variable {K : PySem.W.Frag} {C : Zn} {F G : Addr → Prop} {H : Hp}
mutual
theorem Rep.rd (hF : ∀ a, F a → G a) : ∀ {v : V} {e : DV} {as : List Addr} {d : D}, Rep K C F H v e as → e.fz = some d → (∀ a ∈ as, G a) → Dq K G H v d
  | _, .sh d, _, _, h, q, _ => by
    cases h with
    | sh h => rw [DV.fz] at q; cases q; exact Dq.mono (Keep.weak hF) _ _ h
  | _, .own es, _, d, h, q, g => by
    cases h with
    | own e r =>
      rw [DV.fz] at q
      cases z : DV.fzs es with
      | none => rw [z] at q; cases q
      | some ds =>
        rw [z] at q; cases q
        exact .lst ⟨e, g _ List.mem_cons_self⟩ (Reps.rd hF r z fun a m => g a (List.mem_cons_of_mem _ m))
  | _, .dic _, _, _, _, q, _ => by rw [DV.fz] at q; cases q
  | _, .dit _, _, _, _, q, _ => by rw [DV.fz] at q; cases q
  | _, .tok _, _, _, _, q, _ => by rw [DV.fz] at q; cases q
  | _, .kt ds, _, _, h, q, _ => by
    cases h with
    | kt e d r => rw [DV.fz] at q; cases q; exact .tup (.inl (.inr ⟨_, e⟩)) (DqAll.mono (Keep.weak hF) _ _ r)
theorem Reps.rd (hF : ∀ a, F a → G a) : ∀ {vs : List V} {es : List DV} {as : List Addr} {ds : List D}, Reps K C F H vs es as → DV.fzs es = some ds → (∀ a ∈ as, G a) → DqAll K G H vs ds
  | _, [], _, _, h, q, _ => by
    cases h
    rw [DV.fzs] at q; cases q; exact .nil
  | _, e :: es, _, _, h, q, g => by
    cases h with
    | cons r t =>
      rw [DV.fzs] at q
      cases z1 : DV.fz e with
      | none => rw [z1] at q; cases q
      | some d =>
        cases z2 : DV.fzs es with
        | none => rw [z1, z2] at q; cases q
        | some ds =>
          rw [z1, z2] at q; cases q
          exact .cons (Rep.rd hF r z1 fun a m => g a (List.mem_append_left _ m)) (Reps.rd hF t z2 fun a m => g a (List.mem_append_right _ m))
end
end
end DL
set_option Elab.async false
set_option linter.all false
set_option maxRecDepth 100000
set_option maxHeartbeats 1000000
namespace DL
open PySem PySem.Spec L2
open PyProof.Rows hiding St
/-! ### the state: names, what is given away, the heap -/
abbrev DE := List (Option DV)
section
variable (K : PySem.W.Frag) (C : Zn) (F : Addr → Prop) (H : Hp)
inductive Envs : St → DE → List Addr → Prop
  | nil : Envs [] [] []
  | off {x : Option V} {σ : St} {δ : DE} {as : List Addr} : Envs σ δ as → Envs (x :: σ) (none :: δ) as
  | on {v : V} {d : DV} {σ : St} {δ : DE} {as bs : List Addr} : Rep K C F H v d as → Envs σ δ bs → Envs (some v :: σ) (some d :: δ) (as ++ bs)
/-- the base is in order -/
structure Bs : Prop where
  j : C.J H
  f : ∀ a, F a → ¬ C.Z a ∧ ∃ o, H a = some o
/-- the names as the data says -/
def At0 (σ : St) (δ : DE) : Prop := ∃ as, Envs K C F H σ δ as ∧ as.Nodup ∧ (∀ a ∈ as, ¬ F a ∧ ¬ C.Z a) ∧ Bs C F H
end
/-- a quiet step: new things come, all else stays but the zone -/
structure Go (C : Zn) (F : Addr → Prop) (H : Hp) (F' : Addr → Prop) (H' : Hp) : Prop where
  same : ∀ a o, H a = some o → ¬ C.Z a → H' a = some o
  grow : ∀ a, F a → F' a
  new : ∀ a, F' a → F a ∨ H a = none
  ok : Bs C F' H'
section
variable {K : PySem.W.Frag} {C : Zn} {F F1 F2 F' : Addr → Prop} {H H0 H1 H2 H' : Hp} {σ : St} {δ : DE} {as : List Addr}
theorem Bs.nz (b : Bs C F H) {a : Addr} (h : ¬ Mut (H a)) : ¬ C.Z a := fun z => h (C.jmut H b.j a z)
theorem Bs.nzn (b : Bs C F H) {a : Addr} (h : H a = none) : ¬ C.Z a := b.nz (by rw [h]; exact id)
theorem Go.refl (b : Bs C F H) : Go C F H F H := ⟨fun _ _ e _ => e, fun _ h => h, fun _ h => .inl h, b⟩
theorem Go.none (b : Bs C F H) (g : Go C F H F' H') {a : Addr} (h : H' a = none) : H a = none := by
  cases e : H a with
  | none => rfl
  | some o =>
    have := g.same a o e (g.ok.nzn h)
    rw [h] at this; cases this
theorem Go.trans (b : Bs C F H) (g : Go C F H F1 H1) (g' : Go C F1 H1 F2 H2) : Go C F H F2 H2 :=
  ⟨fun a o e z => g'.same a o (g.same a o e z) z, fun a h => g'.grow a (g.grow a h), fun a h => by
    rcases g'.new a h with h | h
    · exact g.new a h
    · exact .inr (g.none b h), g'.ok⟩
theorem Go.keep (b : Bs C F H) (g : Go C F H F' H') : Keep F H F' H' :=
  ⟨fun a vs e => g.same a _ e (b.nz (by rw [e]; exact id)), fun a o u e => g.same a _ e (b.nz (by rw [e]; exact id)), fun a vs e h => ⟨g.same a _ e (b.f a h).1, g.grow a h⟩⟩
/-- what is read, outside the zone -/
abbrev NZ (C : Zn) : Addr → Prop := fun a => ¬ C.Z a
theorem Go.keepZ (b : Bs C F H) (g : Go C F H F' H') : Keep (NZ C) H (NZ C) H' :=
  ⟨fun a vs e => g.same a _ e (b.nz (by rw [e]; exact id)), fun a o u e => g.same a _ e (b.nz (by rw [e]; exact id)), fun a vs e h => ⟨g.same a _ e h, h⟩⟩
theorem Bs.keepZ (b : Bs C F H) : Keep F H (NZ C) H := .weak fun a h => (b.f a h).1
theorem Keep.trans {G G1 G2 : Addr → Prop} (k : Keep G H G1 H1) (k' : Keep G1 H1 G2 H2) : Keep G H G2 H2 :=
  ⟨fun a vs e => k'.tup a vs (k.tup a vs e), fun a o u e => k'.frz a o u (k.frz a o u e), fun a vs e h => by
    obtain ⟨e1, h1⟩ := k.lst a vs e h
    exact k'.lst a vs e1 h1⟩
theorem Keep.refl {G : Addr → Prop} : Keep G H G H := .weak fun _ h => h
/-- a new object -/
theorem Go.laid (b : Bs C F H) {p : Addr} {o : HO} (n : H p = Option.none) : Go C F H F (upd H p o) := by
  have nz := b.nzn n
  have ne : ∀ a, C.Z a → a ≠ p := fun a z e => nz (e ▸ z)
  refine ⟨fun a u e _ => ?_, fun _ h => h, fun _ h => .inl h, C.jloc H _ b.j fun a z => upd_ne (ne a z), fun a h => ⟨(b.f a h).1, ?_⟩⟩
  · have : a ≠ p := fun q => by rw [q, n] at e; cases e
    rw [upd_ne this]; exact e
  · obtain ⟨u, e⟩ := (b.f a h).2
    have : a ≠ p := fun q => by rw [q, n] at e; cases e
    exact ⟨u, by rw [upd_ne this]; exact e⟩
theorem Envs.mono (k : Keep F H F' H') : ∀ {σ : St} {δ : DE} {as : List Addr}, Envs K C F H σ δ as → (∀ a ∈ as, H' a = H a) → Envs K C F' H' σ δ as
  | _, _, _, .nil, _ => .nil
  | _, _, _, .off t, s => .off (Envs.mono k t s)
  | _, _, _, .on r t, s => .on (r.mono k fun a m => s a (List.mem_append_left _ m)) (Envs.mono k t fun a m => s a (List.mem_append_right _ m))
theorem Envs.there : ∀ {σ : St} {δ : DE} {as : List Addr}, Envs K C F H σ δ as → ∀ a ∈ as, ∃ o, H a = some o ∧ Mut (some o)
  | _, _, _, .nil, _, m => by cases m
  | _, _, _, .off t, a, m => Envs.there t a m
  | _, _, _, .on r t, a, m => by
    rcases List.mem_append.mp m with m | m
    · exact r.there a m
    · exact Envs.there t a m
theorem Envs.length : ∀ {σ : St} {δ : DE} {as : List Addr}, Envs K C F H σ δ as → σ.length = δ.length
  | _, _, _, .nil => rfl
  | _, _, _, .off t => congrArg (· + 1) (Envs.length t)
  | _, _, _, .on _ t => congrArg (· + 1) (Envs.length t)
theorem Go.own (b : Bs C F H) (g : Go C F H F' H') {as : List Addr} (t : ∀ a ∈ as, ∃ o, H a = some o ∧ Mut (some o)) (o : ∀ a ∈ as, ¬ F a ∧ ¬ C.Z a) : (∀ a ∈ as, H' a = H a) ∧ ∀ a ∈ as, ¬ F' a ∧ ¬ C.Z a := by
  refine ⟨fun a m => ?_, fun a m => ⟨fun h => ?_, (o a m).2⟩⟩
  · obtain ⟨u, e, _⟩ := t a m
    rw [e]; exact g.same a u e (o a m).2
  · rcases g.new a h with h | h
    · exact (o a m).1 h
    · obtain ⟨u, e, _⟩ := t a m
      rw [h] at e; cases e
theorem At0.go (x : At0 K C F H σ δ) (g : Go C F H F' H') : At0 K C F' H' σ δ := by
  obtain ⟨as, e, nd, o, b⟩ := x
  obtain ⟨s, o'⟩ := g.own b e.there o
  exact ⟨as, e.mono (g.keep b) s, nd, o', g.ok⟩
theorem At0.bs (x : At0 K C F H σ δ) : Bs C F H := by
  obtain ⟨_, _, _, _, b⟩ := x
  exact b
theorem Envs.get : ∀ {σ : St} {δ : DE} {as : List Addr} {i : Nat} {d : DV}, Envs K C F H σ δ as → δ[i]? = some (some d) → ∃ v bs, σ[i]? = some (some v) ∧ Rep K C F H v d bs ∧ (∀ a ∈ bs, a ∈ as) ∧ bs.Sublist as
  | _, _, _, _, _, .nil, e => by cases e
  | _, _, _, 0, _, .off t, e => by cases e
  | _, _, _, i + 1, d, .off t, e => by
    obtain ⟨v, bs, h1, h2, h3, h4⟩ := Envs.get (i := i) (d := d) t (by simpa using e)
    exact ⟨v, bs, by simpa using h1, h2, h3, h4⟩
  | _, _, _, 0, _, .on r t, e => by cases e; exact ⟨_, _, rfl, r, fun a m => List.mem_append_left _ m, List.sublist_append_left _ _⟩
  | _, _, _, i + 1, d, .on r t, e => by
    obtain ⟨v, bs, h1, h2, h3, h4⟩ := Envs.get (i := i) (d := d) t (by simpa using e)
    exact ⟨v, bs, by simpa using h1, h2, fun a m => List.mem_append_right _ (h3 a m), h4.trans (List.sublist_append_right _ _)⟩
end
/-! ### results of expressions -/
inductive R where
  /-- a value: shared data, or a new thing of one's own -/
  | val (d : DV)
  /-- data that stands in a thing of one's own: to be read -/
  | br (d : D)
def els (d : D) : Bool := match d with
  | .list ds => noLsts ds
  | .tuple ds => noLsts ds
  | d => noLst d
namespace R
/-- as data, to be read -/
def rd : R → Option D
  | .val d => d.fz
  | .br d => some d
/-- as data, given away -/
def fd : R → Option D
  | .val d => d.fz
  | .br d => if noLst d then some d else none
/-- as what a name may hold -/
def fx : R → Option DV
  | .val d => some d
  | .br d => if noLst d then some (.sh d) else none
/-- as data whose items are given away -/
def sup : R → Option D
  | .val d => d.fz
  | .br d => if els d then some d else none
abbrev sh (d : D) : R := .val (.sh d)
@[simp] theorem rd_sh (d : D) : (R.val (.sh d)).rd = some d := by rw [rd, DV.fz]
@[simp] theorem fd_sh (d : D) : (R.val (.sh d)).fd = some d := by rw [fd, DV.fz]
@[simp] theorem sup_sh (d : D) : (R.val (.sh d)).sup = some d := by rw [sup, DV.fz]
@[simp] theorem fx_val (d : DV) : (R.val d).fx = some d := rfl
@[simp] theorem rd_br (d : D) : (R.br d).rd = some d := rfl
end R
section
variable (K : PySem.W.Frag) (C : Zn) (F : Addr → Prop) (H0 H : Hp) (v : V)
/-- a result, as seen from the state ahead of the expression -/
def RR : R → Prop
  | .val d => ∃ as, Rep K C F H v d as ∧ as.Nodup ∧ ∀ a ∈ as, ¬ F a ∧ H0 a = none
  | .br d => Dq K (NZ C) H v d
/-- the whole may be one's own, what stands in it is given away -/
def Sup (d : D) : Prop := match d with
  | .list ds => ∃ a vs, v = .ref a ∧ LstAt (NZ C) H a vs ∧ DqAll K F H vs ds
  | .tuple ds => ∃ a vs, v = .ref a ∧ SqT K H a vs ∧ DqAll K F H vs ds
  | d => Dq K F H v d
end
section
variable {K : PySem.W.Frag} {C : Zn} {F F1 F2 F' : Addr → Prop} {H H0 H1 H2 H' : Hp} {σ : St} {δ : DE} {v : V} {r : R} {d : D}
theorem RR.go (b : Bs C F H) (nz : ∀ a, H0 a = none → ¬ C.Z a) (g : Go C F H F' H') (h : RR K C F H0 H v r) : RR K C F' H0 H' v r := by
  cases r with
  | br d => exact Dq.mono (g.keepZ b) _ _ h
  | val d =>
    obtain ⟨as, h1, h2, h3⟩ := h
    have o : ∀ a ∈ as, ¬ F a ∧ ¬ C.Z a := fun a m => ⟨(h3 a m).1, nz a (h3 a m).2⟩
    obtain ⟨s, o'⟩ := g.own b h1.there o
    exact ⟨as, h1.mono (g.keep b) s, h2, fun a m => ⟨(o' a m).1, (h3 a m).2⟩⟩
theorem RR.sh (h : Dq K F H v d) : RR K C F H0 H v (.val (.sh d)) := ⟨[], .sh h, List.nodup_nil, fun _ m => by cases m⟩
theorem RR.rd (b : Bs C F H) (nz : ∀ a, H0 a = none → ¬ C.Z a) (h : RR K C F H0 H v r) (e : r.rd = some d) : Dq K (NZ C) H v d := by
  cases r with
  | br d' =>
    have e' : some d' = some d := e
    obtain rfl := Option.some.inj e'
    exact h
  | val d' =>
    obtain ⟨as, h1, h2, h3⟩ := h
    exact h1.rd (fun a m => (b.f a m).1) e fun a m => nz a (h3 a m).2
/-- giving away what is new -/
theorem RR.fd (b0 : Bs C F1 H0) (g : Go C F1 H0 F H) (h : RR K C F H0 H v r) (e : r.fd = some d) : ∃ F', Go C F1 H0 F' H ∧ (∀ a, F a → F' a) ∧ Dq K F' H v d := by
  cases r with
  | br d' =>
    have e' : (if noLst d' then some d' else none) = some d := e
    split at e'
    · rename_i n
      obtain rfl := Option.some.inj e'
      exact ⟨F, g, fun _ m => m, Dq.free _ _ n h⟩
    · cases e'
  | val d' =>
    obtain ⟨as, h1, h2, h3⟩ := h
    refine ⟨fun a => F a ∨ a ∈ as, ⟨g.same, fun a m => .inl (g.grow a m), fun a m => ?_, g.ok.j, fun a m => ?_⟩, fun _ m => .inl m, h1.rd (fun _ m => .inl m) e fun a m => .inr m⟩
    · rcases m with m | m
      · exact g.new a m
      · exact .inr (h3 a m).2
    · rcases m with m | m
      · exact g.ok.f a m
      · obtain ⟨o, e, _⟩ := h1.there a m
        exact ⟨b0.nzn (h3 a m).2, o, e⟩
theorem Sup.of (b : Bs C F H) (h : Dq K F H v d) : Sup K C F H v d := by
  cases h with
  | lst h1 h2 => exact ⟨_, _, rfl, b.keepZ.lstAt h1, h2⟩
  | tup h1 h2 => exact ⟨_, _, rfl, h1, h2⟩
  | non => exact .non
  | bl => exact .bl _
  | int => exact .int _
  | str => exact .str _
theorem RR.sup (b0 : Bs C F1 H0) (g : Go C F1 H0 F H) (h : RR K C F H0 H v r) (e : r.sup = some d) : ∃ F', Go C F1 H0 F' H ∧ (∀ a, F a → F' a) ∧ Sup K C F' H v d := by
  cases r with
  | val d' =>
    obtain ⟨F', g', k, h'⟩ := RR.fd (r := .val d') b0 g h (show (R.val d').fd = some _ from e)
    exact ⟨F', g', k, Sup.of g'.ok h'⟩
  | br d' =>
    refine ⟨F, g, fun _ m => m, ?_⟩
    have e' : (if els d' then some d' else none) = some d := e
    split at e'
    · rename_i n
      obtain rfl := Option.some.inj e'
      have h : Dq K (NZ C) H v d' := h
      cases h with
      | lst h1 h2 => exact ⟨_, _, rfl, h1, DqAll.free _ _ n h2⟩
      | tup h1 h2 => exact ⟨_, _, rfl, h1, DqAll.free _ _ n h2⟩
      | non => exact .non
      | bl => exact .bl _
      | int => exact .int _
      | str => exact .str _
    · cases e'
theorem RR.fx (b : Bs C F H) (h : RR K C F H0 H v r) {dv : DV} (e : r.fx = some dv) : RR K C F H0 H v (.val dv) := by
  cases r with
  | val d' =>
    have e' : some d' = some dv := e
    obtain rfl := Option.some.inj e'
    exact h
  | br d' =>
    have e' : (if noLst d' then some (DV.sh d') else none) = some dv := e
    split at e'
    · rename_i n
      obtain rfl := Option.some.inj e'
      exact RR.sh (Dq.free _ _ n h)
    · cases e'
end
end DL
set_option Elab.async false
set_option linter.all false
set_option maxRecDepth 100000
set_option maxHeartbeats 1000000
namespace DL
open PySem PySem.Spec L2
open PyProof.Rows hiding St
/-! ### readings by data -/
/-- an expression's reading; a test's; an iterable's; an argument list's -/
abbrev DT := DE → (R → Prop) → Prop
abbrev DB := DE → (Bool → Prop) → Prop
abbrev DI := DE → (List D → Prop) → Prop
def Mono {ρ : Type} (t : DE → (ρ → Prop) → Prop) : Prop := ∀ δ (Q Q' : ρ → Prop), (∀ r, Q r → Q' r) → t δ Q → t δ Q'
section
variable (C : Zn) (K : PySem.W.Frag)
def lift (t : DT) : TE := fun σ H Q => ∃ δ F, At0 K C F H σ δ ∧ t δ fun r => ∀ F' H' v, Go C F H F' H' → RR K C F' H H' v r → Q v H'
def liftB (t : DB) : TT := fun σ H Q => ∃ δ F, At0 K C F H σ δ ∧ t δ fun k => ∀ F' H', Go C F H F' H' → Q k H'
end
structure PD (C : Zn) (X : Cx) (e : Expr) (t : DT) : Prop where
  mono : Mono t
  run : PE X e (lift C X.K t)
structure PB (C : Zn) (X : Cx) (e : Expr) (t : DB) : Prop where
  mono : Mono t
  run : PT X e (liftB C X.K t)
structure PBW (C : Zn) (X : Cx) (e : Expr) (t : DB) : Prop where
  mono : Mono t
  run : PW X e (liftB C X.K t)
section
variable {C : Zn} {X : Cx} {e a b c : Expr} {pos : Pos}
theorem _root_.L2.PE.imp {t t' : TE} (h : PE X e t) (k : ∀ σ H Q, t' σ H Q → t σ H Q) : PE X e t' := ⟨fun pins s σ H Q I q => h.run pins s σ H Q I (k _ _ _ q)⟩
theorem _root_.L2.PT.imp {t t' : TT} (h : PT X e t) (k : ∀ σ H Q, t' σ H Q → t σ H Q) : PT X e t' := ⟨fun pins s σ H Q I q => h.run pins s σ H Q I (k _ _ _ q)⟩
theorem _root_.L2.PW.imp {t t' : TT} (h : PW X e t) (k : ∀ σ H Q, t' σ H Q → t σ H Q) : PW X e t' := ⟨fun wh pins s σ H Q I q => h.run wh pins s σ H Q I (k _ _ _ q)⟩
theorem _root_.L2.PA.imp {es : List Expr} {t t' : TA} (h : PA X es t) (k : ∀ σ H Q, t' σ H Q → t σ H Q) : PA X es t' := ⟨fun pos pins s σ H Q I q => h.run pos pins s σ H Q I (k _ _ _ q)⟩
theorem _root_.L2.PS.imp {st : Stmt} {t t' : TS} (h : PS X st t) (k : ∀ D σ H, t' D σ H → t D σ H) : PS X st t' := ⟨fun pins s σ H D I q => h.run pins s σ H D I (k _ _ _ q)⟩
theorem _root_.L2.PSs.imp {st : List Stmt} {t t' : TS} (h : PSs X st t) (k : ∀ D σ H, t' D σ H → t D σ H) : PSs X st t' := ⟨fun pins s σ H D I q => h.run pins s σ H D I (k _ _ _ q)⟩
/-! ### names, constants -/
/-- the name in slot i -/
def dVar (i : Nat) : DT := fun δ Q => match δ[i]? with
  | some (some (.sh d)) => Q (.val (.sh d))
  | some (some (.tok n)) => Q (.val (.tok n))
  | some (some (.kt ds)) => Q (.val (.sh (.tuple ds)))
  | some (some (.own es)) => (match DV.fzs es with | some ds => Q (.br (.list ds)) | none => False)
  | _ => False
theorem Envs.rd {K : PySem.W.Frag} {F : Addr → Prop} {H : Hp} {σ : St} {δ : DE} {i : Nat} {dv : DV} {d : D} (x : At0 K C F H σ δ) (e : δ[i]? = some (some dv)) (q : dv.fz = some d) : ∃ v, σ[i]? = some (some v) ∧ Dq K (NZ C) H v d := by
  obtain ⟨as, E, nd, o, b⟩ := x
  obtain ⟨v, bs, e1, r, m, _⟩ := E.get e
  exact ⟨v, e1, r.rd (fun a h => (b.f a h).1) q fun a h => (o a (m a h)).2⟩
theorem mono_var (i : Nat) : Mono (dVar i) := by
  intro δ Q Q' h q
  unfold dVar at q ⊢
  split at q
  · exact h _ q
  · exact h _ q
  · exact h _ q
  · split at q
    · exact h _ q
    · exact q
  · exact q.elim
theorem d_var (i : Nat) {x : Str} (hN : X.N[i]? = some x := by rfl) (hv : Vis X.env.scope x := by first | exact Or.inl rfl | exact Or.inr (Or.inl rfl) | exact Or.inr (Or.inr rfl)) (hd : (x == ("__debug__" : Str)) = false := by decide) (hcd : (x == ("__classdict__" : Str)) = false := by decide) : PD C X (.Name x pos) (dVar i) := by
  refine ⟨mono_var i, (pe_var hN hv hd hcd).imp fun σ H Q h => ?_⟩
  obtain ⟨δ, F, x, h⟩ := h
  unfold dVar at h
  have E := x
  obtain ⟨as, E, nd, o, b⟩ := E
  split at h
  · rename_i d e
    obtain ⟨v, bs, e1, r, _⟩ := E.get e
    cases r with
    | sh r => exact ⟨v, e1, h F H v (.refl b) (.sh r)⟩
  · rename_i n e
    obtain ⟨v, bs, e1, r, _⟩ := E.get e
    cases r with
    | tok n => exact ⟨_, e1, h F H _ (.refl b) ⟨[], .tok n, List.nodup_nil, fun _ m => by cases m⟩⟩
  · rename_i ds e
    obtain ⟨v, bs, e1, r, _⟩ := E.get e
    cases r with
    | kt q1 q2 r => exact ⟨_, e1, h F H _ (.refl b) (.sh (.tup (.inl (.inr ⟨_, q1⟩)) r))⟩
  · rename_i es e
    split at h
    · rename_i ds q
      obtain ⟨v, e1, r⟩ := Envs.rd x e (d := .list ds) (by rw [DV.fz, q]; rfl)
      exact ⟨v, e1, h F H v (.refl b) r⟩
    · exact h.elim
  · exact h.elim
/-- a constant -/
def dC (d : D) : DT := fun _ Q => Q (.val (.sh d))
theorem mono_C (d : D) : Mono (dC d) := fun _ _ _ h q => h _ q
theorem d_const {v : V} {d : D} (h : PE X e (tC v)) (r : ∀ F H, Dq X.K F H v d) : PD C X e (dC d) :=
  ⟨mono_C d, h.imp fun σ H Q h => by
    obtain ⟨δ, F, x, h⟩ := h
    exact h F H v (.refl x.bs) (.sh (r F H))⟩
theorem d_int {i : Int} {j} : PD C X (.Constant (.int i) j pos) (dC (.int i)) := d_const pe_int fun _ _ => .int _
theorem d_bl {i : Bool} {j} : PD C X (.Constant (.bool i) j pos) (dC (.bool i)) := d_const pe_bl fun _ _ => .bl _
/-- a module's constant -/
theorem d_glob {x : Str} {v : V} {u : Value} {d : D} (hg : Gl X x) (hm : X.mg x = some u) (r : RelV v u) (q : ∀ F H, Dq X.K F H v d) (hd : (x == ("__debug__" : Str)) = false := by decide) : PD C X (.Name x pos) (dC d) :=
  d_const (pe_glob hg hm r hd) q
/-! ### two-place operations on what is read -/
/-- x and y as data, to be read -/
def on2 (f : D → D → (R → Prop) → Prop) (x y : R) (Q : R → Prop) : Prop := match x.rd, y.rd with
  | some d, some e => f d e Q
  | _, _ => False
def dOp (f : D → D → (R → Prop) → Prop) (ta tb : DT) : DT := fun δ Q => ta δ fun x => tb δ fun y => on2 f x y Q
/-- the rule by values serves the operation on data -/
structure Lk2 (C : Zn) (K : PySem.W.Frag) (r : R2) (f : D → D → (R → Prop) → Prop) : Prop where
  mono : ∀ d e Q Q', (∀ x, Q x → Q' x) → f d e Q → f d e Q'
  to : ∀ F H v w d e (Q : R → Prop) (Q' : VK), Bs C F H → Dq K (NZ C) H v d → Dq K (NZ C) H w e → f d e Q →
    (∀ x u F' H', Go C F H F' H' → RR K C F' H H' u x → Q x → Q' u H') → r v w H Q'
theorem mono_op {f : D → D → (R → Prop) → Prop} {ta tb : DT} (hf : ∀ d e Q Q', (∀ x, Q x → Q' x) → f d e Q → f d e Q') (ha : Mono ta) (hb : Mono tb) : Mono (dOp f ta tb) := fun δ Q Q' h q =>
  ha δ _ _ (fun x q => hb δ _ _ (fun y q => by
    unfold on2 at q ⊢
    split at q
    · exact hf _ _ _ _ h q
    · exact q) q) q
theorem two {r : R2} {f : D → D → (R → Prop) → Prop} {ta tb : DT} (lk : Lk2 C X.K r f) (ma : Mono ta) (mb : Mono tb) {σ : St} {H : Hp} {Q : VK} (h : lift C X.K (dOp f ta tb) σ H Q) : tOp r (lift C X.K ta) (lift C X.K tb) σ H Q := by
  obtain ⟨δ, F, x, h⟩ := h
  have nz : ∀ a, H a = none → ¬ C.Z a := fun a n => x.bs.nzn n
  refine ⟨δ, F, x, ma δ _ _ (fun r1 q F1 H1 v g1 rr1 => ⟨δ, F1, x.go g1, mb δ _ _ (fun r2 q F2 H2 w g2 rr2 => ?_) q⟩) h⟩
  have nz1 : ∀ a, H1 a = none → ¬ C.Z a := fun a n => g1.ok.nzn n
  unfold on2 at q
  split at q
  · rename_i d e e1 e2
    have d1 := RR.rd g2.ok nz (rr1.go g1.ok nz g2) e1
    have d2 := RR.rd g2.ok nz1 rr2 e2
    exact lk.to F2 H2 v w d e _ _ g2.ok d1 d2 q fun x' u F' H' g' rr' q' => q' F' H' u (g1.trans x.bs (g2.trans g1.ok g')) (by
      cases x' with
      | br d => exact rr'
      | val d =>
        obtain ⟨as, z1, z2, z3⟩ := rr'
        exact ⟨as, z1, z2, fun a m => ⟨(z3 a m).1, g1.none x.bs (g2.none g1.ok (z3 a m).2)⟩⟩)
  · exact q.elim
theorem d_op {op : Operator} {r : R2} {f : D → D → (R → Prop) → Prop} {ta tb : DT} (ho : OpR X (binaryOp op) r) (lk : Lk2 C X.K r f) (ha : PD C X a ta) (hb : PD C X b tb) : PD C X (.BinOp a op b pos) (dOp f ta tb) :=
  ⟨mono_op lk.mono ha.mono hb.mono, (pe_op ho ha.run hb.run).imp fun _ _ _ h => two lk ha.mono hb.mono h⟩
theorem d_cmp {op : CmpOp} {r : R2} {f : D → D → (R → Prop) → Prop} {ta tb : DT} (ho : OpR X (compareOp op) r) (lk : Lk2 C X.K r f) (ha : PD C X a ta) (hb : PD C X b tb) (hm : behindInMarks op b = false) : PD C X (.Compare a [op] [b] pos) (dOp f ta tb) :=
  ⟨mono_op lk.mono ha.mono hb.mono, (pe_cmpR ho ha.run hb.run hm).imp fun _ _ _ h => two lk ha.mono hb.mono h⟩
/-- an expression as a test -/
def onB (x : R) (Q : Bool → Prop) : Prop := match x with
  | .val (.sh (.bool k)) => Q k
  | _ => False
def dTest (t : DT) : DB := fun δ Q => t δ fun x => onB x Q
theorem mono_test {t : DT} (h : Mono t) : Mono (dTest t) := fun δ Q Q' k q => h δ _ _ (fun x q => by
  unfold onB at q ⊢
  split at q
  · exact k _ q
  · exact q) q
theorem tst {t : DT} (m : Mono t) {σ : St} {H : Hp} {Q : Bool → Hp → Prop} (h : liftB C X.K (dTest t) σ H Q) : tTest (lift C X.K t) σ H Q := by
  obtain ⟨δ, F, x, h⟩ := h
  refine ⟨δ, F, x, m δ _ _ (fun r q F' H' v g rr => ?_) h⟩
  unfold onB at q
  split at q
  · rename_i k
    obtain ⟨as, z, _⟩ := rr
    cases z with
    | sh z =>
      cases z
      exact ⟨k, rfl, q F' H' g⟩
  · exact q.elim
theorem b_cmp {op : CmpOp} {r : R2} {f : D → D → (R → Prop) → Prop} {ta tb : DT} (ho : OpR X (compareOp op) r) (lk : Lk2 C X.K r f) (ha : PD C X a ta) (hb : PD C X b tb) (hm : behindInMarks op b = false) : PB C X (.Compare a [op] [b] pos) (dTest (dOp f ta tb)) :=
  ⟨mono_test (mono_op lk.mono ha.mono hb.mono), (pt_cmpR ho ha.run hb.run hm).imp fun _ _ _ h => by
    have q := tst (C := C) (X := X) (mono_op lk.mono ha.mono hb.mono) h
    obtain ⟨δ, F, x, h⟩ := h
    exact two (C := C) lk ha.mono hb.mono q⟩
/-- an expression that is True or False, as a test -/
theorem b_val {t : DT} (h : PD C X e t) (he : ∀ whole, isTrue e X.env whole = (do let v ← whole; standAt e.pos; holding [v] (truthy v)) := by intro _; rfl) : PB C X e (dTest t) :=
  ⟨mono_test h.mono, (pt_val h.run he).imp fun _ _ _ q => tst h.mono q⟩
/-! ### and, or, not; if -/
def dAnd (t u : DB) : DB := fun δ Q => t δ fun k => if k = true then u δ Q else Q false
def dOr (t u : DB) : DB := fun δ Q => t δ fun k => if k = true then Q true else u δ Q
def dNot (t : DB) : DB := fun δ Q => t δ fun k => Q (!k)
variable {tA tB' : DB} {rest : List Expr}
theorem bw_and1 (ha : PB C X a tA) : PBW C X (.BoolOp .And [a] pos) tA := ⟨ha.mono, pw_and1 ha.run⟩
theorem bw_or1 (ha : PB C X a tA) : PBW C X (.BoolOp .Or [a] pos) tA := ⟨ha.mono, pw_or1 ha.run⟩
theorem mono_and {t u : DB} (h : Mono t) (k : Mono u) : Mono (dAnd t u) := fun δ Q Q' m q => h δ _ _ (fun b q => by
  cases b with
  | true => exact k δ _ _ m q
  | false => exact m _ q) q
theorem mono_or {t u : DB} (h : Mono t) (k : Mono u) : Mono (dOr t u) := fun δ Q Q' m q => h δ _ _ (fun b q => by
  cases b with
  | false => exact k δ _ _ m q
  | true => exact m _ q) q
theorem bw_and (ha : PB C X a tA) (hb : PBW C X (.BoolOp .And (b :: rest) pos) tB') : PBW C X (.BoolOp .And (a :: b :: rest) pos) (dAnd tA tB') :=
  ⟨mono_and ha.mono hb.mono, (pw_and ha.run hb.run).imp fun σ H Q h => by
    obtain ⟨δ, F, x, h⟩ := h
    refine ⟨δ, F, x, ha.mono δ _ _ (fun k q F1 H1 g => ?_) h⟩
    cases k with
    | true => exact ⟨δ, F1, x.go g, hb.mono δ _ _ (fun k q F' H' g' => q F' H' (g.trans x.bs g')) q⟩
    | false => exact q F1 H1 g⟩
theorem bw_or (ha : PB C X a tA) (hb : PBW C X (.BoolOp .Or (b :: rest) pos) tB') : PBW C X (.BoolOp .Or (a :: b :: rest) pos) (dOr tA tB') :=
  ⟨mono_or ha.mono hb.mono, (pw_or ha.run hb.run).imp fun σ H Q h => by
    obtain ⟨δ, F, x, h⟩ := h
    refine ⟨δ, F, x, ha.mono δ _ _ (fun k q F1 H1 g => ?_) h⟩
    cases k with
    | false => exact ⟨δ, F1, x.go g, hb.mono δ _ _ (fun k q F' H' g' => q F' H' (g.trans x.bs g')) q⟩
    | true => exact q F1 H1 g⟩
theorem PBW.toB {t : DB} (h : PBW C X e t) : PB C X e t := ⟨h.mono, h.run.pt⟩
theorem b_not (ha : PB C X a tA) : PB C X (.UnaryOp .Not a pos) (dNot tA) :=
  ⟨fun δ Q Q' m q => ha.mono δ _ _ (fun k q => m _ q) q, (pt_not ha.run).imp fun σ H Q h => by
    obtain ⟨δ, F, x, h⟩ := h
    exact ⟨δ, F, x, h⟩⟩
def dIf (t : DB) (ta tb : DT) : DT := fun δ Q => t δ fun k => if k = true then ta δ Q else tb δ Q
theorem lift_go {K : PySem.W.Frag} {t : DT} (m : Mono t) {σ : St} {δ : DE} {F F1 : Addr → Prop} {H H1 : Hp} {Q : VK} (x : At0 K C F H σ δ) (g : Go C F H F1 H1) (h : t δ fun r => ∀ F' H' v, Go C F H F' H' → RR K C F' H H' v r → Q v H') : lift C K t σ H1 Q := by
  refine ⟨δ, F1, x.go g, m δ _ _ (fun r q F' H' v g' rr => q F' H' v (g.trans x.bs g') ?_) h⟩
  cases r with
  | br d => exact rr
  | val d =>
    obtain ⟨as, z1, z2, z3⟩ := rr
    exact ⟨as, z1, z2, fun a m => ⟨(z3 a m).1, g.none x.bs (z3 a m).2⟩⟩
theorem d_ifExp {ta tb : DT} {c : Expr} (hc : PB C X c tA) (ha : PD C X a ta) (hb : PD C X b tb) : PD C X (.IfExp c a b pos) (dIf tA ta tb) :=
  ⟨fun δ Q Q' m q => hc.mono δ _ _ (fun k q => by
    cases k with
    | true => exact ha.mono δ _ _ m q
    | false => exact hb.mono δ _ _ m q) q, (pe_ifExp hc.run ha.run hb.run).imp fun σ H Q h => by
    obtain ⟨δ, F, x, h⟩ := h
    refine ⟨δ, F, x, hc.mono δ _ _ (fun k q F1 H1 g => ?_) h⟩
    cases k with
    | true => exact lift_go ha.mono x g q
    | false => exact lift_go hb.mono x g q⟩
/-- and, or, not as values: all but the last are True or False -/
def dAndV (ta tb : DT) : DT := fun δ Q => ta δ fun x => onB x fun k => if k = true then tb δ Q else Q (.val (.sh (.bool false)))
def dOrV (ta tb : DT) : DT := fun δ Q => ta δ fun x => onB x fun k => if k = true then Q (.val (.sh (.bool true))) else tb δ Q
def dNotV (ta : DT) : DT := fun δ Q => ta δ fun x => onB x fun k => Q (.val (.sh (.bool (!k))))
theorem onB_mono {x : R} {Q Q' : Bool → Prop} (h : ∀ k, Q k → Q' k) (q : onB x Q) : onB x Q' := by
  unfold onB at q ⊢
  split at q
  · exact h _ q
  · exact q
theorem onB_to {K : PySem.W.Frag} {F : Addr → Prop} {H0 H : Hp} {v : V} {x : R} {Q : Bool → Prop} (rr : RR K C F H0 H v x) (q : onB x Q) : ∃ k, v = .bl k ∧ Q k := by
  unfold onB at q
  split at q
  · rename_i k
    obtain ⟨as, z, _⟩ := rr
    cases z with
    | sh z =>
      cases z
      exact ⟨k, rfl, q⟩
  · exact q.elim
theorem d_one {op} {t : DT} (h : PD C X a t) : PD C X (.BoolOp op [a] pos) t := ⟨h.mono, pe_one h.run⟩
theorem d_and {ta tb : DT} (ha : PD C X a ta) (hb : PD C X (.BoolOp .And (b :: rest) pos) tb) : PD C X (.BoolOp .And (a :: b :: rest) pos) (dAndV ta tb) :=
  ⟨fun δ Q Q' m q => ha.mono δ _ _ (fun x q => onB_mono (fun k q => by
    cases k with
    | true => exact hb.mono δ _ _ m q
    | false => exact m _ q) q) q, (pe_and ha.run hb.run).imp fun σ H Q h => by
    obtain ⟨δ, F, x, h⟩ := h
    refine ⟨δ, F, x, ha.mono δ _ _ (fun r q F1 H1 v g rr => ?_) h⟩
    obtain ⟨k, rfl, q⟩ := onB_to rr q
    refine ⟨k, rfl, ?_⟩
    cases k with
    | true => exact lift_go hb.mono x g q
    | false => exact q F1 H1 _ g (.sh (.bl _))⟩
theorem d_not {ta : DT} (ha : PD C X a ta) : PD C X (.UnaryOp .Not a pos) (dNotV ta) :=
  ⟨fun δ Q Q' m q => ha.mono δ _ _ (fun x q => onB_mono (fun k q => m _ q) q) q, (pe_not ha.run).imp fun σ H Q h => by
    obtain ⟨δ, F, x, h⟩ := h
    refine ⟨δ, F, x, ha.mono δ _ _ (fun r q F1 H1 v g rr => ?_) h⟩
    obtain ⟨k, rfl, q⟩ := onB_to rr q
    exact ⟨k, rfl, q F1 H1 _ g (.sh (.bl _))⟩⟩
end
end DL
set_option Elab.async false
set_option linter.all false
set_option maxRecDepth 100000
set_option maxHeartbeats 1000000
namespace DL
open PySem PySem.Spec L2
open PyProof.Rows hiding St
/-! ### several results -/
section
variable (K : PySem.W.Frag) (C : Zn) (F : Addr → Prop) (H : Hp)
inductive RRl : List V → List R → List Addr → Prop
  | nil : RRl [] [] []
  | val {v : V} {d : DV} {vs : List V} {rs : List R} {as bs : List Addr} : Rep K C F H v d as → RRl vs rs bs → RRl (v :: vs) (.val d :: rs) (as ++ bs)
  | br {v : V} {d : D} {vs : List V} {rs : List R} {bs : List Addr} : Dq K (NZ C) H v d → RRl vs rs bs → RRl (v :: vs) (.br d :: rs) bs
end
def RRs (K : PySem.W.Frag) (C : Zn) (F : Addr → Prop) (H0 H : Hp) (vs : List V) (rs : List R) : Prop := ∃ as, RRl K C F H vs rs as ∧ as.Nodup ∧ ∀ a ∈ as, ¬ F a ∧ H0 a = none
abbrev DL' := DE → (List R → Prop) → Prop
def liftL (C : Zn) (K : PySem.W.Frag) (t : DL') : TA := fun σ H Q => ∃ δ F, At0 K C F H σ δ ∧ t δ fun rs => ∀ F' H' vs, Go C F H F' H' → RRs K C F' H H' vs rs → Q vs H'
structure PDL (C : Zn) (X : Cx) (es : List Expr) (t : DL') : Prop where
  mono : Mono t
  len : ∀ δ Q, t δ Q → t δ fun rs => Q rs ∧ rs.length = es.length
  run : PA X es (liftL C X.K t)
section
variable {K : PySem.W.Frag} {C : Zn} {F F1 F' : Addr → Prop} {H H0 H1 H' : Hp} {vs : List V} {rs : List R} {as : List Addr}
theorem RRl.mono (k : Keep F H F' H') (kz : Keep (NZ C) H (NZ C) H') : ∀ {vs : List V} {rs : List R} {as : List Addr}, RRl K C F H vs rs as → (∀ a ∈ as, H' a = H a) → RRl K C F' H' vs rs as
  | _, _, _, .nil, _ => .nil
  | _, _, _, .val r t, s => .val (r.mono k fun a m => s a (List.mem_append_left _ m)) (RRl.mono k kz t fun a m => s a (List.mem_append_right _ m))
  | _, _, _, .br r t, s => .br (Dq.mono kz _ _ r) (RRl.mono k kz t s)
theorem RRl.there : ∀ {vs : List V} {rs : List R} {as : List Addr}, RRl K C F H vs rs as → ∀ a ∈ as, ∃ o, H a = some o ∧ Mut (some o)
  | _, _, _, .nil, _, m => by cases m
  | _, _, _, .val r t, a, m => by
    rcases List.mem_append.mp m with m | m
    · exact r.there a m
    · exact RRl.there t a m
  | _, _, _, .br _ t, a, m => RRl.there t a m
theorem RRs.nil : RRs K C F H0 H [] [] := ⟨[], .nil, List.nodup_nil, fun _ m => by cases m⟩
/-- one more, ahead: r was made first -/
theorem RRs.cons {v : V} {r : R} (b0 : Bs C F1 H0) (g : Go C F1 H0 F H) (g' : Go C F H F' H') (h : RR K C F H0 H v r) (t : RRs K C F' H H' vs rs) : RRs K C F' H0 H' (v :: vs) (r :: rs) := by
  have h' := RR.go g.ok (fun a n => b0.nzn n) g' h
  obtain ⟨bs, t1, t2, t3⟩ := t
  have t3' : ∀ a ∈ bs, ¬ F' a ∧ H0 a = none := fun a m => ⟨(t3 a m).1, g.none b0 (t3 a m).2⟩
  cases r with
  | br d => exact ⟨bs, .br h' t1, t2, t3'⟩
  | val d =>
    obtain ⟨as0, z1, z2, z3⟩ := h
    have o : ∀ a ∈ as0, ¬ F a ∧ ¬ C.Z a := fun a m => ⟨(z3 a m).1, b0.nzn (z3 a m).2⟩
    obtain ⟨s, o'⟩ := g'.own g.ok z1.there o
    refine ⟨as0 ++ bs, .val (z1.mono (g'.keep g.ok) s) t1, List.nodup_append.mpr ⟨z2, t2, fun a m b' m' e => ?_⟩, fun a m => ?_⟩
    · obtain ⟨u, q, _⟩ := z1.there a m
      have := (t3 b' m').2
      rw [← e, q] at this; cases this
    · rcases List.mem_append.mp m with m | m
      · exact ⟨(o' a m).1, (z3 a m).2⟩
      · exact t3' a m
theorem RRs.at : ∀ {vs : List V} {rs : List R} {i : Nat} {r : R}, RRs K C F H0 H vs rs → rs[i]? = some r → ∃ v, vs[i]? = some v ∧ RR K C F H0 H v r := by
  intro vs rs
  induction rs generalizing vs with
  | nil => intro i r _ e; cases e
  | cons r rs ih =>
    intro i r' ⟨as, h, nd, f⟩ e
    cases i with
    | zero =>
      cases e
      cases h with
      | val z t => exact ⟨_, rfl, _, z, (List.nodup_append.mp nd).1, fun a m => f a (List.mem_append_left _ m)⟩
      | br z t => exact ⟨_, rfl, z⟩
    | succ i =>
      cases h with
      | val z t =>
        obtain ⟨v, q1, q2⟩ := ih (i := i) (r := r') ⟨_, t, (List.nodup_append.mp nd).2.1, fun a m => f a (List.mem_append_right _ m)⟩ (by simpa using e)
        exact ⟨v, by simpa using q1, q2⟩
      | br z t =>
        obtain ⟨v, q1, q2⟩ := ih (i := i) (r := r') ⟨_, t, nd, f⟩ (by simpa using e)
        exact ⟨v, by simpa using q1, q2⟩
theorem RRs.length : ∀ {vs : List V} {rs : List R}, RRs K C F H0 H vs rs → vs.length = rs.length := by
  intro vs rs
  induction rs generalizing vs with
  | nil =>
    intro ⟨as, h, _⟩
    cases h; rfl
  | cons r rs ih =>
    intro ⟨as, h, nd, f⟩
    cases h with
    | val z t => exact congrArg (· + 1) (ih ⟨_, t, (List.nodup_append.mp nd).2.1, fun a m => f a (List.mem_append_right _ m)⟩)
    | br z t => exact congrArg (· + 1) (ih ⟨_, t, nd, f⟩)
end
/-! ### several results, given away -/
def fdL : List R → Option (List D)
  | [] => some []
  | r :: rs => match r.fd, fdL rs with
    | some d, some ds => some (d :: ds)
    | _, _ => none
def fxL : List R → Option (List DV)
  | [] => some []
  | r :: rs => match r.fx, fxL rs with
    | some d, some ds => some (d :: ds)
    | _, _ => none
/-- as an argument of a def: data that is given away, or a token -/
def R.ar : R → Option DV
  | .val (.tok n) => some (.tok n)
  | r => r.fd.map DV.sh
def arL : List R → Option (List DV)
  | [] => some []
  | r :: rs => match r.ar, arL rs with
    | some d, some ds => some (d :: ds)
    | _, _ => none
@[simp] theorem ar_sh (d : D) : (R.val (.sh d)).ar = some (.sh d) := by simp [R.ar]
@[simp] theorem ar_tok (n : Nat) : (R.val (.tok n)).ar = some (.tok n) := rfl
section
variable {K : PySem.W.Frag} {C : Zn} {F F1 F' : Addr → Prop} {H H0 H1 H' : Hp}
/-- all that is new among the results is given away -/
theorem RRs.away (b0 : Bs C F1 H0) (g : Go C F1 H0 F H) {vs : List V} {rs : List R} (h : RRs K C F H0 H vs rs) : ∃ F', Go C F1 H0 F' H ∧ (∀ a, F a → F' a) ∧ (∀ ds, fdL rs = some ds → DqAll K F' H vs ds) ∧ ∀ ds, arL rs = some ds → Reps K C F' H vs ds [] := by
  obtain ⟨as, h, nd, f⟩ := h
  refine ⟨fun a => F a ∨ a ∈ as, ⟨g.same, fun a m => .inl (g.grow a m), fun a m => ?_, g.ok.j, fun a m => ?_⟩, fun _ m => .inl m, ?_, ?_⟩
  · rcases m with m | m
    · exact g.new a m
    · exact .inr (f a m).2
  · rcases m with m | m
    · exact g.ok.f a m
    · obtain ⟨o, e, _⟩ := h.there a m
      exact ⟨b0.nzn (f a m).2, o, e⟩
  · have key : ∀ {vs : List V} {rs : List R} {bs : List Addr}, RRl K C F H vs rs bs → (∀ a ∈ bs, a ∈ as) → ∀ ds, fdL rs = some ds → DqAll K (fun a => F a ∨ a ∈ as) H vs ds := by
      intro vs rs
      induction rs generalizing vs with
      | nil => intro bs h _ ds e; cases h; cases e; exact .nil
      | cons r rs ih =>
        intro bs h s ds e
        unfold fdL at e
        split at e
        · rename_i d ds' e1 e2
          cases e
          cases h with
          | val z t =>
            exact .cons (z.rd (fun _ m => .inl m) e1 fun a m => .inr (s a (List.mem_append_left _ m))) (ih t (fun a m => s a (List.mem_append_right _ m)) _ e2)
          | @br _ d' _ _ _ z t =>
            have e' : (if noLst d' then some d' else none) = some d := e1
            split at e'
            · rename_i n
              obtain rfl := Option.some.inj e'
              exact .cons (Dq.free _ _ n z) (ih t s _ e2)
            · cases e'
        · cases e
    exact key h fun _ m => m
  · have key : ∀ {vs : List V} {rs : List R} {bs : List Addr}, RRl K C F H vs rs bs → (∀ a ∈ bs, a ∈ as) → ∀ ds, arL rs = some ds → Reps K C (fun a => F a ∨ a ∈ as) H vs ds [] := by
      intro vs rs
      induction rs generalizing vs with
      | nil => intro bs h _ ds e; cases h; cases e; exact .nil
      | cons r rs ih =>
        intro bs h s ds e
        unfold arL at e
        split at e
        · rename_i d ds' e1 e2
          cases e
          cases h with
          | @val _ dv _ _ _ _ z t =>
            have t' := ih t (fun a m => s a (List.mem_append_right _ m)) _ e2
            cases dv with
            | tok n =>
              have e1' : some (DV.tok n) = some d := e1
              obtain rfl := Option.some.inj e1'
              cases z with
              | tok => exact .cons (as := []) (.tok n) t'
            | _ =>
              unfold R.ar at e1
              obtain ⟨d0, q1, q2⟩ := Option.map_eq_some_iff.mp e1
              subst q2
              exact .cons (as := []) (.sh (z.rd (fun _ m => .inl m) q1 fun a m => .inr (s a (List.mem_append_left _ m)))) t'
          | @br _ d' _ _ _ z t =>
            obtain ⟨d0, q1, q2⟩ := Option.map_eq_some_iff.mp (show (R.fd _).map DV.sh = some d from e1)
            subst q2
            have e' : (if noLst d' then some d' else none) = some d0 := q1
            split at e'
            · rename_i n
              obtain rfl := Option.some.inj e'
              exact .cons (as := []) (.sh (Dq.free _ _ n z)) (ih t s _ e2)
            · cases e'
        · cases e
    exact key h fun _ m => m
/-- all results as what a list may hold -/
theorem RRs.hold {vs : List V} {rs : List R} {ds : List DV} (h : RRs K C F H0 H vs rs) (e : fxL rs = some ds) : ∃ as, Reps K C F H vs ds as ∧ as.Nodup ∧ ∀ a ∈ as, ¬ F a ∧ H0 a = none := by
  obtain ⟨as, h, nd, f⟩ := h
  have key : ∀ {vs : List V} {rs : List R} {bs : List Addr} {ds : List DV}, RRl K C F H vs rs bs → fxL rs = some ds → Reps K C F H vs ds bs := by
    intro vs rs
    induction rs generalizing vs with
    | nil => intro bs ds h e; cases h; cases e; exact .nil
    | cons r rs ih =>
      intro bs ds h e
      unfold fxL at e
      split at e
      · rename_i d ds' e1 e2
        cases e
        cases h with
        | val z t =>
          obtain rfl := Option.some.inj (show some _ = some d from e1)
          exact .cons z (ih t e2)
        | @br _ d' _ _ _ z t =>
          have e' : (if noLst d' then some (DV.sh d') else none) = some d := e1
          split at e'
          · rename_i n
            obtain rfl := Option.some.inj e'
            exact .cons (as := []) (.sh (Dq.free _ _ n z)) (ih t e2)
          · cases e'
      · cases e
  exact ⟨as, key h e, nd, f⟩
end
/-! ### argument lists, displays -/
def dNil : DL' := fun _ Q => Q []
def dCons (te : DT) (t : DL') : DL' := fun δ Q => te δ fun r => t δ fun rs => Q (r :: rs)
section
variable {C : Zn} {X : Cx} {e a b : Expr} {es : List Expr} {pos : Pos}
theorem l_nil : PDL C X [] dNil := ⟨fun _ _ _ h q => h _ q, fun _ _ q => ⟨q, rfl⟩, pa_nil.imp fun σ H Q h => by
  obtain ⟨δ, F, x, h⟩ := h
  exact h F H [] (.refl x.bs) .nil⟩
theorem l_cons {te : DT} {t : DL'} (ha : PD C X e te) (hr : PDL C X es t) (hs : starEach (e :: es) X.env = (false, eval e X.env) :: starEach es X.env := by rfl) : PDL C X (e :: es) (dCons te t) :=
  ⟨fun δ Q Q' m q => ha.mono δ _ _ (fun r q => hr.mono δ _ _ (fun rs q => m _ q) q) q,
    fun δ Q q => ha.mono δ _ _ (fun r q => hr.mono δ _ _ (fun rs q => ⟨q.1, by rw [List.length_cons, List.length_cons, q.2]⟩) (hr.len _ _ q)) q,
    (pa_cons ha.run hr.run hs).imp fun σ H Q h => by
      obtain ⟨δ, F, x, h⟩ := h
      refine ⟨δ, F, x, ha.mono δ _ _ (fun r q F1 H1 v g rr => ⟨δ, F1, x.go g, hr.mono δ _ _ (fun rs q F2 H2 vs g' rrs => ?_) q⟩) h⟩
      exact q F2 H2 _ (g.trans x.bs g') (RRs.cons x.bs g g' rr rrs)⟩
/-- a tuple display -/
def dTup (t : DL') : DT := fun δ Q => t δ fun rs => match fdL rs with
  | some ds => Q (.val (.sh (.tuple ds)))
  | none => False
theorem d_tup {t : DL'} {x1} (h : PDL C X es t) (hl : es.length ≤ 1000 := by decide) : PD C X (.Tuple es x1 pos) (dTup t) :=
  ⟨fun δ Q Q' m q => h.mono δ _ _ (fun rs q => by
    cases e : fdL rs with
    | none => rw [e] at q; exact q
    | some ds => rw [e] at q; exact m _ q) q, (pe_tup h.run).imp fun σ H Q q => by
    obtain ⟨δ, F, x, q⟩ := q
    refine ⟨δ, F, x, h.mono δ _ _ (fun rs q F1 H1 vs g rrs => ?_) (h.len _ _ q)⟩
    obtain ⟨q, hlen⟩ := q
    refine ⟨?_, fun p n => ?_⟩
    · rw [rrs.length, hlen]
      exact Nat.le_trans hl (by decide)
    · cases e : fdL rs with
      | none => rw [e] at q; exact q.elim
      | some ds =>
        rw [e] at q
        obtain ⟨F2, g2, _, a2, _⟩ := rrs.away x.bs g
        have g3 := Go.laid (o := .tup vs) g2.ok n
        refine q F2 _ _ (g2.trans x.bs g3) (.sh (.tup (.inl (.inl upd_same)) ?_))
        exact DqAll.mono (g3.keep g2.ok) _ _ (a2 ds e)⟩
/-- a list display -/
def dLst (t : DL') : DT := fun δ Q => t δ fun rs => match fxL rs with
  | some ds => Q (.val (.own ds))
  | none => False
theorem d_lst {t : DL'} (h : PDL C X es t) (hl : es.length ≤ 1000 := by decide) : PD C X (.List es pos) (dLst t) :=
  ⟨fun δ Q Q' m q => h.mono δ _ _ (fun rs q => by
    cases e : fxL rs with
    | none => rw [e] at q; exact q
    | some ds => rw [e] at q; exact m _ q) q, (pe_lst h.run).imp fun σ H Q q => by
    obtain ⟨δ, F, x, q⟩ := q
    refine ⟨δ, F, x, h.mono δ _ _ (fun rs q F1 H1 vs g rrs => ?_) (h.len _ _ q)⟩
    obtain ⟨q, hlen⟩ := q
    refine ⟨?_, fun p n => ?_⟩
    · rw [rrs.length, hlen]
      exact Nat.le_trans hl (by decide)
    · cases e : fxL rs with
      | none => rw [e] at q; exact q.elim
      | some ds =>
        rw [e] at q
        obtain ⟨as, a1, a2, a3⟩ := rrs.hold e
        have g3 := Go.laid (o := .lst vs) g.ok n
        have np : p ∉ as := fun m => by
          obtain ⟨o, z, _⟩ := a1.there p m
          rw [n] at z; cases z
        refine q F1 _ _ (g.trans x.bs g3) ⟨p :: as, .own upd_same (a1.mono (g3.keep g.ok) fun a m => upd_ne fun z => np (z ▸ m)), List.nodup_cons.mpr ⟨np, a2⟩, fun a m => ?_⟩
        rcases List.mem_cons.mp m with rfl | m
        · refine ⟨fun z => ?_, g.none x.bs n⟩
          obtain ⟨o, q⟩ := (g.ok.f a z).2
          rw [n] at q; cases q
        · exact a3 a m⟩
end
/-! ### operations by results -/
structure LkR2 (C : Zn) (K : PySem.W.Frag) (r : R2) (f : R → R → (R → Prop) → Prop) : Prop where
  mono : ∀ x y Q Q', (∀ z, Q z → Q' z) → f x y Q → f x y Q'
  to : ∀ F0 H0 F H v w x y (Q : R → Prop) (Q' : VK), Bs C F0 H0 → Go C F0 H0 F H → RR K C F H0 H v x → RR K C F H0 H w y → f x y Q →
    (∀ z u F' H', Go C F0 H0 F' H' → RR K C F' H0 H' u z → Q z → Q' u H') → r v w H Q'
structure LkR1 (C : Zn) (K : PySem.W.Frag) (r : V → Hp → VK → Prop) (f : R → (R → Prop) → Prop) : Prop where
  mono : ∀ x Q Q', (∀ z, Q z → Q' z) → f x Q → f x Q'
  to : ∀ F0 H0 F H v x (Q : R → Prop) (Q' : VK), Bs C F0 H0 → Go C F0 H0 F H → RR K C F H0 H v x → f x Q →
    (∀ z u F' H', Go C F0 H0 F' H' → RR K C F' H0 H' u z → Q z → Q' u H') → r v H Q'
structure LkC (C : Zn) (K : PySem.W.Frag) (r : List V → Hp → VK → Prop) (f : List R → (R → Prop) → Prop) : Prop where
  mono : ∀ xs Q Q', (∀ z, Q z → Q' z) → f xs Q → f xs Q'
  to : ∀ F0 H0 F H vs xs (Q : R → Prop) (Q' : VK), Bs C F0 H0 → Go C F0 H0 F H → RRs K C F H0 H vs xs → f xs Q →
    (∀ z u F' H', Go C F0 H0 F' H' → RR K C F' H0 H' u z → Q z → Q' u H') → r vs H Q'
def dOpR (f : R → R → (R → Prop) → Prop) (ta tb : DT) : DT := fun δ Q => ta δ fun x => tb δ fun y => f x y Q
def dUn (f : R → (R → Prop) → Prop) (ta : DT) : DT := fun δ Q => ta δ fun x => f x Q
def dCB (f : List R → (R → Prop) → Prop) (t : DL') : DT := fun δ Q => t δ fun xs => f xs Q
section
variable {K : PySem.W.Frag} {C : Zn} {F F0 F1 F' : Addr → Prop} {H H0 H1 H' : Hp}
theorem RR.older (b : Bs C F0 H0) (g : Go C F0 H0 F1 H1) {v : V} {r : R} (h : RR K C F H1 H v r) : RR K C F H0 H v r := by
  cases r with
  | br d => exact h
  | val d =>
    obtain ⟨as, z1, z2, z3⟩ := h
    exact ⟨as, z1, z2, fun a m => ⟨(z3 a m).1, g.none b (z3 a m).2⟩⟩
end
section
variable {C : Zn} {X : Cx} {e a b : Expr} {es : List Expr} {pos : Pos} {ta tb : DT} {t : DL'}
theorem mono_opR {f : R → R → (R → Prop) → Prop} (hf : ∀ x y Q Q', (∀ z, Q z → Q' z) → f x y Q → f x y Q') (ha : Mono ta) (hb : Mono tb) : Mono (dOpR f ta tb) := fun δ Q Q' m q =>
  ha δ _ _ (fun x q => hb δ _ _ (fun y q => hf _ _ _ _ m q) q) q
theorem twoR {r : R2} {f : R → R → (R → Prop) → Prop} (lk : LkR2 C X.K r f) (ma : Mono ta) (mb : Mono tb) {σ : St} {H : Hp} {Q : VK} (h : lift C X.K (dOpR f ta tb) σ H Q) : tOp r (lift C X.K ta) (lift C X.K tb) σ H Q := by
  obtain ⟨δ, F, x, h⟩ := h
  refine ⟨δ, F, x, ma δ _ _ (fun r1 q F1 H1 v g1 rr1 => ⟨δ, F1, x.go g1, mb δ _ _ (fun r2 q F2 H2 w g2 rr2 => ?_) q⟩) h⟩
  exact lk.to F H F2 H2 v w r1 r2 _ _ x.bs (g1.trans x.bs g2) (rr1.go g1.ok (fun a n => x.bs.nzn n) g2) (rr2.older x.bs g1) q fun z u F' H' g rr q => q F' H' u g rr
theorem d_opR {op : Operator} {r : R2} {f : R → R → (R → Prop) → Prop} (ho : OpR X (binaryOp op) r) (lk : LkR2 C X.K r f) (ha : PD C X a ta) (hb : PD C X b tb) : PD C X (.BinOp a op b pos) (dOpR f ta tb) :=
  ⟨mono_opR lk.mono ha.mono hb.mono, (pe_op ho ha.run hb.run).imp fun _ _ _ h => twoR lk ha.mono hb.mono h⟩
theorem d_ix {r : R2} {f : R → R → (R → Prop) → Prop} (ho : IxR X r) (lk : LkR2 C X.K r f) (ha : PD C X a ta) (hb : PD C X b tb) (hs : PlainIx b) : PD C X (.Subscript a b pos) (dOpR f ta tb) :=
  ⟨mono_opR lk.mono ha.mono hb.mono, (pe_ix ho ha.run hb.run hs).imp fun _ _ _ h => twoR lk ha.mono hb.mono h⟩
theorem mono_un {f : R → (R → Prop) → Prop} (hf : ∀ x Q Q', (∀ z, Q z → Q' z) → f x Q → f x Q') (ha : Mono ta) : Mono (dUn f ta) := fun δ Q Q' m q => ha δ _ _ (fun x q => hf _ _ _ m q) q
theorem mono_cb {f : List R → (R → Prop) → Prop} (hf : ∀ x Q Q', (∀ z, Q z → Q' z) → f x Q → f x Q') (ha : Mono t) : Mono (dCB f t) := fun δ Q Q' m q => ha δ _ _ (fun x q => hf _ _ _ m q) q
theorem cb_to {r : List V → Hp → VK → Prop} {f : List R → (R → Prop) → Prop} (lk : LkC C X.K r f) (m : Mono t) {σ : St} {H : Hp} {Q : VK} (h : lift C X.K (dCB f t) σ H Q) : tCB r (liftL C X.K t) σ H Q := by
  obtain ⟨δ, F, x, h⟩ := h
  refine ⟨δ, F, x, m δ _ _ (fun rs q F1 H1 vs g1 rr => ?_) h⟩
  exact lk.to F H F1 H1 vs rs _ _ x.bs g1 rr q fun z u F' H' g rr q => q F' H' u g rr
/-- f(e, ..), f a built-in function -/
theorem d_callB {x : Str} {p : Pos} {id : String} {r : List V → Hp → VK → Prop} {f : List R → (R → Prop) → Prop} (hc : CallR X (.builtin id) r) (lk : LkC C X.K r f) (hg : Gl X x) (hm : X.mg x = none) (hv : bootBuiltins x = some (.builtin id)) (ha : PDL C X (e :: es) t) (hn : x ≠ "__name__" := by decide) (hdb : (x == ("__debug__" : Str)) = false := by decide)
    (he : starEach (e :: es) X.env = (false, eval e X.env) :: starEach es X.env := by rfl) (hpl : (backTo pos (starEach es X.env)).any (·.1) = false := by rfl) : PD C X (.Call (.Name x p) (e :: es) [] pos) (dCB f t) :=
  ⟨mono_cb lk.mono ha.mono, (pe_callB hc hg hm hv ha.run hn hdb he hpl).imp fun _ _ _ h => cb_to lk ha.mono h⟩
/-- T(e, ..), T a built-in type -/
theorem d_callTy {x : Str} {p : Pos} {id : String} {r : List V → Hp → VK → Prop} {f : List R → (R → Prop) → Prop} (hc : CallR X (.type id) r) (lk : LkC C X.K r f) (hg : Gl X x) (hm : X.mg x = none) (hv : bootBuiltins x = some (.type id)) (ha : PDL C X (e :: es) t) (hn : x ≠ "__name__" := by decide) (hdb : (x == ("__debug__" : Str)) = false := by decide)
    (he : starEach (e :: es) X.env = (false, eval e X.env) :: starEach es X.env := by rfl) (hpl : (backTo pos (starEach es X.env)).any (·.1) = false := by rfl) : PD C X (.Call (.Name x p) (e :: es) [] pos) (dCB f t) :=
  ⟨mono_cb lk.mono ha.mono, (pe_callTy hc hg hm hv ha.run hn hdb he hpl).imp fun _ _ _ h => cb_to lk ha.mono h⟩
end
end DL
set_option Elab.async false
set_option linter.all false
set_option maxRecDepth 100000
set_option maxHeartbeats 1000000
namespace DL
open PySem PySem.Spec L2
open PyProof.Rows hiding St
/-! ### what a loop walks -/
/-- J hands out the data ds one by one, at every state that P speaks of -/
structure IR (C : Zn) (K : PySem.W.Frag) (P : (Addr → Prop) → Hp → Prop) (J : It) (ds : List D) : Prop where
  item : ∀ F H, Bs C F H → P F H → ∀ i d, ds[i]? = some d → J.go i H ∧ ∀ x H', J.yld i H x H' → ∃ F', Go C F H F' H' ∧ Dq K F' H' x d
  stop : ∀ F H, Bs C F H → P F H → J.stop ds.length H
theorem IR.imp {C : Zn} {K : PySem.W.Frag} {P P' : (Addr → Prop) → Hp → Prop} {J : It} {ds : List D} (h : IR C K P J ds) (k : ∀ F H, Bs C F H → P' F H → P F H) : IR C K P' J ds :=
  ⟨fun F H b p => h.item F H b (k F H b p), fun F H b p => h.stop F H b (k F H b p)⟩
def PK (C : Zn) (k : Bool) (F1 : Addr → Prop) (H1 : Hp) : (Addr → Prop) → Hp → Prop := fun F H => if k = true then Keep F1 H1 F H else Go C F1 H1 F H
/-- k: the loop's body may store (a for); else it is a comprehension's -/
def liftI (C : Zn) (K : PySem.W.Frag) (k : Bool) (t : DI) : TI := fun σ H R => ∃ δ F, At0 K C F H σ δ ∧ t δ fun ds => ∀ F' H' J, Go C F H F' H' → IR C K (PK C k F' H') J ds → R J H'
structure PDI (C : Zn) (X : Cx) (k : Bool) (tg e : Expr) (t : DI) : Prop where
  mono : Mono t
  run : PI X tg e (liftI C X.K k t)
theorem _root_.L2.PI.imp {X : Cx} {tg e : Expr} {t t' : TI} (h : PI X tg e t) (k : ∀ σ H R, t' σ H R → t σ H R) : PI X tg e t' := ⟨fun pins s σ H Q I q => h.run pins s σ H Q I (k _ _ _ q)⟩
section
variable {C : Zn} {X : Cx} {tg e : Expr} {pos : Pos}
/-- a list or a tuple, by values -/
def iSeq (K : PySem.W.Frag) (tl : TE) : TI := fun σ H R => tl σ H fun x H1 => ∃ a, x = .ref a ∧
  ((∃ xs, SqL K H1 a xs ∧ (xs.length ≤ sizeLine → R (Itl K a) H1)) ∨ ∃ xs, SqT K H1 a xs ∧ (xs.length ≤ sizeLine → R (Itt K a) H1))
theorem pi_seq {tl : TE} (hl : PE X e tl) : PI X tg e (iSeq X.K tl) := by
  refine ⟨fun pins s σ H R I h => ?_⟩
  refine thn (hl.run pins s σ H _ I h) fun v s1 ⟨x, H1, J1, rx, a, ea, q⟩ => ?_
  subst ea
  cases rx
  rcases q with ⟨xs, hq, q⟩ | ⟨xs, hq, q⟩
  · obtain ⟨its, _, p, hz⟩ := J1.list hq
    exact wpAny_pyIter_list p.isList (pi_one (tk := s1.toks) J1 _ (turn_list a _) ⟨_, Heap.get?_push_size _ rfl, rfl, rfl⟩ (q hz))
  · obtain ⟨its, _, p, hz⟩ := J1.tuple hq
    exact wpAny_pyIter_tuple (show s1.heap.IsTuple a its.toArray from p) (pi_one (tk := s1.toks) J1 _ (turn_tuple a _) ⟨_, Heap.get?_push_size _ rfl, rfl, rfl⟩ (q hz))
def seqOf : D → Option (List D)
  | .list ds => some ds
  | .tuple ds => some ds
  | _ => none
/-- for x in e: what e holds is given away -/
def dSeq (t : DT) : DI := fun δ Q => t δ fun r => match r.fd with
  | some d => (match seqOf d with
    | some ds => ds.length ≤ sizeLine → Q ds
    | none => False)
  | none => False
/-- .. in a comprehension: the items are given away -/
def dSeqQ (t : DT) : DI := fun δ Q => t δ fun r => match r.sup with
  | some d => (match seqOf d with
    | some ds => ds.length ≤ sizeLine → Q ds
    | none => False)
  | none => False
theorem LstAt.sq {K : PySem.W.Frag} {G : Addr → Prop} {H : Hp} {a : Addr} {vs : List V} (h : LstAt G H a vs) : SqL K H a vs := by
  exact .inl (.inl h.1)
theorem ir_list {K : PySem.W.Frag} {P : (Addr → Prop) → Hp → Prop} {a : Addr} {ds : List D} (h : ∀ F H, Bs C F H → P F H → ∃ vs, SqL K H a vs ∧ DqAll K F H vs ds) : IR C K P (Itl K a) ds := by
  refine ⟨fun F H b p i d e => ?_, fun F H b p => ?_⟩
  · obtain ⟨vs, h1, h2⟩ := h F H b p
    obtain ⟨v, q1, q2⟩ := h2.get e
    refine ⟨⟨vs, v, h1, q1⟩, fun x H' y => ?_⟩
    obtain ⟨rfl, y⟩ := y
    have := y vs h1
    rw [q1] at this; cases this
    exact ⟨F, .refl b, q2⟩
  · obtain ⟨vs, h1, h2⟩ := h F H b p
    exact ⟨vs, h1, Nat.le_of_eq h2.length⟩
theorem ir_tup {K : PySem.W.Frag} {P : (Addr → Prop) → Hp → Prop} {a : Addr} {ds : List D} (h : ∀ F H, Bs C F H → P F H → ∃ vs, SqT K H a vs ∧ DqAll K F H vs ds) : IR C K P (Itt K a) ds := by
  refine ⟨fun F H b p i d e => ?_, fun F H b p => ?_⟩
  · obtain ⟨vs, h1, h2⟩ := h F H b p
    obtain ⟨v, q1, q2⟩ := h2.get e
    refine ⟨⟨vs, v, h1, q1⟩, fun x H' y => ?_⟩
    obtain ⟨rfl, y⟩ := y
    have := y vs h1
    rw [q1] at this; cases this
    exact ⟨F, .refl b, q2⟩
  · obtain ⟨vs, h1, h2⟩ := h F H b p
    exact ⟨vs, h1, Nat.le_of_eq h2.length⟩
theorem mono_seq {t : DT} (h : Mono t) : Mono (dSeq t) := fun δ Q Q' m q => h δ _ _ (fun r q => by
  cases e : r.fd with
  | none => rw [e] at q; exact q
  | some d =>
    rw [e] at q
    simp only at q ⊢
    cases e2 : seqOf d with
    | none => rw [e2] at q; exact q
    | some ds =>
      rw [e2] at q
      exact fun z => m _ (q z)) q
theorem mono_seqQ {t : DT} (h : Mono t) : Mono (dSeqQ t) := fun δ Q Q' m q => h δ _ _ (fun r q => by
  cases e : r.sup with
  | none => rw [e] at q; exact q
  | some d =>
    rw [e] at q
    simp only at q ⊢
    cases e2 : seqOf d with
    | none => rw [e2] at q; exact q
    | some ds =>
      rw [e2] at q
      exact fun z => m _ (q z)) q
theorem i_seq {t : DT} (h : PD C X e t) : PDI C X true tg e (dSeq t) := by
  refine ⟨mono_seq h.mono, (pi_seq h.run).imp fun σ H R q => ?_⟩
  obtain ⟨δ, F, x, q⟩ := q
  refine ⟨δ, F, x, h.mono δ _ _ (fun r q F1 H1 v g rr => ?_) q⟩
  split at q
  · rename_i d e1
    split at q
    · rename_i ds e2
      obtain ⟨F2, g2, _, dq⟩ := RR.fd x.bs g rr e1
      unfold seqOf at e2
      split at e2
      · cases e2
        cases dq with
        | lst h1 h2 =>
          refine ⟨_, rfl, .inl ⟨_, h1.sq, fun hz => q (by rw [← h2.length]; exact hz) F2 H1 _ g2 (ir_list fun F H b p => ?_)⟩⟩
          exact ⟨_, (Keep.lstAt p h1).sq, DqAll.mono p _ _ h2⟩
      · cases e2
        cases dq with
        | tup h1 h2 =>
          refine ⟨_, rfl, .inr ⟨_, h1, fun hz => q (by rw [← h2.length]; exact hz) F2 H1 _ g2 (ir_tup fun F H b p => ?_)⟩⟩
          exact ⟨_, Keep.sqT p h1, DqAll.mono p _ _ h2⟩
      · cases e2
    · exact q.elim
  · exact q.elim
theorem i_seqQ {t : DT} (h : PD C X e t) : PDI C X false tg e (dSeqQ t) := by
  refine ⟨mono_seqQ h.mono, (pi_seq h.run).imp fun σ H R q => ?_⟩
  obtain ⟨δ, F, x, q⟩ := q
  refine ⟨δ, F, x, h.mono δ _ _ (fun r q F1 H1 v g rr => ?_) q⟩
  split at q
  · rename_i d e1
    split at q
    · rename_i ds e2
      obtain ⟨F2, g2, _, dq⟩ := RR.sup x.bs g rr e1
      unfold seqOf at e2
      split at e2
      · cases e2
        obtain ⟨a, vs, rfl, h1, h2⟩ := dq
        refine ⟨_, rfl, .inl ⟨_, h1.sq, fun hz => q (by rw [← h2.length]; exact hz) F2 H1 _ g2 (ir_list fun F H b p => ?_)⟩⟩
        have p : Go C F2 H1 F H := p
        exact ⟨_, (Keep.lstAt (p.keepZ g2.ok) h1).sq, DqAll.mono (p.keep g2.ok) _ _ h2⟩
      · cases e2
        obtain ⟨a, vs, rfl, h1, h2⟩ := dq
        refine ⟨_, rfl, .inr ⟨_, h1, fun hz => q (by rw [← h2.length]; exact hz) F2 H1 _ g2 (ir_tup fun F H b p => ?_)⟩⟩
        have p : Go C F2 H1 F H := p
        exact ⟨_, Keep.sqT (p.keep g2.ok) h1, DqAll.mono (p.keep g2.ok) _ _ h2⟩
      · cases e2
    · exact q.elim
  · exact q.elim
/-! ### range -/
def rangeD (lo hi : Int) : List D := (List.range (hi - lo).toNat).map fun i : Nat => PyData.int (lo + i)
theorem ir_range {K : PySem.W.Frag} {P : (Addr → Prop) → Hp → Prop} {lo hi : Int} : IR C K P (Itr lo (hi - lo).toNat) (rangeD lo hi) := by
  refine ⟨fun F H b p i d e => ?_, fun F H b p => ?_⟩
  · unfold rangeD at e
    rw [List.getElem?_map] at e
    obtain ⟨j, q1, q2⟩ := Option.map_eq_some_iff.mp e
    have hi' := (List.getElem?_eq_some_iff.mp q1).1
    rw [List.length_range] at hi'
    have : j = i := by
      rw [List.getElem?_range hi'] at q1
      exact (Option.some.inj q1).symm
    subst this
    refine ⟨hi', fun x H' y => ?_⟩
    obtain ⟨rfl, rfl⟩ := y
    subst q2
    exact ⟨F, .refl b, .int _⟩
  · show _ ≤ _
    unfold rangeD
    rw [List.length_map, List.length_range]
    exact Nat.le_refl _
def small (j : Int) : Prop := -(2 ^ 62) ≤ j ∧ j < 2 ^ 62
def onI (x : R) (Q : Int → Prop) : Prop := match x with
  | .val (.sh (.int i)) => Q i
  | _ => False
theorem onI_mono {x : R} {Q Q' : Int → Prop} (h : ∀ k, Q k → Q' k) (q : onI x Q) : onI x Q' := by
  unfold onI at q ⊢
  split at q
  · exact h _ q
  · exact q
theorem onI_to {K : PySem.W.Frag} {F : Addr → Prop} {H0 H : Hp} {v : V} {x : R} {Q : Int → Prop} (rr : RR K C F H0 H v x) (q : onI x Q) : ∃ k, v = .int k ∧ Q k := by
  unfold onI at q
  split at q
  · rename_i k
    obtain ⟨as, z, _⟩ := rr
    cases z with
    | sh z =>
      cases z
      exact ⟨k, rfl, q⟩
  · exact q.elim
def dRange1 (t : DT) : DI := fun δ Q => t δ fun x => onI x fun j => small j ∧ Q (rangeD 0 j)
def dRange2 (ta tb : DT) : DI := fun δ Q => ta δ fun x => onI x fun i => tb δ fun y => onI y fun j => small i ∧ small j ∧ Q (rangeD i j)
theorem PK.of {k : Bool} {K : PySem.W.Frag} {P : (Addr → Prop) → Hp → Prop} {J : It} {ds : List D} (h : IR C K (fun _ _ => True) J ds) : IR C K P J ds := h.imp fun _ _ _ _ => trivial
theorem i_range1 {k : Bool} {a : Expr} {p : Pos} {t : DT} (ha : PD C X a t) (hm : X.mg "range" = none) (hg : Gl X "range" := by rfl) (hs : starEach [a] X.env = [(false, eval a X.env)] := by rfl) : PDI C X k tg (.Call (.Name "range" p) [a] [] pos) (dRange1 t) :=
  ⟨fun δ Q Q' m q => ha.mono δ _ _ (fun x q => onI_mono (fun j q => ⟨q.1, m _ q.2⟩) q) q, (pi_range1 hg hm (pa_cons ha.run pa_nil hs) hs).imp fun σ H R q => by
    obtain ⟨δ, F, x, q⟩ := q
    refine ⟨δ, F, x, ha.mono δ _ _ (fun r q F1 H1 v g rr => ?_) q⟩
    obtain ⟨j, rfl, ⟨q1, q2⟩, q⟩ := onI_to rr q
    have e : j - 0 = j := by omega
    refine ⟨j, rfl, q1, q2, ?_⟩
    have h := q F1 H1 (Itr 0 (j - 0).toNat) g ir_range
    rw [e] at h
    exact h⟩
theorem i_range2 {k : Bool} {a b : Expr} {p : Pos} {ta tb : DT} (ha : PD C X a ta) (hb : PD C X b tb) (hm : X.mg "range" = none) (hg : Gl X "range" := by rfl) (hs : starEach [a, b] X.env = [(false, eval a X.env), (false, eval b X.env)] := by rfl) (hs2 : starEach [b] X.env = [(false, eval b X.env)] := by rfl) : PDI C X k tg (.Call (.Name "range" p) [a, b] [] pos) (dRange2 ta tb) :=
  ⟨fun δ Q Q' m q => ha.mono δ _ _ (fun x q => onI_mono (fun i q => hb.mono δ _ _ (fun y q => onI_mono (fun j q => ⟨q.1, q.2.1, m _ q.2.2⟩) q) q) q) q, (pi_range2 hg hm (pa_cons ha.run (pa_cons hb.run pa_nil hs2) (by rw [hs, hs2])) hs hs2).imp fun σ H R q => by
    obtain ⟨δ, F, x, q⟩ := q
    refine ⟨δ, F, x, ha.mono δ _ _ (fun r q F1 H1 v g rr => ?_) q⟩
    obtain ⟨i, rfl, q⟩ := onI_to rr q
    refine ⟨δ, F1, x.go g, hb.mono δ _ _ (fun r q F2 H2 v g' rr => ?_) q⟩
    obtain ⟨j, rfl, ⟨q1, q2⟩, ⟨q3, q4⟩, q⟩ := onI_to rr q
    exact ⟨i, j, rfl, ⟨q1, q2, q3, q4⟩, q F2 H2 _ (g.trans x.bs g') ir_range⟩⟩
end
/-! ### targets -/
abbrev DP := D → DE → (DE → Prop) → Prop
/-- names are stored: nothing is owned that was not -/
def Rst (K : PySem.W.Frag) (C : Zn) (F : Addr → Prop) (H : Hp) (σ : St) (δ : DE) (σ' : St) (δ' : DE) : Prop := ∀ as, Envs K C F H σ δ as → ∃ as', Envs K C F H σ' δ' as' ∧ as'.Sublist as
theorem Rst.at0 {K : PySem.W.Frag} {C : Zn} {F : Addr → Prop} {H : Hp} {σ σ' : St} {δ δ' : DE} (r : Rst K C F H σ δ σ' δ') (x : At0 K C F H σ δ) : At0 K C F H σ' δ' := by
  obtain ⟨as, e, nd, o, b⟩ := x
  obtain ⟨as', e', s⟩ := r as e
  exact ⟨as', e', nd.sublist s, fun a m => o a (s.subset m), b⟩
def liftG (C : Zn) (K : PySem.W.Frag) (is : List Nat) (g : DP) : TG := fun v σ H Q => ∃ δ F d, At0 K C F H σ δ ∧ Dq K F H v d ∧ g d δ fun δ' => ∀ σ', Rst K C F H σ δ σ' δ' → (∀ vs, (∀ i ∈ is, i ∈ vs) → wipe σ' vs = wipe σ vs) → Q σ' H
structure PDG (C : Zn) (X : Cx) (tg : Expr) (is : List Nat) (g : DP) : Prop where
  mono : ∀ d, Mono (g d)
  run : PG X tg (liftG C X.K is g)
def liftGs (C : Zn) (K : PySem.W.Frag) (is : List Nat) (g : List D → DE → (DE → Prop) → Prop) : TGs := fun vs σ H Q => ∃ δ F ds, At0 K C F H σ δ ∧ DqAll K F H vs ds ∧ g ds δ fun δ' => ∀ σ', Rst K C F H σ δ σ' δ' → (∀ vs, (∀ i ∈ is, i ∈ vs) → wipe σ' vs = wipe σ vs) → Q σ' H
structure PDGs (C : Zn) (X : Cx) (tgs : List Expr) (is : List Nat) (g : List D → DE → (DE → Prop) → Prop) : Prop where
  mono : ∀ d, Mono (g d)
  run : PGs X tgs (liftGs C X.K is g)
section
variable {K : PySem.W.Frag} {C : Zn} {F : Addr → Prop} {H : Hp} {X : Cx} {pos : Pos}
theorem Envs.set : ∀ {σ : St} {δ : DE} {as : List Addr} (i : Nat) {v : V} {dv : DV} {bs : List Addr}, Envs K C F H σ δ as → Rep K C F H v dv bs → i < σ.length → ∃ as', Envs K C F H (σ.set i (some v)) (δ.set i (some dv)) as' ∧ ∃ cs, as'.Perm (bs ++ cs) ∧ cs.Sublist as
  | _, _, _, _, _, _, _, .nil, _, h => absurd h (Nat.not_lt_zero _)
  | _, _, _, 0, v, dv, bs, .off t, r, _ => ⟨_, .on r t, _, .refl _, List.Sublist.refl _⟩
  | _, _, _, 0, v, dv, bs, .on q t, r, _ => ⟨_, .on r t, _, .refl _, List.sublist_append_right _ _⟩
  | _, _, _, i + 1, v, dv, bs, .off t, r, h => by
    obtain ⟨as', e, cs, p, s⟩ := Envs.set i t r (by simpa using h)
    exact ⟨as', .off e, cs, p, s⟩
  | _, _, _, i + 1, v, dv, bs, .on (as := as) q t, r, h => by
    obtain ⟨as', e, cs, p, s⟩ := Envs.set i t r (by simpa using h)
    refine ⟨_, .on q e, as ++ cs, ?_, s.append_left _⟩
    refine (List.Perm.append_left as p).trans ?_
    rw [← List.append_assoc, ← List.append_assoc]
    exact List.Perm.append_right cs List.perm_append_comm
theorem Envs.put {σ : St} {δ : DE} {as : List Addr} {i : Nat} {v : V} {d : D} (e : Envs K C F H σ δ as) (r : Dq K F H v d) (h : i < σ.length) : ∃ as', Envs K C F H (σ.set i (some v)) (δ.set i (some (.sh d))) as' ∧ as'.Sublist as := by
  revert i
  induction e with
  | nil => intro i h; exact absurd h (Nat.not_lt_zero _)
  | off t ih =>
    intro i h
    cases i with
    | zero => exact ⟨_, .on (.sh r) t, List.Sublist.refl _⟩
    | succ i =>
      obtain ⟨as', e, s⟩ := ih (i := i) (by simpa using h)
      exact ⟨as', .off e, s⟩
  | on q t ih =>
    intro i h
    cases i with
    | zero => exact ⟨_, .on (.sh r) t, List.sublist_append_right _ _⟩
    | succ i =>
      obtain ⟨as', e, s⟩ := ih (i := i) (by simpa using h)
      exact ⟨_, .on q e, s.append_left _⟩
theorem wipe_set {σ : St} {i : Nat} {x : Option V} : ∀ {vs : List Nat}, i ∈ vs → wipe (σ.set i x) vs = wipe σ vs
  | v :: vs, h => by
    unfold wipe
    by_cases e : i ∈ vs
    · rw [wipe_set e]
    · rcases List.mem_cons.mp h with rfl | h
      · have : ∀ (vs : List Nat), wipe (σ.set i x) vs = (wipe σ vs).set i x ∨ wipe (σ.set i x) vs = wipe σ vs := by
          intro vs
          induction vs with
          | nil => exact .inl rfl
          | cons u us ih =>
            unfold wipe
            by_cases e : u = i
            · subst e
              rcases ih with q | q
              · rw [q, List.set_set]; exact .inr rfl
              · rw [q]; exact .inr rfl
            · rcases ih with q | q
              · rw [q, List.set_comm _ _ (Ne.symm e)]; exact .inl rfl
              · rw [q]; exact .inr rfl
        rcases this vs with q | q
        · rw [q, List.set_set]
        · rw [q]
      · exact absurd h e
def gN (i : Nat) : DP := fun d δ Q => i < δ.length ∧ Q (δ.set i (some (.sh d)))
theorem g_name {i : Nat} {x : Str} (hN : X.N.Nodup) (hi : X.N[i]? = some x) (hx : Loc X.env.scope x) (hf : X.fn x = true ∨ X.env.scope.names.lookup x = some .local := by first | exact .inl rfl | exact .inr rfl | assumption) : PDG C X (.Name x pos) [i] (gN i) :=
  ⟨fun d δ Q Q' m q => ⟨q.1, m _ q.2⟩, ⟨fun pins s σ H v u Q I r h => (pg_name hN hi hx hf).run pins s σ H v u Q I r (by
    obtain ⟨δ, F, d, x, dq, hl, h⟩ := h
    have hl' : i < σ.length := by
      obtain ⟨as, e, _⟩ := x
      rw [e.length]; exact hl
    refine h _ (fun as e => e.put dq hl') fun vs hv => wipe_set (hv i List.mem_cons_self))⟩⟩
def gsNil : List D → DE → (DE → Prop) → Prop := fun ds δ Q => match ds with
  | [] => Q δ
  | _ => False
def gsCons (g : DP) (gs : List D → DE → (DE → Prop) → Prop) : List D → DE → (DE → Prop) → Prop := fun ds δ Q => match ds with
  | d :: r => g d δ fun δ' => gs r δ' Q
  | [] => False
theorem gs_nil : PDGs C X [] [] gsNil :=
  ⟨fun d δ Q Q' m q => by cases d with | nil => exact m _ q | cons _ _ => exact q, ⟨fun pins s σ H vs us Q I r h => pgs_nil.run pins s σ H vs us Q I r (by
    obtain ⟨δ, F, ds, x, dq, h⟩ := h
    cases dq with
    | nil => exact ⟨rfl, h σ (fun as e => ⟨as, e, List.Sublist.refl _⟩) fun _ _ => rfl⟩
    | cons _ _ => exact h.elim)⟩⟩
theorem gs_cons {e : Expr} {es : List Expr} {is js : List Nat} {g : DP} {gs : List D → DE → (DE → Prop) → Prop} (h1 : PDG C X e is g) (h2 : PDGs C X es js gs)
    (hs : (assignEach (e :: es) X.env).map (·.2) = assign e X.env :: (assignEach es X.env).map (·.2) := by rfl) : PDGs C X (e :: es) (is ++ js) (gsCons g gs) :=
  ⟨fun d δ Q Q' m q => by
    cases d with
    | nil => exact q
    | cons d r => exact h1.mono d δ _ _ (fun δ' q => h2.mono r δ' _ _ m q) q, ⟨fun pins s σ H vs us Q I r h => (pgs_cons h1.run h2.run hs).run pins s σ H vs us Q I r (by
    obtain ⟨δ, F, ds, x, dq, h⟩ := h
    cases dq with
    | nil => exact h.elim
    | @cons v d vs ds d1 d2 =>
      refine ⟨v, vs, rfl, δ, F, d, x, d1, h1.mono d δ _ _ (fun δ1 q σ1 k1 w1 => ?_) h⟩
      refine ⟨δ1, F, ds, k1.at0 x, d2, h2.mono ds δ1 _ _ (fun δ2 q σ2 k2 w2 => q σ2 (fun as e => ?_) fun vs hv => ?_) q⟩
      · obtain ⟨as1, e1, s1⟩ := k1 as e
        obtain ⟨as2, e2, s2⟩ := k2 as1 e1
        exact ⟨as2, e2, s2.trans s1⟩
      · rw [w2 vs fun i m => hv i (List.mem_append_right _ m), w1 vs fun i m => hv i (List.mem_append_left _ m)])⟩⟩
def gT (n : Nat) (gs : List D → DE → (DE → Prop) → Prop) : DP := fun d δ Q => match d with
  | .tuple ds => ds.length = n ∧ gs ds δ Q
  | _ => False
theorem g_tup {es : List Expr} {k : Nat} {is : List Nat} {gs : List D → DE → (DE → Prop) → Prop} {n : Nat} (hc : X.calm = true) (h : PDGs C X es is gs)
    (hn : (assignEach es X.env).length = n := by rfl) (hst : (assignEach es X.env).findIdx? (·.1) = none := by rfl) : PDG C X (.Tuple es k pos) is (gT n gs) :=
  ⟨fun d δ Q Q' m q => by
    unfold gT at q ⊢
    split at q
    · exact ⟨q.1, h.mono _ δ _ _ m q.2⟩
    · exact q, ⟨fun pins s σ H v u Q I r q => (pg_tup hc h.run hn hst).run pins s σ H v u Q I r (by
    obtain ⟨δ, F, d, x, dq, q⟩ := q
    unfold gT at q
    split at q
    · cases dq with
      | tup h1 h2 => exact ⟨_, _, rfl, h1, h2.length.trans q.1, δ, F, _, x, h2, q.2⟩
    · exact q.elim)⟩⟩
end
end DL
set_option Elab.async false
set_option linter.all false
set_option maxRecDepth 100000
set_option maxHeartbeats 1000000
namespace DL
open PySem PySem.Spec L2
open PyProof.Rows hiding St
section
variable {K : PySem.W.Frag} {C : Zn} {F F1 F' : Addr → Prop} {H H0 H1 H' : Hp}
/-- a thing of one's own is written -/
theorem Bs.put (b : Bs C F H) {a : Addr} {o : HO} (nz : ¬ C.Z a) : Bs C F (upd H a o) :=
  ⟨C.jloc H _ b.j fun c z => upd_ne fun e => nz (e ▸ z), fun c h => ⟨(b.f c h).1, by
    by_cases e : c = a
    · subst e; exact ⟨o, upd_same⟩
    · rw [upd_ne e]; exact (b.f c h).2⟩⟩
theorem Keep.put {a : Addr} {o : HO} (m : Mut (H a)) (nf : ¬ F a) : Keep F H F (upd H a o) :=
  ⟨fun c vs e => by
    have : c ≠ a := fun z => by rw [← z, e] at m; exact m
    rw [upd_ne this]; exact e, fun c u w e => by
    have : c ≠ a := fun z => by rw [← z, e] at m; exact m
    rw [upd_ne this]; exact e, fun c vs e f => by
    have : c ≠ a := fun z => nf (z ▸ f)
    rw [upd_ne this]; exact ⟨e, f⟩⟩
/-- .. where it was not yet at the base -/
theorem Go.put (b0 : Bs C F1 H1) (g : Go C F1 H1 F H) {a : Addr} {o : HO} (n : H1 a = Option.none) : Go C F1 H1 F (upd H a o) := by
  refine ⟨fun c u e z => ?_, g.grow, g.new, g.ok.put (b0.nzn n)⟩
  have : c ≠ a := fun z => by rw [z, n] at e; cases e
  rw [upd_ne this]; exact g.same c u e z
end
theorem wipe_sub (σ : St) {vs : List Nat} : ∀ ws : List Nat, (∀ i ∈ ws, i ∈ vs) → wipe (wipe σ ws) vs = wipe σ vs
  | [], _ => rfl
  | w :: ws, h => by
    show wipe ((wipe σ ws).set w none) vs = _
    rw [wipe_set (h w List.mem_cons_self)]
    exact wipe_sub σ ws fun i m => h i (List.mem_cons_of_mem _ m)
/-! ### comprehensions -/
def wipeD (δ : DE) : List Nat → DE
  | [] => δ
  | v :: vs => (wipeD δ vs).set v none
section
variable {K : PySem.W.Frag} {C : Zn} {F : Addr → Prop} {H : Hp}
theorem Envs.off1 {σ : St} {δ : DE} {as : List Addr} (i : Nat) (x : Option V) (e : Envs K C F H σ δ as) : ∃ as', Envs K C F H (σ.set i x) (δ.set i none) as' ∧ as'.Sublist as := by
  revert i
  induction e with
  | nil => intro i; exact ⟨[], .nil, .slnil⟩
  | off t ih =>
    intro i
    cases i with
    | zero => exact ⟨_, .off t, .refl _⟩
    | succ i =>
      obtain ⟨as', e, s⟩ := ih i
      exact ⟨as', .off e, s⟩
  | on q t ih =>
    intro i
    cases i with
    | zero => exact ⟨_, .off t, List.sublist_append_right _ _⟩
    | succ i =>
      obtain ⟨as', e, s⟩ := ih i
      exact ⟨_, .on q e, s.append_left _⟩
theorem Envs.wipe {σ : St} {δ : DE} {as : List Addr} (e : Envs K C F H σ δ as) : ∀ vs : List Nat, ∃ as', Envs K C F H (wipe σ vs) (wipeD δ vs) as' ∧ as'.Sublist as
  | [] => ⟨as, e, .refl _⟩
  | v :: vs => by
    obtain ⟨as', e', s⟩ := Envs.wipe e vs
    obtain ⟨as2, e2, s2⟩ := e'.off1 v none
    exact ⟨as2, e2, s2.trans s⟩
theorem At0.wipe {σ : St} {δ : DE} (x : At0 K C F H σ δ) (vs : List Nat) : At0 K C F H (wipe σ vs) (wipeD δ vs) := by
  obtain ⟨as, e, nd, o, b⟩ := x
  obtain ⟨as', e', s⟩ := e.wipe vs
  exact ⟨as', e', nd.sublist s, fun a m => o a (s.subset m), b⟩
end
/-- the turns of a comprehension -/
def lcRun (pat : DP) (tst : DB) (elt : DT) (δ : DE) : List D → List DV → (List DV → Prop) → Prop
  | [], acc, Q => Q acc
  | d :: ds, acc, Q => pat d δ fun δ' => tst δ' fun k => if k = true then
      elt δ' fun r => match r.fx with
        | some dv => acc.length < sizeLine ∧ lcRun pat tst elt δ ds (acc ++ [dv]) Q
        | none => False
    else lcRun pat tst elt δ ds acc Q
def dLc (it : DI) (pat : DP) (tst : DB) (elt : DT) (vs : List Nat) : DT := fun δ Q => it δ fun ds => lcRun pat tst elt (wipeD δ vs) ds [] fun acc => Q (.val (.own acc))
def dYes : DB := fun _ Q => Q true
structure PDTs (C : Zn) (X : Cx) (ifs : List Expr) (t : DB) : Prop where
  mono : Mono t
  run : PTs X ifs (liftB C X.K t)
theorem ts_nil {C : Zn} {X : Cx} : PDTs C X [] dYes := ⟨fun δ Q Q' m q => m _ q, ⟨fun pins s σ H Q I q => pts_nil.run pins s σ H Q I (by
  obtain ⟨δ, F, x, q⟩ := q
  exact q F H (.refl x.bs))⟩⟩
theorem ts_one {C : Zn} {X : Cx} {c : Expr} {t : DB} (h : PB C X c t) : PDTs C X [c] t := ⟨h.mono, pts_one h.run⟩
theorem mono_lcRun {pat : DP} {tst : DB} {elt : DT} (hp : ∀ d, Mono (pat d)) (ht : Mono tst) (he : Mono elt) (δ : DE) {Q Q' : List DV → Prop} (m : ∀ a, Q a → Q' a) : ∀ (ds : List D) (acc : List DV), lcRun pat tst elt δ ds acc Q → lcRun pat tst elt δ ds acc Q'
  | [], acc, q => m _ q
  | d :: ds, acc, q => hp d δ _ _ (fun δ' q => ht δ' _ _ (fun k q => by
    cases k with
    | false => exact mono_lcRun hp ht he δ m ds acc q
    | true =>
      refine he δ' _ _ (fun r q => ?_) q
      cases e : r.fx with
      | none => rw [e] at q; exact q
      | some dv =>
        rw [e] at q
        exact ⟨q.1, mono_lcRun hp ht he δ m ds _ q.2⟩) q) q
section
variable {C : Zn} {X : Cx} {K : PySem.W.Frag}
/-- the list that is being made: at p, what it holds -/
structure Acc (K : PySem.W.Frag) (C : Zn) (F1 : Addr → Prop) (H1 : Hp) (p : Addr) (acc : List DV) (F : Addr → Prop) (H : Hp) : Prop where
  go : Go C F1 H1 F H
  nf : ¬ F p
  ex : ∃ vs as, H p = some (.lst vs) ∧ Reps K C F H vs acc as ∧ (p :: as).Nodup ∧ ∀ a ∈ as, ¬ F a ∧ H1 a = none
theorem Acc.step {F1 F F' : Addr → Prop} {H1 H H' : Hp} {p : Addr} {acc : List DV} (b1 : Bs C F1 H1) (n1 : H1 p = none) (h : Acc K C F1 H1 p acc F H) (g : Go C F H F' H') : Acc K C F1 H1 p acc F' H' := by
  obtain ⟨g0, nf, vs, as, e, r, nd, f⟩ := h
  have o : ∀ a ∈ as, ¬ F a ∧ ¬ C.Z a := fun a m => ⟨(f a m).1, b1.nzn (f a m).2⟩
  obtain ⟨s, o'⟩ := g.own g0.ok r.there o
  refine ⟨g0.trans b1 g, fun z => ?_, vs, as, g.same p _ e (b1.nzn n1), r.mono (g.keep g0.ok) s, nd, fun a m => ⟨(o' a m).1, (f a m).2⟩⟩
  rcases g.new p z with z | z
  · exact nf z
  · rw [e] at z; cases z
/-- one more -/
theorem Acc.push {F1 F F' : Addr → Prop} {H1 H H' : Hp} {p : Addr} {acc : List DV} {v : V} {dv : DV} (b1 : Bs C F1 H1) (n1 : H1 p = none) (h : Acc K C F1 H1 p acc F H) (g : Go C F H F' H') (rr : RR K C F' H H' v (.val dv)) :
    ∃ vs, H' p = some (.lst vs) ∧ vs.length = acc.length ∧ Acc K C F1 H1 p (acc ++ [dv]) F' (upd H' p (.lst (vs ++ [v]))) := by
  have h' := h.step b1 n1 g
  obtain ⟨g0, nf, vs0, as0, e0, r0, nd0, f0⟩ := h
  obtain ⟨g1, nf1, vs, as, e, r, nd, f⟩ := h'
  obtain ⟨bs, z1, z2, z3⟩ := rr
  have ebs : ∀ a ∈ bs, a ≠ p := fun a m z => by
    have := (z3 a m).2
    rw [z, e0] at this; cases this
  have eas : ∀ a ∈ as0, a ≠ p := fun a m z => (List.nodup_cons.mp nd0).1 (z ▸ m)
  -- the elder items as they stood
  have o : ∀ a ∈ as0, ¬ F a ∧ ¬ C.Z a := fun a m => ⟨(f0 a m).1, b1.nzn (f0 a m).2⟩
  obtain ⟨s, o'⟩ := g.own g0.ok r0.there o
  have r0' := r0.mono (g.keep g0.ok) s
  have kp : Keep F' H' F' (upd H' p (.lst (vs ++ [v]))) := .put (by rw [e]; trivial) nf1
  have hvs : vs0 = vs := by
    have := g.same p _ e0 (b1.nzn n1)
    rw [e] at this
    cases this; rfl
  subst hvs
  refine ⟨_, e, r0'.length, g1.put b1 n1, nf1, _, as0 ++ (bs ++ []), upd_same, ?_, ?_, fun a m => ?_⟩
  · exact Reps.append (r0'.mono kp fun a m => upd_ne (eas a m)) (.cons (z1.mono kp fun a m => upd_ne (ebs a m)) .nil)
  · rw [List.append_nil]
    refine List.nodup_cons.mpr ⟨fun m => ?_, List.nodup_append.mpr ⟨(List.nodup_cons.mp nd0).2, z2, fun a m b m' q => ?_⟩⟩
    · rcases List.mem_append.mp m with m | m
      · exact (List.nodup_cons.mp nd0).1 m
      · exact ebs p m rfl
    · obtain ⟨u, q', _⟩ := r0.there a m
      have := (z3 b m').2
      rw [← q, q'] at this; cases this
  · rw [List.append_nil] at m
    rcases List.mem_append.mp m with m | m
    · exact ⟨(o' a m).1, (f0 a m).2⟩
    · exact ⟨(z3 a m).1, g0.none b1 (z3 a m).2⟩
theorem Acc.rr {F1 F : Addr → Prop} {H1 H : Hp} {p : Addr} {acc : List DV} (n1 : H1 p = none) (h : Acc K C F1 H1 p acc F H) : RR K C F H1 H (.ref p) (.val (.own acc)) := by
  obtain ⟨g0, nf, vs, as, e, r, nd, f⟩ := h
  refine ⟨p :: as, .own e r, nd, fun a m => ?_⟩
  rcases List.mem_cons.mp m with rfl | m
  · exact ⟨nf, n1⟩
  · exact f a m
theorem Acc.start {F1 : Addr → Prop} {H1 : Hp} {p : Addr} (b : Bs C F1 H1) (n : H1 p = none) : Acc K C F1 H1 p [] F1 (upd H1 p (.lst [])) := by
  refine ⟨Go.laid b n, fun z => ?_, [], [], upd_same, .nil, by simp, fun _ m => by cases m⟩
  obtain ⟨o, e⟩ := (b.f p z).2
  rw [n] at e; cases e
theorem lc_to {vs is : List Nat} {it : DI} {pat : DP} {tst : DB} {te : DT} (im : Mono it) (gm : ∀ d, Mono (pat d)) (tm : Mono tst) (em : Mono te) (his : ∀ i ∈ is, i ∈ vs) {σ : St} {H : Hp} {Q : VK} (q : lift C K (dLc it pat tst te vs) σ H Q) :
    tLc (liftI C K false it) (liftG C K is pat) (liftB C K tst) (lift C K te) vs σ H Q := by
  obtain ⟨δ, F, x, q⟩ := q
  refine ⟨δ, F, x, im δ _ _ (fun ds q F1 H1 J g ir => ?_) q⟩
  intro p n
  have x1 := x.go g
  have b1 := g.ok
  refine ⟨fun i m H' => m = ds.length - i ∧ i ≤ ds.length ∧ ∃ F' acc, Acc K C F1 H1 p acc F' H' ∧ lcRun pat tst te (wipeD δ vs) (ds.drop i) acc _, ⟨ds.length, by simp, Nat.zero_le _, F1, [], Acc.start b1 n, q⟩, ?_⟩
  rintro i m H' ⟨rfl, hi', F', acc, A, q⟩
  by_cases hlt : i < ds.length
  · have ed : ds[i]? = some ds[i] := List.getElem?_eq_getElem hlt
    have gP : Go C F1 H1 F' H' := A.go
    obtain ⟨go, yl⟩ := ir.item F' H' gP.ok gP i _ ed
    refine .inr ⟨go, fun H'' => ∃ F'' acc', Acc K C F1 H1 p acc' F'' H'' ∧ lcRun pat tst te (wipeD δ vs) (ds.drop (i + 1)) acc' _, fun H'' ⟨F'', acc', A', q'⟩ => ⟨ds.length - (i + 1), by omega, rfl, hlt, F'', acc', A', q'⟩, fun y H'' yy => ?_⟩
    obtain ⟨F2, g2, dq⟩ := yl y H'' yy
    have A2 := A.step b1 n g2
    rw [List.drop_eq_getElem_cons hlt] at q
    have x2 : At0 K C F2 H'' (wipe σ vs) (wipeD δ vs) := (x1.go A2.go).wipe _
    refine ⟨_, F2, ds[i], x2, dq, gm _ _ _ _ (fun δ' q σ' k w => ⟨(w _ his).trans (wipe_sub σ _ fun _ m => m), ?_⟩) q⟩
    refine ⟨δ', F2, k.at0 x2, tm δ' _ _ (fun kk q F3 H3 g3 => ?_) q⟩
    have A3 := A2.step b1 n g3
    cases kk with
    | false => exact ⟨F3, acc, A3, q⟩
    | true =>
      refine ⟨δ', F3, (k.at0 x2).go g3, em δ' _ _ (fun r q F4 H4 v g4 rr => ?_) q⟩
      split at q
      · rename_i dv e
        obtain ⟨vs, e1, e2, A4⟩ := A3.push b1 n g4 (rr.fx g4.ok e)
        exact ⟨vs, e1, by rw [e2]; exact q.1, F4, _, A4, q.2⟩
      · exact q.elim
  · have e : i = ds.length := by omega
    subst e
    refine .inl ⟨ir.stop F' H' A.go.ok A.go, ?_⟩
    rw [List.drop_length] at q
    have gg := g.trans x.bs A.go
    have rr := A.rr n
    exact q F' H' _ gg (rr.older x.bs g)
theorem d_lc {elt tg iter : Expr} {ifs : List Expr} {scope : Scope} {own : List (Str × Nat)} {pos : Pos} {it : DI} {pat : DP} {tst : DB} {te : DT} {is : List Nat} (hc : X.calm = true) (hN : X.N.Nodup) (hi : PDI C X false tg iter it) (ok : BlkOk X.N X.env.scope scope own) (his : ∀ i ∈ is, i ∈ own.map (·.2))
    (hg : ∀ (s : Shared) (H : Hp) (A : Addr) (cl : List (Str × Addr)) (fp : List Addr), PDG C (X.blk s H scope (compEnvC scope cl A X.env) fp) tg is pat) (ht : ∀ (s : Shared) (H : Hp) (A : Addr) (cl : List (Str × Addr)) (fp : List Addr), PDTs C (X.blk s H scope (compEnvC scope cl A X.env) fp) ifs tst)
    (he : ∀ (s : Shared) (H : Hp) (A : Addr) (cl : List (Str × Addr)) (fp : List Addr), PD C (X.blk s H scope (compEnvC scope cl A X.env) fp) elt te) (hs : ∀ x, foldedSetIterable iter X.env x = pure x := by intro _; rfl) :
    PD C X (.ListComp elt [⟨tg, iter, ifs, 0⟩] scope pos) (dLc it pat tst te (own.map (·.2))) := by
  have gm := fun d => (hg X.s_0 X.H_0 0 [] []).mono d
  have tm := (ht X.s_0 X.H_0 0 [] []).mono
  have em := (he X.s_0 X.H_0 0 [] []).mono
  refine ⟨fun δ Q Q' m q => hi.mono δ _ _ (fun ds q => mono_lcRun gm tm em _ (fun acc q => m _ q) ds [] q) q, ?_⟩
  exact (pe_lc (wi := liftI C X.K false it) (g := liftG C X.K is pat) (tt := liftB C X.K tst) (te := lift C X.K te) hc hN hi.run ok (fun s H A cl fp => (hg s H A cl fp).run) (fun s H A cl fp => (ht s H A cl fp).run) (fun s H A cl fp => (he s H A cl fp).run) hs).imp fun σ H Q q => lc_to hi.mono gm tm em his q
end
end DL
set_option Elab.async false
set_option linter.all false
set_option maxRecDepth 100000
set_option maxHeartbeats 1000000
namespace DL
open PySem PySem.Spec L2
open PyProof.Rows hiding St
/-! ### statements -/
structure DEnds where
  nx : DE → Prop
  rt : DV → Prop
  bk : DE → Prop := fun _ => False
  ct : DE → Prop := fun _ => False
abbrev DS := DEnds → DE → Prop
structure DEnds.Le (D D' : DEnds) : Prop where
  nx : ∀ δ, D.nx δ → D'.nx δ
  rt : ∀ v, D.rt v → D'.rt v
  bk : ∀ δ, D.bk δ → D'.bk δ
  ct : ∀ δ, D.ct δ → D'.ct δ
theorem DEnds.Le.refl (D : DEnds) : D.Le D := ⟨fun _ h => h, fun _ h => h, fun _ h => h, fun _ h => h⟩
def MonoS (t : DS) : Prop := ∀ D D' δ, D.Le D' → t D δ → t D' δ
theorem MonoS.ap {t : DS} (h : MonoS t) {D D' : DEnds} {δ : DE} (q : t D δ) (l : D.Le D') : t D' δ := h _ _ _ l q
section
variable (K : PySem.W.Frag) (C : Zn) (F0 : Addr → Prop) (H0 : Hp)
/-- the state of a def's body, seen from its entry -/
def At (σ : St) (δ : DE) (F : Addr → Prop) (H : Hp) : Prop := Bs C F0 H0 ∧ Go C F0 H0 F H ∧ ∃ as, Envs K C F H σ δ as ∧ as.Nodup ∧ ∀ a ∈ as, ¬ F a ∧ H0 a = none
def endsOf (D : Ends) (F : Addr → Prop) (H : Hp) : DEnds where
  nx := fun δ' => ∀ σ' F' H', At K C F0 H0 σ' δ' F' H' → Keep F H F' H' → D.nx σ' H'
  rt := fun dv => ∀ v F' H', Go C F0 H0 F' H' → RR K C F' H0 H' v (.val dv) → D.rt v H'
  bk := fun δ' => ∀ σ' F' H', At K C F0 H0 σ' δ' F' H' → Keep F H F' H' → D.bk σ' H'
  ct := fun δ' => ∀ σ' F' H', At K C F0 H0 σ' δ' F' H' → Keep F H F' H' → D.ct σ' H'
def liftS (t : DS) : TS := fun D σ H => ∃ δ F, At K C F0 H0 σ δ F H ∧ t (endsOf K C F0 H0 D F H) δ
end
structure PSD (C : Zn) (F0 : Addr → Prop) (H0 : Hp) (X : Cx) (st : Stmt) (t : DS) : Prop where
  mono : MonoS t
  run : PS X st (liftS X.K C F0 H0 t)
structure PSSD (C : Zn) (F0 : Addr → Prop) (H0 : Hp) (X : Cx) (sts : List Stmt) (t : DS) : Prop where
  mono : MonoS t
  run : PSs X sts (liftS X.K C F0 H0 t)
section
variable {K : PySem.W.Frag} {C : Zn} {F0 F F1 F' : Addr → Prop} {H0 H H1 H' : Hp} {σ σ' : St} {δ δ' : DE}
theorem At.bs (x : At K C F0 H0 σ δ F H) : Bs C F H := x.2.1.ok
theorem At.at0 (x : At K C F0 H0 σ δ F H) : At0 K C F H σ δ := by
  obtain ⟨b0, g, as, e, nd, o⟩ := x
  exact ⟨as, e, nd, fun a m => ⟨(o a m).1, b0.nzn (o a m).2⟩, g.ok⟩
theorem At.go (x : At K C F0 H0 σ δ F H) (g' : Go C F H F' H') : At K C F0 H0 σ δ F' H' := by
  obtain ⟨b0, g, as, e, nd, o⟩ := x
  obtain ⟨s, o'⟩ := g'.own g.ok e.there fun a m => ⟨(o a m).1, b0.nzn (o a m).2⟩
  exact ⟨b0, g.trans b0 g', as, e.mono (g'.keep g.ok) s, nd, fun a m => ⟨(o' a m).1, (o a m).2⟩⟩
theorem At.rst (x : At K C F0 H0 σ δ F H) (r : Rst K C F H σ δ σ' δ') : At K C F0 H0 σ' δ' F H := by
  obtain ⟨b0, g, as, e, nd, o⟩ := x
  obtain ⟨as', e', s⟩ := r as e
  exact ⟨b0, g, as', e', nd.sublist s, fun a m => o a (s.subset m)⟩
/-- a value is stored in a slot -/
theorem At.set (x : At K C F0 H0 σ δ F H) (g : Go C F H F' H') {v : V} {dv : DV} (rr : RR K C F' H H' v (.val dv)) {i : Nat} (hi : i < δ.length) : At K C F0 H0 (σ.set i (some v)) (δ.set i (some dv)) F' H' := by
  have x' := x.go g
  obtain ⟨b0, gg, as, e, nd, o⟩ := x
  obtain ⟨_, g2, as2, e2, nd2, o2⟩ := x'
  obtain ⟨bs, z1, z2, z3⟩ := rr
  obtain ⟨s, _⟩ := g.own gg.ok e.there fun a m => ⟨(o a m).1, b0.nzn (o a m).2⟩
  have e' := e.mono (g.keep gg.ok) s
  have o' : ∀ a ∈ as, ¬ F' a ∧ H0 a = none := fun a m => by
    have := (g.own gg.ok e.there fun a m => ⟨(o a m).1, b0.nzn (o a m).2⟩).2 a m
    exact ⟨this.1, (o a m).2⟩
  obtain ⟨as3, e3, cs, p, sb⟩ := Envs.set i e' z1 (by rw [e.length]; exact hi)
  refine ⟨b0, g2, as3, e3, ?_, fun a m => ?_⟩
  · refine (p.nodup_iff).mpr (List.nodup_append.mpr ⟨z2, nd.sublist sb, fun a m b m' q => ?_⟩)
    obtain ⟨u, q', _⟩ := e.there b (sb.subset m')
    have := (z3 a m).2
    rw [q, q'] at this; cases this
  · rcases List.mem_append.mp (p.mem_iff.mp m) with m | m
    · exact ⟨(z3 a m).1, gg.none b0 (z3 a m).2⟩
    · exact o' a (sb.subset m)
theorem endsOf_le {D : Ends} (k : Keep F H F1 H1) : (endsOf K C F0 H0 D F H).Le (endsOf K C F0 H0 D F1 H1) :=
  ⟨fun δ h σ' F' H' x k' => h σ' F' H' x (k.trans k'), fun v h => h, fun δ h σ' F' H' x k' => h σ' F' H' x (k.trans k'), fun δ h σ' F' H' x k' => h σ' F' H' x (k.trans k')⟩
theorem Envs.lens : ∀ {σ : St} {δ : DE} {as : List Addr} {i : Nat} {dv : DV}, Envs K C F H σ δ as → δ[i]? = some (some dv) → ∃ v as1 bs as2, as = as1 ++ bs ++ as2 ∧ σ[i]? = some (some v) ∧ Rep K C F H v dv bs ∧
    ∀ (F' : Addr → Prop) (H' : Hp) (dv' : DV) (bs' : List Addr), Keep F H F' H' → (∀ a ∈ as1 ++ as2, H' a = H a) → Rep K C F' H' v dv' bs' → Envs K C F' H' σ (δ.set i (some dv')) (as1 ++ bs' ++ as2)
  | _, _, _, _, _, .nil, e => by cases e
  | _, _, _, 0, _, .off t, e => by cases e
  | _, _, _, i + 1, d, .off t, e => by
    obtain ⟨v, as1, bs, as2, h1, h2, h3, h4⟩ := Envs.lens (i := i) (dv := d) t (by simpa using e)
    exact ⟨v, as1, bs, as2, h1, by simpa using h2, h3, fun F' H' dv' bs' k s r => .off (h4 F' H' dv' bs' k s r)⟩
  | _, _, _, 0, _, .on (as := as) (bs := bs) r t, e => by
    cases e
    refine ⟨_, [], as, bs, by simp, rfl, r, fun F' H' dv' bs' k s r' => ?_⟩
    exact .on r' (t.mono k fun a m => s a (by simpa using m))
  | _, _, _, i + 1, d, .on (as := as) (bs := cs) r t, e => by
    obtain ⟨v, as1, bs, as2, h1, h2, h3, h4⟩ := Envs.lens (i := i) (dv := d) t (by simpa using e)
    subst h1
    refine ⟨v, as ++ as1, bs, as2, by simp, by simpa using h2, h3, fun F' H' dv' bs' k s r' => ?_⟩
    have q := Envs.on (r.mono k fun a m => s a (by simp [m])) (h4 F' H' dv' bs' k (fun a m => s a (by
      rcases List.mem_append.mp m with m | m <;> simp [m])) r')
    simpa using q
/-- the list in slot i is written -/
theorem At.lens (x : At K C F0 H0 σ δ F H) (g : Go C F H F1 H1) {i : Nat} {es : List DV} (e : δ[i]? = some (some (.own es))) : ∃ a vs bs, σ[i]? = some (some (.ref a)) ∧ H1 a = some (.lst vs) ∧ Reps K C F1 H1 vs es bs ∧ (a :: bs).Nodup ∧ (∃ o, H a = some o) ∧ (∀ b ∈ bs, ∃ o, H b = some o) ∧ ¬ F1 a ∧ ¬ C.Z a ∧ (∀ b ∈ bs, ¬ F1 b ∧ ¬ C.Z b) ∧
    (∀ vs' es' bs' H2, (∀ c, c ∉ a :: bs → H2 c = H1 c) → Bs C F1 H2 → Keep F1 H1 F1 H2 → H2 a = some (.lst vs') → Reps K C F1 H2 vs' es' bs' → (a :: bs').Nodup → (∀ b ∈ bs', b ∈ bs ∨ (H b = none ∧ ¬ F1 b)) →
      At K C F0 H0 σ (δ.set i (some (.own es'))) F1 H2) := by
  obtain ⟨b0, gg, as, en, nd, o⟩ := x
  have oz : ∀ a ∈ as, ¬ F a ∧ ¬ C.Z a := fun a m => ⟨(o a m).1, b0.nzn (o a m).2⟩
  obtain ⟨s, o'⟩ := g.own gg.ok en.there oz
  have en1 := en.mono (g.keep gg.ok) s
  have g1 := gg.trans b0 g
  obtain ⟨v, as1, bs0, as2, ha, hs, r, put⟩ := en1.lens e
  cases r with
  | @own a vs _ bs e1 r =>
    have sub : ∀ c ∈ a :: bs, c ∈ as := fun c m => by rw [ha]; simp only [List.mem_append]; exact .inl (.inr m)
    have nd0 : (as1 ++ (a :: bs) ++ as2).Nodup := ha ▸ nd
    have ndm : (a :: bs).Nodup := (List.nodup_append.mp (List.nodup_append.mp nd0).1).2.1
    refine ⟨a, vs, bs, hs, e1, r, ndm, ?_, fun b m => ?_, (o' a (sub a List.mem_cons_self)).1, (o' a (sub a List.mem_cons_self)).2, fun b m => o' b (sub b (List.mem_cons_of_mem _ m)), ?_⟩
    · obtain ⟨u, q, _⟩ := en.there a (sub a List.mem_cons_self)
      exact ⟨u, q⟩
    · obtain ⟨u, q, _⟩ := en.there b (sub b (List.mem_cons_of_mem _ m))
      exact ⟨u, q⟩
    · intro vs' es' bs' H2 same b2 k2 h2 r2 nd2 fr
      have off : ∀ c ∈ as1 ++ as2, c ∉ a :: bs := fun c m m' => by
        rcases List.mem_append.mp m with m | m
        · exact (List.nodup_append.mp (List.nodup_append.mp nd0).1).2.2 c m c m' rfl
        · exact (List.nodup_append.mp nd0).2.2 c (List.mem_append_right _ m') c m rfl
      refine ⟨b0, ⟨fun c u q z => ?_, g1.grow, g1.new, b2⟩, as1 ++ (a :: bs') ++ as2, put F1 H2 (.own es') (a :: bs') k2 (fun c m => same c (off c m)) (.own h2 r2), ?_, ?_⟩
      · have : c ∉ a :: bs := fun m => by
          have := (o c (sub c m)).2
          rw [q] at this; cases this
        rw [same c this]; exact g1.same c u q z
      · have n12 : (as1 ++ as2).Nodup := by
          refine List.nodup_append.mpr ⟨(List.nodup_append.mp (List.nodup_append.mp nd0).1).1, (List.nodup_append.mp nd0).2.1, fun c m c' m' q => ?_⟩
          exact (List.nodup_append.mp nd0).2.2 c (List.mem_append_left _ m) c' m' q
        have apart : ∀ c ∈ as1 ++ as2, c ∉ a :: bs' := fun c m m' => by
          rcases List.mem_cons.mp m' with rfl | m'
          · exact off c m List.mem_cons_self
          · rcases fr c m' with q | ⟨q, _⟩
            · exact off c m (List.mem_cons_of_mem _ q)
            · have mc : c ∈ as := by
                rw [ha]
                rcases List.mem_append.mp m with m | m <;> simp [m]
              obtain ⟨u, q', _⟩ := en.there c mc
              rw [q] at q'; cases q'
        refine List.nodup_append.mpr ⟨List.nodup_append.mpr ⟨(List.nodup_append.mp n12).1, nd2, fun c m c' m' q => ?_⟩, (List.nodup_append.mp n12).2.1, fun c m c' m' q => ?_⟩
        · exact apart c (List.mem_append_left _ m) (q ▸ m')
        · rcases List.mem_append.mp m with m | m
          · exact (List.nodup_append.mp n12).2.2 c m c' m' q
          · exact apart c' (List.mem_append_right _ m') (q ▸ m)
      · intro c m
        rcases List.mem_append.mp m with m | m
        · rcases List.mem_append.mp m with m | m
          · have mc : c ∈ as := by rw [ha]; simp [m]
            exact ⟨(o' c mc).1, (o c mc).2⟩
          · rcases List.mem_cons.mp m with rfl | m
            · have mc := sub c List.mem_cons_self
              exact ⟨(o' c mc).1, (o c mc).2⟩
            · rcases fr c m with q | ⟨q, nf⟩
              · have mc := sub c (List.mem_cons_of_mem _ q)
                exact ⟨(o' c mc).1, (o c mc).2⟩
              · exact ⟨nf, gg.none b0 q⟩
        · have mc : c ∈ as := by rw [ha]; simp [m]
          exact ⟨(o' c mc).1, (o c mc).2⟩
/-- .. the list alone, items of its own kept -/
theorem At.lens1 (x : At K C F0 H0 σ δ F H) (g : Go C F H F1 H1) {i : Nat} {es : List DV} (e : δ[i]? = some (some (.own es))) : ∃ a vs bs, σ[i]? = some (some (.ref a)) ∧ H1 a = some (.lst vs) ∧ Reps K C F1 H1 vs es bs ∧ (a :: bs).Nodup ∧ (∃ o, H a = some o) ∧ (∀ b ∈ bs, ∃ o, H b = some o) ∧ ¬ F1 a ∧ ¬ C.Z a ∧ (∀ b ∈ bs, ¬ F1 b ∧ ¬ C.Z b) ∧
    (∀ vs' es' bs', Reps K C F1 H1 vs' es' bs' → (a :: bs').Nodup → (∀ b ∈ bs', b ∈ bs ∨ (H b = none ∧ ¬ F1 b)) →
      At K C F0 H0 σ (δ.set i (some (.own es'))) F1 (upd H1 a (.lst vs')) ∧ Keep F H F1 (upd H1 a (.lst vs'))) := by
  obtain ⟨a, vs, bs, h1, h2, h3, h4, h5, h6, h7, h8, h8', h9⟩ := x.lens g e
  have kp : Keep F1 H1 F1 (upd H1 a (.lst vs)) := .put (by rw [h2]; trivial) h7
  refine ⟨a, vs, bs, h1, h2, h3, h4, h5, h6, h7, h8, h8', fun vs' es' bs' r nd fr => ⟨h9 vs' es' bs' _ (fun c m => upd_ne fun q => m (q ▸ List.mem_cons_self)) (g.ok.put h8) (.put (by rw [h2]; trivial) h7) upd_same ?_ nd fr, (g.keep x.bs).trans (.put (by rw [h2]; trivial) h7)⟩⟩
  exact r.mono (.put (by rw [h2]; trivial) h7) fun c m => upd_ne fun q => (List.nodup_cons.mp nd).1 (q ▸ m)
end
section
variable {C : Zn} {F0 : Addr → Prop} {H0 : Hp} {X : Cx} {st : Stmt} {rest : List Stmt} {t u : DS} {e : Expr} {te : DT} {pos : Pos}
def dNext : DS := fun D δ => D.nx δ
def dSeq2 (t u : DS) : DS := fun D δ => t { D with nx := u D } δ
theorem s_nil : PSSD C F0 H0 X [] dNext := ⟨fun D D' δ l q => l.nx _ q, pss_nil.imp fun D σ H q => by
  obtain ⟨δ, F, x, q⟩ := q
  exact q σ F H x .refl⟩
theorem s_cons (h1 : PSD C F0 H0 X st t) (h2 : PSSD C F0 H0 X rest u) : PSSD C F0 H0 X (st :: rest) (dSeq2 t u) :=
  ⟨fun D D' δ l q => h1.mono { D with nx := u D } { D' with nx := u D' } δ ⟨fun δ q => h2.mono _ _ _ l q, l.rt, l.bk, l.ct⟩ q, (pss_cons h1.run h2.run).imp fun D σ H q => by
    obtain ⟨δ, F, x, q⟩ := q
    refine ⟨δ, F, x, h1.mono { endsOf X.K C F0 H0 D F H with nx := u (endsOf X.K C F0 H0 D F H) } _ δ ⟨fun δ' q σ' F' H' x' k => ?_, fun v q => q, fun δ q => q, fun δ q => q⟩ q⟩
    exact ⟨δ', F', x', h2.mono _ _ _ (endsOf_le k) q⟩⟩
theorem s_one (h1 : PSD C F0 H0 X st t) : PSSD C F0 H0 X [st] t := ⟨h1.mono, pss_one h1.run⟩
def dBrk : DS := fun D δ => D.bk δ
theorem s_break : PSD C F0 H0 X (.Break pos) dBrk := ⟨fun D D' δ l q => l.bk _ q, ps_break.imp fun D σ H q => by
  obtain ⟨δ, F, x, q⟩ := q
  exact q σ F H x .refl⟩
def dNever : DS := fun _ _ => False
theorem s_never : PSD C F0 H0 X st dNever := ⟨fun D D' δ l q => q, ps_never.imp fun D σ H q => by
  obtain ⟨δ, F, x, q⟩ := q
  exact q⟩
/-- name = e -/
def dSet (i : Nat) (te : DT) : DS := fun D δ => te δ fun r => match r.fx with
  | some dv => i < δ.length ∧ D.nx (δ.set i (some dv))
  | none => False
theorem mono_set {i : Nat} (h : Mono te) : MonoS (dSet i te) := fun D D' δ l q => h δ _ _ (fun r q => by
  cases e : r.fx with
  | none => rw [e] at q; exact q
  | some dv => rw [e] at q; exact ⟨q.1, l.nx _ q.2⟩) q
theorem s_set {i : Nat} {x : Str} {pos' : Pos} (hN : X.N.Nodup) (hi : X.N[i]? = some x) (hx : Loc X.env.scope x) (he : PD C X e te) (hs : swapsWith e (some (.Name x pos')) pos.line X.env = pure false := by rfl) (hf : X.fn x = true ∨ X.env.scope.names.lookup x = some .local := by first | exact .inl rfl | exact .inr rfl | assumption) :
    PSD C F0 H0 X (.Assign [.Name x pos'] e pos) (dSet i te) :=
  ⟨mono_set he.mono, (ps_set hN hi hx he.run hs hf).imp fun D σ H q => by
    obtain ⟨δ, F, x, q⟩ := q
    refine ⟨δ, F, x.at0, he.mono δ _ _ (fun r q F' H' v g rr => ?_) q⟩
    split at q
    · rename_i dv e
      exact q.2 _ F' H' (x.set g (rr.fx g.ok e) q.1) (g.keep x.bs)
    · exact q.elim⟩
/-- target = e, the value given away -/
def dAsg (te : DT) (g : DP) : DS := fun D δ => te δ fun r => match r.fd with
  | some d => g d δ D.nx
  | none => False
/-- a, b = e1, e2 with plain local names -/
def dPar (i j : Nat) (t : DL') : DS := fun D δ => t δ fun rs => match fxL rs with
  | some [d1, d2] => i < δ.length ∧ j < δ.length ∧ D.nx ((δ.set i (some d1)).set j (some d2))
  | _ => False
theorem fxL2 {rs : List R} {d1 d2 : DV} (e : fxL rs = some [d1, d2]) : ∃ r1 r2, rs = [r1, r2] ∧ r1.fx = some d1 ∧ r2.fx = some d2 := by
  cases rs with
  | nil => cases e
  | cons r1 rs =>
    cases rs with
    | nil =>
      unfold fxL at e
      cases e1 : r1.fx with
      | none => rw [e1] at e; simp [fxL] at e
      | some d => rw [e1] at e; simp [fxL] at e
    | cons r2 rs =>
      cases rs with
      | nil =>
        unfold fxL at e
        unfold fxL at e
        cases e1 : r1.fx with
        | none => rw [e1] at e; simp at e
        | some d =>
          cases e2 : r2.fx with
          | none => rw [e1, e2] at e; simp at e
          | some d' =>
            rw [e1, e2] at e
            simp [fxL] at e
            obtain ⟨rfl, rfl⟩ := e
            exact ⟨r1, r2, rfl, e1, e2⟩
      | cons r3 rs =>
        unfold fxL at e
        unfold fxL at e
        unfold fxL at e
        cases e1 : r1.fx <;> cases e2 : r2.fx <;> cases e3 : r3.fx <;> cases e4 : fxL rs <;> rw [e1, e2, e3, e4] at e <;> simp at e
/-- two values are stored -/
theorem At.set2 {K : PySem.W.Frag} {F F' : Addr → Prop} {H H' : Hp} {σ : St} {δ : DE} (x : At K C F0 H0 σ δ F H) (g : Go C F H F' H') {v1 v2 : V} {r1 r2 : R} {d1 d2 : DV} (rr : RRs K C F' H H' [v1, v2] [r1, r2]) (e1 : r1.fx = some d1) (e2 : r2.fx = some d2) {i j : Nat} (hi : i < δ.length) (hj : j < δ.length) :
    At K C F0 H0 ((σ.set i (some v1)).set j (some v2)) ((δ.set i (some d1)).set j (some d2)) F' H' := by
  obtain ⟨as, hr, nd, f⟩ := RRs.hold (ds := [d1, d2]) rr (by simp [fxL, e1, e2])
  cases hr with
  | @cons _ _ _ _ as1 as2 z1 t =>
    cases t with
    | @cons _ _ _ _ as3 as4 z2 t =>
      cases t
      rw [List.append_nil] at nd f
      obtain ⟨n1, n2, n3⟩ := List.nodup_append.mp nd
      have x' := x.go g
      obtain ⟨b0, gg, as, e, nd', o⟩ := x
      obtain ⟨_, g2, _⟩ := x'
      have oz := fun a (m : a ∈ as) => (⟨(o a m).1, b0.nzn (o a m).2⟩ : ¬ F a ∧ ¬ C.Z a)
      obtain ⟨s, o'⟩ := g.own gg.ok e.there oz
      obtain ⟨bs1, w1, cs1, p1, s1⟩ := Envs.set i (e.mono (g.keep gg.ok) s) z1 (by rw [e.length]; exact hi)
      obtain ⟨bs2, w2, cs2, p2, s2⟩ := Envs.set j w1 z2 (by rw [List.length_set, e.length]; exact hj)
      have old : ∀ a ∈ as, H a ≠ none := fun a m z => by
        obtain ⟨u, q, _⟩ := e.there a m
        rw [z] at q; cases q
      have nb1 : bs1.Nodup := (p1.nodup_iff).mpr (List.nodup_append.mpr ⟨n1, nd'.sublist s1, fun a m b m' q => old b (s1.subset m') (q ▸ (f a (List.mem_append_left _ m)).2)⟩)
      refine ⟨b0, g2, bs2, w2, (p2.nodup_iff).mpr (List.nodup_append.mpr ⟨n2, nb1.sublist s2, fun a m b m' q => ?_⟩), fun a m => ?_⟩
      · rcases List.mem_append.mp (p1.mem_iff.mp (s2.subset m')) with z | z
        · exact n3 b z a m q.symm
        · exact old b (s1.subset z) (q ▸ (f a (List.mem_append_right _ m)).2)
      · have frs : ∀ a, a ∈ as1 ++ as3 → ¬ F' a ∧ H0 a = none := fun a m => ⟨(f a m).1, gg.none b0 (f a m).2⟩
        rcases List.mem_append.mp (p2.mem_iff.mp m) with m | m
        · exact frs a (List.mem_append_right _ m)
        · rcases List.mem_append.mp (p1.mem_iff.mp (s2.subset m)) with z | z
          · exact frs a (List.mem_append_left _ z)
          · exact ⟨(o' a (s1.subset z)).1, (o a (s1.subset z)).2⟩
end
end DL
set_option Elab.async false
set_option linter.all false
set_option maxRecDepth 100000
set_option maxHeartbeats 1000000
namespace DL
open PySem PySem.Spec L2
open PyProof.Rows hiding St
section
variable {C : Zn} {F0 : Addr → Prop} {H0 : Hp} {X : Cx} {st : Stmt} {rest : List Stmt} {t u : DS} {e : Expr} {te : DT} {pos : Pos}
theorem mono_par {i j : Nat} {t : DL'} (h : Mono t) : MonoS (dPar i j t) := fun D D' δ l q => h δ _ _ (fun rs q => by
  split at q
  · exact ⟨q.1, q.2.1, l.nx _ q.2.2⟩
  · exact q.elim) q
theorem s_par {i j : Nat} {x y : Str} {a b : Expr} {t : DL'} {px py pt : Pos} {kt k2 pt2} (hc : X.calm = true) (hN : X.N.Nodup) (hi : X.N[i]? = some x) (hj : X.N[j]? = some y) (hij : i ≠ j)
    (hx : X.env.scope.names.lookup x = some .local) (hy : X.env.scope.names.lookup y = some .local) (ha : PDL C X [a, b] t)
    (hw : swappedStores [.Tuple [.Name x px, .Name y py] kt pt] (.Tuple [a, b] k2 pt2) X.env = pure (some [x, y]))
    (hs : swapsWithSole [.Tuple [.Name x px, .Name y py] kt pt] (.Tuple [a, b] k2 pt2) pos.line X.env = pure false := by rfl) :
    PSD C F0 H0 X (.Assign [.Tuple [.Name x px, .Name y py] kt pt] (.Tuple [a, b] k2 pt2) pos) (dPar i j t) :=
  ⟨mono_par ha.mono, (ps_par hc hN hi hj hij hx hy ha.run hw hs).imp fun D σ H q => by
    obtain ⟨δ, F, x, q⟩ := q
    refine ⟨δ, F, x.at0, ha.mono δ _ _ (fun rs q F' H' vs g rrs => ?_) q⟩
    split at q
    · rename_i d1 d2 e
      obtain ⟨r1, r2, rfl, e1, e2⟩ := fxL2 e
      have hl := rrs.length
      match vs, hl with
      | [v1, v2], _ => exact ⟨v1, v2, rfl, q.2.2 _ F' H' (x.set2 g rrs e1 e2 q.1 q.2.1) (g.keep x.bs)⟩
    · exact q.elim⟩
/-- return e -/
def dRet (te : DT) : DS := fun D δ => te δ fun r => match r.fx with
  | some dv => D.rt dv
  | none => False
theorem mono_ret (h : Mono te) : MonoS (dRet te) := fun D D' δ l q => h δ _ _ (fun r q => by
  cases e : r.fx with
  | none => rw [e] at q; exact q
  | some dv => rw [e] at q; exact l.rt _ q) q
theorem s_ret (he : PD C X e te) : PSD C F0 H0 X (.Return (some e) pos) (dRet te) :=
  ⟨mono_ret he.mono, (ps_ret he.run).imp fun D σ H q => by
    obtain ⟨δ, F, x, q⟩ := q
    refine ⟨δ, F, x.at0, he.mono δ _ _ (fun r q F' H' v g rr => ?_) q⟩
    split at q
    · rename_i dv e
      exact q v F' H' (x.2.1.trans x.1 g) ((rr.fx g.ok e).older x.1 x.2.1)
    · exact q.elim⟩
/-- return x: what the name holds -/
def dRetV (i : Nat) : DS := fun D δ => match δ[i]? with
  | some (some dv) => D.rt dv
  | _ => False
theorem s_retV (i : Nat) {x : Str} {p : Pos} (hN : X.N[i]? = some x := by rfl) (hv : Vis X.env.scope x := by first | exact Or.inl rfl | exact Or.inr (Or.inl rfl) | exact Or.inr (Or.inr rfl)) (hd : (x == ("__debug__" : Str)) = false := by decide) (hcd : (x == ("__classdict__" : Str)) = false := by decide) :
    PSD C F0 H0 X (.Return (some (.Name x p)) pos) (dRetV i) :=
  ⟨fun D D' δ l q => by
    unfold dRetV at q ⊢
    split at q
    · exact l.rt _ q
    · exact q.elim, (ps_ret (pe_var hN hv hd hcd)).imp fun D σ H q => by
    obtain ⟨δ, F, x, q⟩ := q
    unfold dRetV at q
    split at q
    · rename_i dv e
      obtain ⟨b0, g, as, en, nd, o⟩ := x
      obtain ⟨v, bs, e1, r, m, sb⟩ := en.get e
      exact ⟨v, e1, q v F H g ⟨bs, r, nd.sublist sb, fun a z => o a (m a z)⟩⟩
    · exact q.elim⟩
/-- if -/
def dIfS (c : DB) (t u : DS) : DS := fun D δ => c δ fun k => if k = true then t D δ else u D δ
theorem s_if {c : Expr} {a b : List Stmt} {tc : DB} (hc : PB C X c tc) (ha : PSSD C F0 H0 X a t) (hb : PSSD C F0 H0 X b u) : PSD C F0 H0 X (.If c a b pos) (dIfS tc t u) :=
  ⟨fun D D' δ l q => hc.mono δ _ _ (fun k q => by
    cases k with
    | true => exact ha.mono _ _ _ l q
    | false => exact hb.mono _ _ _ l q) q, (ps_if hc.run ha.run hb.run).imp fun D σ H q => by
    obtain ⟨δ, F, x, q⟩ := q
    refine ⟨δ, F, x.at0, hc.mono δ _ _ (fun k q F' H' g => ?_) q⟩
    cases k with
    | true => exact ⟨δ, F', x.go g, ha.mono _ _ _ (endsOf_le (g.keep x.bs)) q⟩
    | false => exact ⟨δ, F', x.go g, hb.mono _ _ _ (endsOf_le (g.keep x.bs)) q⟩⟩
/-- for -/
def forRun (pat : DP) (body : DS) (D : DEnds) : List DL.D → DE → Prop
  | [], δ => D.nx δ
  | d :: ds, δ => pat d δ fun δ' => body { nx := forRun pat body D ds, rt := D.rt, bk := D.nx, ct := forRun pat body D ds } δ'
def dFor (it : DI) (pat : DP) (body : DS) : DS := fun D δ => it δ fun ds => forRun pat body D ds δ
theorem forRun_mono {pat : DP} {body : DS} (hp : ∀ d, Mono (pat d)) (hb : MonoS body) {D D' : DEnds} (l : D.Le D') : ∀ (ds : List DL.D) (δ : DE), forRun pat body D ds δ → forRun pat body D' ds δ
  | [], δ, q => l.nx _ q
  | d :: ds, δ, q => by
    refine hp d δ (fun δ' => body { nx := forRun pat body D ds, rt := D.rt, bk := D.nx, ct := forRun pat body D ds } δ') _ (fun δ' q => ?_) q
    exact hb.ap q ⟨fun δ q => forRun_mono hp hb l ds δ q, l.rt, l.nx, fun δ q => forRun_mono hp hb l ds δ q⟩
theorem s_for {tg iter : Expr} {body : List Stmt} {it : DI} {g : DP} {is : List Nat} {tb : DS} (hp : PassesOwn (model X.prog X.w) X.A X.env X.xe) (hc : X.calm = true) (hi : PDI C X true tg iter it) (hg : PDG C X tg is g) (hb : PSSD C F0 H0 X body tb)
    (hs : ∀ x, foldedSetIterable iter X.env x = pure x := by intro _; rfl) : PSD C F0 H0 X (.For tg iter body [] pos) (dFor it g tb) :=
  ⟨fun D D' δ l q => hi.mono δ _ _ (fun ds q => forRun_mono hg.mono hb.mono l ds δ q) q, (ps_for hp hc hi.run hg.run hb.run hs).imp fun D σ H q => by
    obtain ⟨δ, F, x, q⟩ := q
    refine ⟨δ, F, x.at0, hi.mono δ _ _ (fun ds q F1 H1 J g1 ir => ?_) q⟩
    refine ⟨fun i m σ' H' => m = ds.length - i ∧ i ≤ ds.length ∧ ∃ δ' F', At X.K C F0 H0 σ' δ' F' H' ∧ Keep F1 H1 F' H' ∧ forRun g tb (endsOf X.K C F0 H0 D F1 H1) (ds.drop i) δ', ⟨ds.length, by simp, Nat.zero_le _, δ, F1, x.go g1, .refl, forRun_mono hg.mono hb.mono (endsOf_le (g1.keep x.bs)) _ _ q⟩, ?_⟩
    rintro i m σ' H' ⟨rfl, hi', δ', F', x', k', q⟩
    by_cases hlt : i < ds.length
    · have ed : ds[i]? = some ds[i] := List.getElem?_eq_getElem hlt
      obtain ⟨go, yl⟩ := ir.item F' H' x'.bs k' i _ ed
      rw [List.drop_eq_getElem_cons hlt] at q
      refine .inr ⟨go, fun σ2 H2 => ∃ δ2 F2, At X.K C F0 H0 σ2 δ2 F2 H2 ∧ Keep F1 H1 F2 H2 ∧ forRun g tb (endsOf X.K C F0 H0 D F1 H1) (ds.drop (i + 1)) δ2, fun σ2 H2 ⟨δ2, F2, x2, k2, q2⟩ => ⟨ds.length - (i + 1), by omega, rfl, hlt, δ2, F2, x2, k2, q2⟩, fun v H'' yy => ?_⟩
      obtain ⟨F2, g2, dq⟩ := yl v H'' yy
      have x2 := x'.go g2
      have k2 := k'.trans (g2.keep x'.bs)
      refine ⟨δ', F2, ds[i], x2.at0, dq, hg.mono _ _ _ _ (fun δ3 q σ3 rs _ => ?_) q⟩
      exact ⟨δ3, F2, x2.rst rs, hb.mono.ap q ⟨fun δ4 q σ4 F4 H4 x4 k4 => ⟨δ4, F4, x4, k2.trans k4, q⟩, fun v q => q, fun δ4 q σ4 F4 H4 x4 k4 => q σ4 F4 H4 x4 (k2.trans k4), fun δ4 q σ4 F4 H4 x4 k4 => ⟨δ4, F4, x4, k2.trans k4, q⟩⟩⟩
    · have e : i = ds.length := by omega
      subst e
      rw [List.drop_length] at q
      exact .inl ⟨ir.stop F' H' x'.bs k', q σ' F' H' x' k'⟩⟩
/-- what the name in slot i holds is given away: no step of the program -/
def dFrz (i : Nat) (t : DS) : DS := fun D δ => match δ[i]? with
  | some (some dv) => (match dv.fz with
    | some d => t D (δ.set i (some (.sh d)))
    | none => False)
  | _ => False
theorem s_frz (i : Nat) {sts : List Stmt} (h : PSSD C F0 H0 X sts t) : PSSD C F0 H0 X sts (dFrz i t) :=
  ⟨fun D D' δ l q => by
    unfold dFrz at q ⊢
    split at q
    · split at q
      · exact h.mono _ _ _ l q
      · exact q.elim
    · exact q.elim, h.run.imp fun D σ H q => by
    obtain ⟨δ, F, x, q⟩ := q
    unfold dFrz at q
    split at q
    · rename_i dv e
      split at q
      · rename_i d ed
        obtain ⟨b0, g, as, en, nd, o⟩ := x
        obtain ⟨v, as1, bs, as2, ha, hs, r, put⟩ := en.lens e
        have sub : ∀ c ∈ bs, c ∈ as := fun c m => by rw [ha]; simp [m]
        have g2 : Go C F0 H0 (fun a => F a ∨ a ∈ bs) H := ⟨g.same, fun a m => .inl (g.grow a m), fun a m => by
          rcases m with m | m
          · exact g.new a m
          · exact .inr (o a (sub a m)).2, g.ok.j, fun a m => by
          rcases m with m | m
          · exact g.ok.f a m
          · obtain ⟨u, q, _⟩ := r.there a m
            exact ⟨b0.nzn (o a (sub a m)).2, u, q⟩⟩
        have kp : Keep F H (fun a => F a ∨ a ∈ bs) H := .weak fun a m => .inl m
        have en2 := put (fun a => F a ∨ a ∈ bs) H (.sh d) [] kp (fun a _ => rfl) (.sh (r.rd (fun a m => .inl m) ed fun a m => .inr m))
        have nd0 : (as1 ++ bs ++ as2).Nodup := ha ▸ nd
        refine ⟨_, _, ⟨b0, g2, as1 ++ [] ++ as2, en2, ?_, fun a m => ?_⟩, h.mono _ _ _ (endsOf_le kp) q⟩
        · rw [List.append_nil]
          refine List.nodup_append.mpr ⟨(List.nodup_append.mp (List.nodup_append.mp nd0).1).1, (List.nodup_append.mp nd0).2.1, fun c m c' m' q => ?_⟩
          exact (List.nodup_append.mp nd0).2.2 c (List.mem_append_left _ m) c' m' q
        · rw [List.append_nil] at m
          have mc : a ∈ as := by
            rw [ha]
            rcases List.mem_append.mp m with m | m <;> simp [m]
          refine ⟨fun z => ?_, (o a mc).2⟩
          rcases z with z | z
          · exact (o a mc).1 z
          · rcases List.mem_append.mp m with m | m
            · exact (List.nodup_append.mp (List.nodup_append.mp nd0).1).2.2 a m a z rfl
            · exact (List.nodup_append.mp nd0).2.2 a (List.mem_append_right _ z) a m rfl
      · exact q.elim
    · exact q.elim⟩
/-- an expression for its own sake -/
def dExpr (te : DT) : DS := fun D δ => te δ fun _ => D.nx δ
theorem s_expr (he : PD C X e te) (hs : swapsWith e none pos.line X.env = pure false := by rfl) : PSD C F0 H0 X (.Expr e pos) (dExpr te) :=
  ⟨fun D D' δ l q => he.mono δ _ _ (fun r q => l.nx _ q) q, (ps_expr he.run hs).imp fun D σ H q => by
    obtain ⟨δ, F, x, q⟩ := q
    exact ⟨δ, F, x.at0, he.mono δ _ _ (fun r q F' H' v g rr => q σ F' H' (x.go g) (g.keep x.bs)) q⟩⟩
/-! ### lists of one's own, changed -/
/-- the list in slot i -/
def onOwn (δ : DE) (i : Nat) (k : List DV → Prop) : Prop := match δ[i]? with
  | some (some (.own es)) => k es
  | _ => False
theorem onOwn_mono {δ : DE} {i : Nat} {k k' : List DV → Prop} (h : ∀ es, k es → k' es) (q : onOwn δ i k) : onOwn δ i k' := by
  unfold onOwn at q ⊢
  split at q
  · exact h _ q
  · exact q
theorem onOwn_to {δ : DE} {i : Nat} {k : List DV → Prop} (q : onOwn δ i k) : ∃ es, δ[i]? = some (some (.own es)) ∧ k es := by
  unfold onOwn at q
  split at q
  · rename_i es e
    exact ⟨es, e, q⟩
  · exact q.elim
/-- x.append(e) -/
def dAppend (i : Nat) (te : DT) : DS := fun D δ => onOwn δ i fun es => es.length < sizeLine ∧ te δ fun r => match r.fx with
  | some dv => D.nx (δ.set i (some (.own (es ++ [dv]))))
  | none => False
theorem Reps.snoc {K : PySem.W.Frag} {F : Addr → Prop} {H : Hp} {vs : List V} {es : List DV} {as : List Addr} {v : V} {dv : DV} {bs : List Addr} (r : Reps K C F H vs es as) (q : Rep K C F H v dv bs) : Reps K C F H (vs ++ [v]) (es ++ [dv]) (as ++ bs) := by
  have := r.append (Reps.cons q .nil)
  simpa using this
theorem s_append (i : Nat) {x : Str} {p apos cpos : Pos} (hN : X.N[i]? = some x) (hv : Vis X.env.scope x) (he : PD C X e te) (hd : (x == ("__debug__" : Str)) = false := by decide) (hcd : (x == ("__classdict__" : Str)) = false := by decide)
    (hs0 : starEach [e] X.env = (false, eval e X.env) :: starEach [] X.env := by rfl)
    (hbase : attributeBase (.Name x p) "append" X.env (eval (.Name x p) X.env) = eval (.Name x p) X.env := by rfl)
    (hfew : ((backTo cpos (starEach [e] X.env)).all (fun x => !x.1) && (backToKw cpos (keywordEach [] X.env)).all (fun x => x.1.isSome)
      && decide ([e].length + ([] : List Keyword).length + (if ([] : List Keyword).isEmpty then 0 else 1) < 30)) = true := by rfl)
    (hline : (apos.endLine == cpos.line) = true := by rfl) (hplain : (backTo cpos (starEach [] X.env)).any (·.1) = false := by rfl)
    (hs : swapsWith (.Call (.Attribute (.Name x p) "append" apos) [e] [] cpos) none pos.line X.env = pure false := by rfl) :
    PSD C F0 H0 X (.Expr (.Call (.Attribute (.Name x p) "append" apos) [e] [] cpos) pos) (dAppend i te) :=
  ⟨fun D D' δ l q => onOwn_mono (fun es q => ⟨q.1, he.mono δ _ _ (fun r q => by
    cases e : r.fx with
    | none => rw [e] at q; exact q
    | some dv => rw [e] at q; exact l.nx _ q) q.2⟩) q,
   (ps_expr (pe_bm PySem.F.plainAttrs_list PySem.F.slot_list_append PySem.F.type_list_append mt_append (pe_var hN hv hd hcd) (pa_cons he.run pa_nil hs0) hbase hfew hline hs0 hplain) hs).imp fun D σ H q => by
    obtain ⟨δ, F, x, q⟩ := q
    obtain ⟨es, e, hz, q⟩ := onOwn_to q
    have q0 := x.lens1 (.refl x.bs) e
    obtain ⟨a, vs, bs, e1, h1, r1, _⟩ := q0
    refine ⟨.ref a, e1, .inl ⟨rfl, vs, SqL.of h1⟩, δ, F, x.at0, he.mono δ _ _ (fun r q F' H' v g rr => ?_) q⟩
    split at q
    · rename_i dv ed
      obtain ⟨a', vs', bs', e1', h1', r1', nd, ta, tb, nfa, nza, ob, put⟩ := x.lens1 g e
      rw [e1] at e1'
      cases e1'
      obtain ⟨cs, z1, z2, z3⟩ := rr.fx g.ok ed
      have apart : ∀ c ∈ cs, c ∉ a :: bs' := fun c m m' => by
        rcases List.mem_cons.mp m' with rfl | m'
        · obtain ⟨u, w⟩ := ta
          rw [(z3 c m).2] at w; cases w
        · obtain ⟨u, w⟩ := tb c m'
          rw [(z3 c m).2] at w; cases w
      obtain ⟨x2, k2⟩ := put (vs' ++ [v]) (es ++ [dv]) (bs' ++ cs) (Reps.snoc r1' z1) (by
        have : a :: (bs' ++ cs) = (a :: bs') ++ cs := rfl
        rw [this]
        exact List.nodup_append.mpr ⟨nd, z2, fun c m c' m' w => apart c' m' (w ▸ m)⟩) (fun b m => by
        rcases List.mem_append.mp m with m | m
        · exact .inl m
        · exact .inr ⟨(z3 b m).2, (z3 b m).1⟩)
      exact ⟨a, vs', v, rfl, rfl, h1', by rw [r1'.length]; exact hz, q σ F' _ x2 k2⟩
    · exact q.elim⟩
/-- x.extend(e): e a new list -/
def dExtend (i : Nat) (te : DT) : DS := fun D δ => onOwn δ i fun es => te δ fun r => match r with
  | .val (.own zs) => es.length + zs.length ≤ sizeLine ∧ D.nx (δ.set i (some (.own (es ++ zs))))
  | r => (match r.sup with
    | some (.list ds) => es.length + ds.length ≤ sizeLine ∧ D.nx (δ.set i (some (.own (es ++ ds.map DV.sh))))
    | _ => False)
theorem s_extend (i : Nat) {x : Str} {p apos cpos : Pos} (hN : X.N[i]? = some x) (hv : Vis X.env.scope x) (he : PD C X e te) (hd : (x == ("__debug__" : Str)) = false := by decide) (hcd : (x == ("__classdict__" : Str)) = false := by decide)
    (hs0 : starEach [e] X.env = (false, eval e X.env) :: starEach [] X.env := by rfl)
    (hbase : attributeBase (.Name x p) "extend" X.env (eval (.Name x p) X.env) = eval (.Name x p) X.env := by rfl)
    (hfew : ((backTo cpos (starEach [e] X.env)).all (fun x => !x.1) && (backToKw cpos (keywordEach [] X.env)).all (fun x => x.1.isSome)
      && decide ([e].length + ([] : List Keyword).length + (if ([] : List Keyword).isEmpty then 0 else 1) < 30)) = true := by rfl)
    (hline : (apos.endLine == cpos.line) = true := by rfl) (hplain : (backTo cpos (starEach [] X.env)).any (·.1) = false := by rfl)
    (hs : swapsWith (.Call (.Attribute (.Name x p) "extend" apos) [e] [] cpos) none pos.line X.env = pure false := by rfl) :
    PSD C F0 H0 X (.Expr (.Call (.Attribute (.Name x p) "extend" apos) [e] [] cpos) pos) (dExtend i te) :=
  ⟨fun D D' δ l q => onOwn_mono (fun es q => he.mono δ _ _ (fun r q => by
    split at q
    · exact ⟨q.1, l.nx _ q.2⟩
    · split at q
      · exact ⟨q.1, l.nx _ q.2⟩
      · exact q.elim) q) q,
   (ps_expr (pe_bm PySem.F.plainAttrs_list PySem.F.slot_list_extend PySem.F.type_list_extend mt_extend (pe_var hN hv hd hcd) (pa_cons he.run pa_nil hs0) hbase hfew hline hs0 hplain) hs).imp fun D σ H q => by
    obtain ⟨δ, F, x, q⟩ := q
    obtain ⟨es, e, q⟩ := onOwn_to q
    have q0 := x.lens1 (.refl x.bs) e
    obtain ⟨a, vs, bs, e1, h1, r1, _⟩ := q0
    refine ⟨.ref a, e1, .inl ⟨rfl, vs, SqL.of h1⟩, δ, F, x.at0, he.mono δ _ _ (fun r q F' H' v g rr => ?_) q⟩
    obtain ⟨a', vs', bs', e1', h1', r1', nd, ta, tb, nfa, nza, ob, put⟩ := x.lens1 g e
    rw [e1] at e1'
    cases e1'
    split at q
    · rename_i zs
      obtain ⟨cs, z1, z2, z3⟩ := rr
      cases z1 with
      | @own b ws _ cs w1 w2 =>
        have apart : ∀ c ∈ cs, c ∉ a :: bs' := fun c m m' => by
          have f := (z3 c (List.mem_cons_of_mem _ m)).2
          rcases List.mem_cons.mp m' with rfl | m'
          · obtain ⟨u, w⟩ := ta
            rw [f] at w; cases w
          · obtain ⟨u, w⟩ := tb c m'
            rw [f] at w; cases w
        obtain ⟨x2, k2⟩ := put (vs' ++ ws) (es ++ zs) (bs' ++ cs) (Reps.append r1' w2) (by
          have : a :: (bs' ++ cs) = (a :: bs') ++ cs := rfl
          rw [this]
          exact List.nodup_append.mpr ⟨nd, (List.nodup_cons.mp z2).2, fun c m c' m' w => apart c' m' (w ▸ m)⟩) (fun b m => by
          rcases List.mem_append.mp m with m | m
          · exact .inl m
          · exact .inr ⟨(z3 b (List.mem_cons_of_mem _ m)).2, (z3 b (List.mem_cons_of_mem _ m)).1⟩)
        exact ⟨a, b, vs', ws, rfl, rfl, h1', w1, by rw [r1'.length, w2.length]; exact q.1, q.2 σ F' _ x2 k2⟩
    · split at q
      · rename_i ds ed
        obtain ⟨F2, g2, gr, sp⟩ := RR.sup x.bs g rr ed
        obtain ⟨b, ws, rfl, w1, w2⟩ := sp
        obtain ⟨a', vs2, bs2, e1', h12, r12, nd, ta, tb, nfa, nza, ob, put⟩ := x.lens1 g2 e
        rw [e1] at e1'
        cases e1'
        rw [h1'] at h12
        cases h12
        obtain ⟨x2, k2⟩ := put (vs' ++ ws) (es ++ ds.map DV.sh) (bs2 ++ []) (Reps.append r12 (Reps.ofDq w2)) (by rw [List.append_nil]; exact nd) (fun b m => by rw [List.append_nil] at m; exact .inl m)
        exact ⟨a, b, vs', ws, rfl, rfl, h1', w1.1, by rw [r12.length, w2.length]; exact q.1, q.2 σ F2 _ x2 k2⟩
      · exact q.elim⟩
end
end DL
set_option Elab.async false
set_option linter.all false
set_option maxRecDepth 100000
set_option maxHeartbeats 1000000
namespace DL
open PySem PySem.Spec L2
open PyProof.Rows hiding St
section
variable {K : PySem.W.Frag} {C : Zn} {F F' : Addr → Prop} {H H' : Hp}
theorem Reps.set : ∀ {vs : List V} {es : List DV} {as : List Addr} (j : Nat) {v : V} {dv : DV} {bs : List Addr}, Reps K C F H vs es as → Rep K C F H v dv bs → j < es.length → ∃ as', Reps K C F H (vs.set j v) (es.set j dv) as' ∧ ∃ cs, as'.Perm (bs ++ cs) ∧ cs.Sublist as
  | _, _, _, _, _, _, _, .nil, _, h => absurd h (Nat.not_lt_zero _)
  | _, _, _, 0, v, dv, bs, .cons q t, r, _ => ⟨_, .cons r t, _, .refl _, List.sublist_append_right _ _⟩
  | _, _, _, i + 1, v, dv, bs, .cons (as := as) q t, r, h => by
    obtain ⟨as', e, cs, p, s⟩ := Reps.set i t r (by simpa using h)
    refine ⟨_, .cons q e, as ++ cs, ?_, s.append_left _⟩
    refine (List.Perm.append_left as p).trans ?_
    rw [← List.append_assoc, ← List.append_assoc]
    exact List.Perm.append_right cs List.perm_append_comm
theorem Reps.erase : ∀ {vs : List V} {es : List DV} {as : List Addr} (j : Nat), Reps K C F H vs es as → ∃ as', Reps K C F H (vs.eraseIdx j) (es.eraseIdx j) as' ∧ as'.Sublist as
  | _, _, _, _, .nil => ⟨[], .nil, .refl _⟩
  | _, _, _, 0, .cons q t => ⟨_, t, List.sublist_append_right _ _⟩
  | _, _, _, i + 1, .cons q t => by
    obtain ⟨as', e, s⟩ := Reps.erase i t
    exact ⟨_, .cons q e, s.append_left _⟩
theorem Reps.get : ∀ {vs : List V} {es : List DV} {as : List Addr} {j : Nat} {dv : DV}, Reps K C F H vs es as → es[j]? = some dv → ∃ v bs, vs[j]? = some v ∧ Rep K C F H v dv bs ∧ bs.Sublist as
  | _, _, _, _, _, .nil, e => by cases e
  | _, _, _, 0, _, .cons q t, e => by cases e; exact ⟨_, _, rfl, q, List.sublist_append_left _ _⟩
  | _, _, _, i + 1, dv, .cons q t, e => by
    obtain ⟨v, bs, h1, h2, h3⟩ := Reps.get (j := i) (dv := dv) t (by simpa using e)
    exact ⟨v, bs, by simpa using h1, h2, h3.trans (List.sublist_append_right _ _)⟩
theorem Reps.lens : ∀ {vs : List V} {es : List DV} {as : List Addr} {j : Nat} {fs : List DV}, Reps K C F H vs es as → es[j]? = some (.own fs) → ∃ b ws cs as1 as2, vs[j]? = some (.ref b) ∧ H b = some (.lst ws) ∧ Reps K C F H ws fs cs ∧ as = as1 ++ (b :: cs) ++ as2 ∧
    ∀ (F' : Addr → Prop) (H' : Hp) (ws' : List V) (fs' : List DV) (cs' : List Addr), Keep F H F' H' → (∀ c ∈ as1 ++ as2, H' c = H c) → H' b = some (.lst ws') → Reps K C F' H' ws' fs' cs' → Reps K C F' H' vs (es.set j (.own fs')) (as1 ++ (b :: cs') ++ as2)
  | _, _, _, _, _, .nil, e => by cases e
  | _, _, _, 0, _, .cons q t, e => by
    cases e
    cases q with
    | @own b ws _ cs e1 r =>
      refine ⟨b, ws, cs, [], _, rfl, e1, r, rfl, fun F' H' ws' fs' cs' k s h r' => ?_⟩
      exact .cons (.own h r') (t.mono k fun a m => s a (by simpa using m))
  | _, _, _, i + 1, fs, .cons (as := as) q t, e => by
    obtain ⟨b, ws, cs, as1, as2, h1, h2, h3, h4, h5⟩ := Reps.lens (j := i) (fs := fs) t (by simpa using e)
    subst h4
    refine ⟨b, ws, cs, as ++ as1, as2, by simpa using h1, h2, h3, by simp, fun F' H' ws' fs' cs' k s h r' => ?_⟩
    have := Reps.cons (q.mono k fun a m => s a (by simp [m])) (h5 F' H' ws' fs' cs' k (fun c m => s c (by
      rcases List.mem_append.mp m with m | m <;> simp [m])) h r')
    simpa using this
end
section
variable {C : Zn} {F0 : Addr → Prop} {H0 : Hp} {X : Cx} {e : Expr} {te tx : DT} {pos : Pos}
/-- the last item; the item at k -/
def lastSh (es : List DV) (k : D → Prop) : Prop := match es[es.length - 1]? with
  | some (.sh d) => k d
  | _ => False
def atSh (es : List DV) (j : Nat) (k : D → Prop) : Prop := match es[j]? with
  | some (.sh d) => k d
  | _ => False
/-- x = y.pop() -/
def dPop (i j : Nat) : DS := fun D δ => onOwn δ j fun es => lastSh es fun d => i < δ.length ∧ D.nx ((δ.set j (some (.own es.dropLast))).set i (some (.sh d)))
theorem lastSh_mono {es : List DV} {k k' : D → Prop} (h : ∀ d, k d → k' d) (q : lastSh es k) : lastSh es k' := by
  unfold lastSh at q ⊢
  split at q
  · exact h _ q
  · exact q
theorem atSh_mono {es : List DV} {j : Nat} {k k' : D → Prop} (h : ∀ d, k d → k' d) (q : atSh es j k) : atSh es j k' := by
  unfold atSh at q ⊢
  split at q
  · exact h _ q
  · exact q
theorem At.drop1 {K : PySem.W.Frag} {F : Addr → Prop} {H : Hp} {σ : St} {δ : DE} (x : At K C F0 H0 σ δ F H) {i : Nat} {es : List DV} (e : δ[i]? = some (some (.own es))) {d : D} {k : Nat} (hk : es[k]? = some (.sh d)) : ∃ a vs v, σ[i]? = some (some (.ref a)) ∧ H a = some (.lst vs) ∧ vs.length = es.length ∧ vs[k]? = some v ∧ Dq K F H v d ∧
    (At K C F0 H0 σ (δ.set i (some (.own (es.eraseIdx k)))) F (upd H a (.lst (vs.eraseIdx k))) ∧ Keep F H F (upd H a (.lst (vs.eraseIdx k)))) := by
  obtain ⟨a, vs, bs, h1, h2, h3, nd, ta, tb, nf, nz, ob, put⟩ := x.lens1 (.refl x.bs) e
  obtain ⟨v, cs, g1, g2, _⟩ := h3.get hk
  obtain ⟨bs', r', s'⟩ := h3.erase k
  refine ⟨a, vs, v, h1, h2, h3.length, g1, by cases g2 with | sh g2 => exact g2, put _ _ bs' r' (List.nodup_cons.mpr ⟨fun m => (List.nodup_cons.mp nd).1 (s'.subset m), (List.nodup_cons.mp nd).2.sublist s'⟩) fun b m => .inl (s'.subset m)⟩
theorem eraseLast {α : Type} (l : List α) : l.eraseIdx (l.length - 1) = l.dropLast := by
  rw [List.eraseIdx_eq_take_drop_succ, List.dropLast_eq_take]
  cases l with
  | nil => rfl
  | cons x r =>
    have : List.drop ((x :: r).length - 1 + 1) (x :: r) = [] := by simp
    rw [this, List.append_nil]
theorem s_pop (i j : Nat) {x y : Str} {p q' apos cpos : Pos} (hN : X.N.Nodup) (hi : X.N[i]? = some x) (hx : Loc X.env.scope x) (hj : X.N[j]? = some y) (hv : Vis X.env.scope y) (hd : (y == ("__debug__" : Str)) = false := by decide) (hcd : (y == ("__classdict__" : Str)) = false := by decide)
    (hbase : attributeBase (.Name y p) "pop" X.env (eval (.Name y p) X.env) = eval (.Name y p) X.env := by rfl) (hline : (apos.endLine == cpos.line) = true := by rfl)
    (hs : swapsWith (.Call (.Attribute (.Name y p) "pop" apos) [] [] cpos) (some (.Name x q')) pos.line X.env = pure false := by rfl) (hf : X.fn x = true ∨ X.env.scope.names.lookup x = some .local := by first | exact .inl rfl | exact .inr rfl | assumption) :
    PSD C F0 H0 X (.Assign [.Name x q'] (.Call (.Attribute (.Name y p) "pop" apos) [] [] cpos) pos) (dPop i j) :=
  ⟨fun D D' δ l q => onOwn_mono (fun es q => lastSh_mono (fun d q => ⟨q.1, l.nx _ q.2⟩) q) q,
   (ps_set hN hi hx (pe_bm0 PySem.F.plainAttrs_list PySem.F.slot_list_pop PySem.F.type_list_pop mt_pop (pe_var hj hv hd hcd) hbase hline) hs hf).imp fun D σ H q => by
    obtain ⟨δ, F, x, q⟩ := q
    obtain ⟨es, e, q⟩ := onOwn_to q
    unfold lastSh at q
    split at q
    · rename_i d ed
      obtain ⟨a, vs, v, h1, h2, h3, h4, h5, x2, k2⟩ := x.drop1 e ed
      refine ⟨.ref a, h1, .inl ⟨rfl, vs, SqL.of h2⟩, a, vs, v, rfl, rfl, h2, by rw [h3]; exact h4, ?_⟩
      rw [← h3, eraseLast] at x2 k2
      rw [show es.eraseIdx (vs.length - 1) = es.dropLast by rw [h3, eraseLast]] at x2
      have x3 := x2.set (.refl x2.bs) (.sh (Dq.mono k2 _ _ h5)) (i := i) (by rw [List.length_set]; exact q.1)
      exact q.2 _ F _ x3 k2
    · exact q.elim⟩
/-- x.append(y.pop(e)) -/
def dAppPop (i j : Nat) (te : DT) : DS := fun D δ => onOwn δ i fun fs => fs.length < sizeLine ∧ onOwn δ j fun es => te δ fun r => onI r fun n => (-(2 ^ 63) ≤ n ∧ n < 2 ^ 63) ∧ match seqIndex? n es.length with
  | some k => atSh es k fun d => D.nx ((δ.set j (some (.own (es.eraseIdx k)))).set i (some (.own (fs ++ [.sh d]))))
  | none => False
theorem s_apppop (i j : Nat) (hij : i ≠ j) {x y : Str} {p p2 apos cpos apos2 cpos2 : Pos} (hi : X.N[i]? = some x) (hxv : Vis X.env.scope x) (hj : X.N[j]? = some y) (hyv : Vis X.env.scope y) (he : PD C X e te)
    (hd : (x == ("__debug__" : Str)) = false := by decide) (hcd : (x == ("__classdict__" : Str)) = false := by decide) (hd2 : (y == ("__debug__" : Str)) = false := by decide) (hcd2 : (y == ("__classdict__" : Str)) = false := by decide)
    (hs0 : starEach [e] X.env = (false, eval e X.env) :: starEach [] X.env := by rfl)
    (hb2 : attributeBase (.Name y p2) "pop" X.env (eval (.Name y p2) X.env) = eval (.Name y p2) X.env := by rfl)
    (hf2 : ((backTo cpos2 (starEach [e] X.env)).all (fun x => !x.1) && (backToKw cpos2 (keywordEach [] X.env)).all (fun x => x.1.isSome)
      && decide ([e].length + ([] : List Keyword).length + (if ([] : List Keyword).isEmpty then 0 else 1) < 30)) = true := by rfl)
    (hl2 : (apos2.endLine == cpos2.line) = true := by rfl) (hp2 : (backTo cpos2 (starEach [] X.env)).any (·.1) = false := by rfl)
    (hs1 : starEach [.Call (.Attribute (.Name y p2) "pop" apos2) [e] [] cpos2] X.env = (false, eval (.Call (.Attribute (.Name y p2) "pop" apos2) [e] [] cpos2) X.env) :: starEach [] X.env := by rfl)
    (hbase : attributeBase (.Name x p) "append" X.env (eval (.Name x p) X.env) = eval (.Name x p) X.env := by rfl)
    (hfew : ((backTo cpos (starEach [.Call (.Attribute (.Name y p2) "pop" apos2) [e] [] cpos2] X.env)).all (fun x => !x.1) && (backToKw cpos (keywordEach [] X.env)).all (fun x => x.1.isSome)
      && decide ([Expr.Call (.Attribute (.Name y p2) "pop" apos2) [e] [] cpos2].length + ([] : List Keyword).length + (if ([] : List Keyword).isEmpty then 0 else 1) < 30)) = true := by rfl)
    (hline : (apos.endLine == cpos.line) = true := by rfl) (hplain : (backTo cpos (starEach [] X.env)).any (·.1) = false := by rfl)
    (hs : swapsWith (.Call (.Attribute (.Name x p) "append" apos) [.Call (.Attribute (.Name y p2) "pop" apos2) [e] [] cpos2] [] cpos) none pos.line X.env = pure false := by rfl) :
    PSD C F0 H0 X (.Expr (.Call (.Attribute (.Name x p) "append" apos) [.Call (.Attribute (.Name y p2) "pop" apos2) [e] [] cpos2] [] cpos) pos) (dAppPop i j te) :=
  ⟨fun D D' δ l q => onOwn_mono (fun fs q => ⟨q.1, onOwn_mono (fun es q => he.mono δ _ _ (fun r q => onI_mono (fun n q => ⟨q.1, by
    have q2 := q.2
    split at q2
    · exact atSh_mono (fun d q => l.nx _ q) q2
    · exact q2⟩) q) q) q.2⟩) q,
   (ps_expr (pe_bm PySem.F.plainAttrs_list PySem.F.slot_list_append PySem.F.type_list_append mt_append (pe_var hi hxv hd hcd) (pa_cons
      (pe_bm PySem.F.plainAttrs_list PySem.F.slot_list_pop PySem.F.type_list_pop mt_popAt (pe_var hj hyv hd2 hcd2) (pa_cons he.run pa_nil hs0) hb2 hf2 hl2 hs0 hp2) pa_nil hs1) hbase hfew hline hs1 hplain) hs).imp fun D σ H q => by
    obtain ⟨δ, F, x, q⟩ := q
    obtain ⟨fs, e1, hz, q⟩ := onOwn_to q
    obtain ⟨es, e2, q⟩ := onOwn_to q
    obtain ⟨a, vs, bs, h1, h2, h3, _⟩ := x.lens1 (.refl x.bs) e1
    obtain ⟨b, ws, cs, g1, g2, g3, _⟩ := x.lens1 (.refl x.bs) e2
    refine ⟨.ref a, h1, .inl ⟨rfl, vs, SqL.of h2⟩, .ref b, g1, .inl ⟨rfl, ws, SqL.of g2⟩, δ, F, x.at0, he.mono δ _ _ (fun r q F' H' v g rr => ?_) q⟩
    obtain ⟨n, rfl, hn, q⟩ := onI_to rr q
    split at q
    · rename_i k hk
      unfold atSh at q
      split at q
      · rename_i d ed
        have x' := x.go g
        obtain ⟨b', ws', w, g1', g2', g3', g4', g5', x2, k2⟩ := x'.drop1 e2 ed
        rw [g1] at g1'
        cases g1'
        have e1' : (δ.set j (some (.own (es.eraseIdx k))))[i]? = some (some (.own fs)) := by rw [List.getElem?_set_ne (Ne.symm hij)]; exact e1
        obtain ⟨a', vs', bs', h1', h2', h3', nd, ta, tb, nf, nz, ob, put⟩ := x2.lens1 (.refl x2.bs) e1'
        rw [h1] at h1'
        cases h1'
        obtain ⟨x3, k3⟩ := put (vs' ++ [w]) (fs ++ [.sh d]) (bs' ++ []) (Reps.snoc h3' (.sh (Dq.mono k2 _ _ g5'))) (by rw [List.append_nil]; exact nd) (fun c m => by rw [List.append_nil] at m; exact .inl m)
        refine ⟨b, ws', n, k, w, rfl, rfl, g2', hn.1, hn.2, by rw [g3']; exact hk, g4', a, vs', w, rfl, rfl, h2', by rw [h3'.length]; exact hz, q σ F' _ x3 ((g.keep x.bs).trans (k2.trans k3))⟩
      · exact q.elim
    · exact q.elim⟩
/-- x[k] = e -/
def dSetIx (i : Nat) (tx te : DT) : DS := fun D δ => te δ fun r => match r.fx with
  | some dv => onOwn δ i fun es => tx δ fun y => onI y fun n => match ixN es.length n with
    | some j => D.nx (δ.set i (some (.own (es.set j dv))))
    | none => False
  | none => False
theorem s_setIx (i : Nat) {x : Str} {p pp : Pos} {ix : Expr} (hN : X.N[i]? = some x) (hv : Vis X.env.scope x) (hx : PD C X ix tx) (he : PD C X e te) (hd : (x == ("__debug__" : Str)) = false := by decide) (hcd : (x == ("__classdict__" : Str)) = false := by decide)
    (ha : ∀ v, assign (.Subscript (.Name x p) ix pp) X.env v = (do
      let ov ← holding [v] (eval (.Name x p) X.env)
      let iv ← holding [v, ov] (eval ix X.env)
      standAt pp
      holding [v, ov, iv] (setItem ov iv v)
      release [v, ov, iv] []) := by intro _; rfl)
    (hs : swapsWithSole [.Subscript (.Name x p) ix pp] e pos.line X.env = pure false := by rfl) (hw : swappedStores [.Subscript (.Name x p) ix pp] e X.env = pure none := by rfl)
    (h1 : (assignEach [.Subscript (.Name x p) ix pp] X.env).map (·.2) = [assign (.Subscript (.Name x p) ix pp) X.env] := by rfl) :
    PSD C F0 H0 X (.Assign [.Subscript (.Name x p) ix pp] e pos) (dSetIx i tx te) :=
  ⟨fun D D' δ l q => he.mono δ _ _ (fun r q => by
    cases e : r.fx with
    | none => rw [e] at q; exact q
    | some dv =>
      rw [e] at q
      refine onOwn_mono (fun es q => hx.mono δ _ _ (fun y q => onI_mono (fun n q => ?_) q) q) q
      split at q
      · exact l.nx _ q
      · exact q) q,
   (ps_asg he.run (pg_sub (pe_var hN hv hd hcd) hx.run set_list ha) hs hw h1).imp fun D σ H q => by
    obtain ⟨δ, F, x, q⟩ := q
    refine ⟨δ, F, x.at0, he.mono δ _ _ (fun r q F1 H1 v g rr => ?_) q⟩
    split at q
    · rename_i dv ed
      obtain ⟨es, e1, q⟩ := onOwn_to q
      obtain ⟨a, vs, bs, z1, _⟩ := x.lens1 (.refl x.bs) e1
      refine ⟨.ref a, z1, δ, F1, (x.go g).at0, hx.mono δ _ _ (fun y q F2 H2 w g' rr' => ?_) q⟩
      obtain ⟨n, rfl, q⟩ := onI_to rr' q
      split at q
      · rename_i j hj
        have gg := g.trans x.bs g'
        have rv := (RR.go g.ok (fun a n => x.bs.nzn n) g' rr).fx g'.ok ed
        obtain ⟨a', vs', bs', h1', h2', h3', nd, ta, tb, nf, nz, ob, put⟩ := x.lens1 gg e1
        rw [z1] at h1'
        cases h1'
        obtain ⟨cs, q1, q2, q3⟩ := rv
        have jl := (ixN_seq hj).2.1
        obtain ⟨as2, r2, ks, pm, sb⟩ := Reps.set j h3' q1 jl
        have apart : ∀ c ∈ cs, c ∉ a :: bs' := fun c m m' => by
          rcases List.mem_cons.mp m' with rfl | m'
          · obtain ⟨u, w⟩ := ta
            rw [(q3 c m).2] at w; cases w
          · obtain ⟨u, w⟩ := tb c m'
            rw [(q3 c m).2] at w; cases w
        obtain ⟨x2, k2⟩ := put _ _ as2 r2 (List.nodup_cons.mpr ⟨fun m => by
          rcases List.mem_append.mp (pm.mem_iff.mp m) with m | m
          · exact apart a m List.mem_cons_self
          · exact (List.nodup_cons.mp nd).1 (sb.subset m), (pm.nodup_iff).mpr (List.nodup_append.mpr ⟨q2, (List.nodup_cons.mp nd).2.sublist sb, fun c m c' m' w => apart c m (List.mem_cons_of_mem _ (w ▸ sb.subset m'))⟩)⟩) (fun b m => by
          rcases List.mem_append.mp (pm.mem_iff.mp m) with m | m
          · exact .inr ⟨(q3 b m).2, (q3 b m).1⟩
          · exact .inl (sb.subset m))
        exact ⟨a, vs', n, j, rfl, rfl, h2', by rw [h3'.length]; exact hj, q σ F2 _ x2 k2⟩
      · exact q.elim
    · exact q.elim⟩
end
end DL
set_option Elab.async false
set_option linter.all false
set_option maxRecDepth 100000
set_option maxHeartbeats 1000000
namespace DL
open PySem PySem.Spec L2
open PyProof.Rows hiding St
/-! ### a def that is called where no guard runs -/
structure FnG (P : Program) (w : World) (K : PySem.W.Frag) (mg : Str → Option Value) (base : Heap) (CX : CXT) (k : Nat) (f : Addr) (fd : FuncData) (ps : List Str) (sp : Sp) : Prop where
  len : ∀ vs H Q E, sp vs H Q E → vs.length = ps.length
  run : ∀ (A : Around) (fr : List Env) (s : Shared) (H : Hp) (args : Args) (us : List Value) (vs : List V) (Q : VK) (E : XK), A.guards = some [] → Room k A →
    Env0 P w K mg base A fr s H → BindsTo s fd args (ps.zip us) → Vals vs us → sp vs H Q E → codeAny (model P w) A (.call (.ref f) args) (CR CX fr P w H s Q E) s
section
variable {P : Program} {w : World} {K : PySem.W.Frag} {mg : Str → Option Value} {base : Heap} {CX : CXT} {k j : Nat} {f : Addr} {fd : FuncData} {ps : List Str} {sp sp' : Sp}
theorem FnG.mono (h : FnG P w K mg base CX j f fd ps sp) (l : j ≤ k) : FnG P w K mg base CX k f fd ps sp :=
  ⟨h.len, fun A fr s H args us vs Q E hg hr => h.run A fr s H args us vs Q E hg (hr.mono l)⟩
theorem FnG.imp (h : FnG P w K mg base CX k f fd ps sp) (i : ∀ vs H Q E, sp' vs H Q E → sp vs H Q E) : FnG P w K mg base CX k f fd ps sp' :=
  ⟨fun vs H Q E q => h.len vs H Q E (i _ _ _ _ q), fun A fr s H args us vs Q E hg hr e0 hb rv q => h.run A fr s H args us vs Q E hg hr e0 hb rv (i _ _ _ _ q)⟩
theorem FnG.of (h : FnOk P w K mg base CX k f fd ps sp) : FnG P w K mg base CX k f fd ps sp :=
  ⟨h.len, fun A fr s H args us vs Q E _ hr => h.run A fr s H args us vs Q E hr⟩
/-- the body, run where no guard runs -/
theorem fnG_of {x qual : Str} {st : Stmt} {N : List Str} (F : Fun K x qual st f fd) (S : FnScope N ps (defScope st)) (len : ∀ vs H Q E, sp vs H Q E → vs.length = ps.length)
    (body : ∀ (cdv : Value) (A : Around) (fr : List Env) (s : Shared) (H : Hp) (vs : List V) (Q : VK) (E : XK), (A.deeper (envOfC qual (defScope st) s.heap.objs.size f cdv)).guards = some [] → Room k (A.deeper (envOfC qual (defScope st) s.heap.objs.size f cdv)) → sp vs H Q E →
      ∃ t, PSs (cxOf CX P w K mg base N qual (defScope st) f cdv A fr s H E) (defBody st) t ∧ t { nx := fun _ H' => Q .non H', rt := Q } (L2.start N vs) H) : FnG P w K mg base CX (k + 1) f fd ps sp := by
  obtain ⟨oc, od, kV, doc, pm, an, cdv, ct, osl, rfl, lk, hcd⟩ := F.ex
  refine ⟨len, fun A fr s H args us vs Q E hg hr e0 hb rv q => ?_⟩
  have inK : K.In s.heap := e0.mod.kin.keeps fun c o z => (e0.bs c o z).1
  have nol : s.heap.NoLimit := e0.mod.nolimit.keeps fun c o z => (e0.bs c o z).1
  refine codeAny_call_function hr.depth (inK _ _ lk) rfl S.co S.gen rfl (PySem.W.codeRec_of inK hcd) (hb _ _ _ _ ?_)
  refine wpAny_newFunctionEnv_cells S.kind (fun y my => ?_) fun env ee s1 y => ?_
  · obtain ⟨n, u⟩ := y
    rcases S.par n (List.of_mem_zip my).1 with z | z
    · exact .inl z
    · exact .inr ⟨z, PySem.W.cellsFrom_some _ _ _ (.inl z)⟩
  · subst ee
    refine ⟨nol.keeps y.toInCall.keep, codeAny_func ?_⟩
    obtain ⟨t, pt, tq⟩ := body cdv A fr s H vs Q E hg (hr.deeper _) q
    have I0 := inv_start (CX := CX) (P := P) (w := w) (mg := mg) (base := base) (N := N) (E := E) S hr.hd e0 (len _ _ _ _ q) rv y
    refine wpAny_mono (pt.run [] s1 _ H _ I0 tq) (fun fl s2 back => ?_) fun _ _ z => z
    cases fl with
    | next =>
      obtain ⟨σ2, H2, J2, z⟩ := back
      exact ⟨V.non, H2, J2.os, J2.bare, J2.base, J2.hok, rfl, z⟩
    | ret u =>
      obtain ⟨v2, σ2, H2, J2, r2, z⟩ := back
      exact ⟨v2, H2, J2.os, J2.bare, J2.base, J2.hok, r2, z⟩
    | brk =>
      obtain ⟨_, _, _, z⟩ := back
      exact z.elim
    | cont =>
      obtain ⟨_, _, _, z⟩ := back
      exact z.elim
end
/-! ### calls, by values -/
section
variable {X : Cx} {CX : CXT} {k : Nat} {f : Addr} {fd : FuncData} {ps ks : List Str} {sp : Sp} {dvs : List V} {ds : List Value} {E : XK} {x : Str} {p pos : Pos} {e : Expr} {es : List Expr} {kws : List Keyword} {t tk : TA} {g : List Value → List Value → List Value} {gV : List V → List V → List V}
theorem goG {pins : List (Addr × Obj)} {σ : St} {H : Hp} {s : Shared} {Q : VK} {us ws : List Value} {vs zs : List V} (F : FnG X.prog X.w X.K X.mg X.base CX k f fd ps sp) (hg : X.A.guards = some []) (hr : Room k X.A) (hb : KBinds X.K fd ps ks g gV) (hx : Passes CX X E)
    (I : Inv X pins σ H s) (r : Vals vs us) (rz : Vals zs ws) (h : sp (gV vs zs) H Q E) : wpAny (model X.prog X.w) X.A (call (.ref f) us (ks.zip ws)) (EP X pins σ Q) X.xe s := by
  have rr := hb.rel r rz
  have hl : (g us ws).length = ps.length := rr.length.symm.trans (F.len _ _ _ _ h)
  refine wpAny_call (codeAny_mono (F.run X.A X.stack s H ⟨us, ks.zip ws⟩ (g us ws) (gV vs zs) Q E hg hr I.env0 (hb.to s us ws I.kIn hl) rr h) fun res s2 back => ?_)
  match res, back with
  | .error e, back => exact hx pins σ H s e s2 I back
  | .ok (.ret u), back => exact I.after back
theorem pe_callG (F : FnG X.prog X.w X.K X.mg X.base CX k f fd ps sp) (gu : X.A.guards = some []) (hr : Room k X.A) (hm : X.mg x = some (.ref f)) (hk : PySem.W.keepIn X.K (.ref f) = true) (hb : KBinds X.K fd ps [] g gV) (hx : Passes CX X E)
    (ha : PA X (e :: es) t) (hg : Gl X x := by rfl) (hdb : (x == ("__debug__" : Str)) = false := by decide) (he : starEach (e :: es) X.env = (false, eval e X.env) :: starEach es X.env := by rfl) (hpl : (backTo pos (starEach es X.env)).any (·.1) = false := by rfl) :
    PE X (.Call (.Name x p) (e :: es) [] pos) (tCallK sp gV E t tNil) := by
  refine ⟨fun pins s σ H Q I h => wpAny_Call_Name_kw (ld_glob I hg hm ?_ hdb)⟩
  refine PySem.W.callWith_K (h₀ := X.base) I.ok.mod.kin hk (thn (ha.run pos pins s σ H _ I h) fun us s1 ⟨vs, H1, J1, r, q⟩ => ⟨J1.kIn, ?_⟩) he hpl
  exact goG (ks := []) (ws := []) F gu hr hb hx J1 r .nil q
theorem pe_callK0G (F : FnG X.prog X.w X.K X.mg X.base CX k f fd ps sp) (gu : X.A.guards = some []) (hr : Room k X.A) (hm : X.mg x = some (.ref f)) (hk : PySem.W.keepIn X.K (.ref f) = true) (hb : KBinds X.K fd ps ks g gV) (hx : Passes CX X E)
    (hkw : L2.PK X kws tk) (hg : Gl X x := by rfl) (hall : (backToKw pos (keywordEach kws X.env)).all (·.1.isSome) = true := by rfl) (hks : (backToKw pos (keywordEach kws X.env)).filterMap (·.1) = ks := by rfl)
    (hdb : (x == ("__debug__" : Str)) = false := by decide)
    (hpl : ((backTo pos (starEach [] X.env)).any (·.1) || (backToKw pos (keywordEach kws X.env)).any (·.1.isNone)) = false := by rfl) :
    PE X (.Call (.Name x p) [] kws pos) (tCallK sp gV E tNil tk) := by
  refine ⟨fun pins s σ H Q I h => wpAny_Call_Name_kw (ld_glob I hg hm ?_ hdb)⟩
  refine PySem.W.callWith_KW0 (h₀ := X.base) I.ok.mod.kin hk hall (thn (hkw.run pos pins s σ H _ I h) fun ws s1 ⟨zs, H1, J1, rz, q⟩ => ⟨J1.kIn, ?_⟩) hpl
  rw [hks]
  exact goG (us := []) F gu hr hb hx J1 .nil rz q
end
/-! ### a def's promise by data -/
abbrev Sg := List DV → (DV → Prop) → Prop
/-- no exception: g of the arguments comes to the wanted -/
def spD (C : Zn) (K : PySem.W.Frag) (g : Sg) : Sp := fun vs H Q _ => ∃ F ds, Bs C F H ∧ Reps K C F H vs ds [] ∧ g ds fun dv => ∀ F' H' v, Go C F H F' H' → RR K C F' H H' v (.val dv) → Q v H'
def MonoG (g : Sg) : Prop := ∀ ds Q Q', (∀ d, Q d → Q' d) → g ds Q → g ds Q'
def startD (N : List Str) (ds : List DV) : DE := ds.map some ++ List.replicate (N.length - ds.length) none
theorem Envs.start {K : PySem.W.Frag} {C : Zn} {F : Addr → Prop} {H : Hp} {n : Nat} : ∀ {vs : List V} {ds : List DV} {as : List Addr}, Reps K C F H vs ds as → Envs K C F H (vs.map some ++ List.replicate n none) (ds.map some ++ List.replicate n none) as
  | _, _, _, .nil => by
    have : ∀ n : Nat, Envs K C F H (List.replicate n none) (List.replicate n none) [] := fun n => by
      induction n with
      | zero => exact .nil
      | succ n ih => rw [List.replicate_succ, List.replicate_succ]; exact .off ih
    exact this n
  | _, _, _, .cons r t => .on r (Envs.start t)
section
variable {P : Program} {w : World} {K : PySem.W.Frag} {mg : Str → Option Value} {base : Heap} {k : Nat} {f : Addr} {fd : FuncData} {ps N : List Str} {C : Zn} {g : Sg}
/-- THE RULE for a def -/
theorem fnD_ok {x qual : Str} {st : Stmt} (F : Fun K x qual st f fd) (S : FnScope N ps (defScope st)) (len : ∀ ds Q, g ds Q → ds.length = ps.length)
    (body : ∀ (cdv : Value) (A : Around) (fr : List Env) (s : Shared) (H : Hp) (E : XK) (F0 : Addr → Prop), (A.deeper (envOfC qual (defScope st) s.heap.objs.size f cdv)).guards = some [] → Room k (A.deeper (envOfC qual (defScope st) s.heap.objs.size f cdv)) →
      ∃ t, PSSD C F0 H (cxOf CX0 P w K mg base N qual (defScope st) f cdv A fr s H E).nox (defBody st) t ∧ ∀ ds Q, g ds Q → t { nx := fun _ => Q (.sh .none), rt := Q } (startD N ds)) : FnG P w K mg base CX0 (k + 1) f fd ps (spD C K g) := by
  refine fnG_of F S (fun vs H Q E h => ?_) fun cdv A fr s H vs Q E hg hr h => ?_
  · obtain ⟨F0, ds, b, r, q⟩ := h
    rw [r.length]; exact len _ _ q
  · obtain ⟨F0, ds, b, r, q⟩ := h
    obtain ⟨t, pt, tq⟩ := body cdv A fr s H E F0 hg hr
    refine ⟨_, pt.run.nox, ?_⟩
    have hl : vs.length = ds.length := r.length
    refine ⟨startD N ds, F0, ⟨b, .refl b, [], ?_, List.nodup_nil, fun _ m => by cases m⟩, ?_⟩
    · unfold L2.start startD
      rw [hl]
      exact Envs.start r
    · refine pt.mono.ap (tq ds _ q) ⟨fun δ q σ' F' H' x k => ?_, fun dv q v F' H' g rr => q F' H' v g rr, fun δ q => q.elim, fun δ q => q.elim⟩
      exact q F' H' .non x.2.1 (.sh .non)
end
section
variable {C : Zn} {X : Cx} {k : Nat} {f : Addr} {fd : FuncData} {ps ks : List Str} {x : Str} {p pos : Pos} {e : Expr} {es : List Expr} {kws : List Keyword} {g : Sg} {t tk : DL'} {gv : List Value → List Value → List Value} {gV : List V → List V → List V}
/-- a call of a def: the arguments given away -/
def dCall (g : Sg) (t : DL') : DT := fun δ Q => t δ fun rs => match arL rs with
  | some ds => g ds fun dv => Q (.val dv)
  | none => False
theorem mono_call (mg : MonoG g) (h : Mono t) : Mono (dCall g t) := fun δ Q Q' m q => h δ _ _ (fun rs q => by
  cases e : arL rs with
  | none => rw [e] at q; exact q
  | some ds => rw [e] at q; exact mg _ _ _ (fun d q => m _ q) q) q
theorem call_to {K : PySem.W.Frag} (m : Mono t) (m' : MonoG g) {σ : St} {H : Hp} {Q : VK} (h : lift C K (dCall g t) σ H Q) : liftL C K t σ H fun vs H1 => spD C K g vs H1 Q E0 := by
  obtain ⟨δ, F, x, h⟩ := h
  refine ⟨δ, F, x, m δ _ _ (fun rs q F1 H1 vs g1 rrs => ?_) h⟩
  split at q
  · rename_i ds e
    obtain ⟨F2, g2, _, _, ar⟩ := rrs.away x.bs g1
    refine ⟨F2, ds, g2.ok, ar ds e, m' _ _ _ (fun dv q F' H' v gg rr => q F' H' v (g2.trans x.bs gg) (rr.older x.bs g2)) q⟩
  · exact q.elim
theorem binds_k (hb : Binds X.K fd ps []) : KBinds X.K fd ps [] (fun us _ => us) (fun vs _ => vs) :=
  ⟨fun s us ws kin hl => by
    have := hb s us kin (by simpa using hl)
    simpa using this, fun r _ => r⟩
theorem d_call (F : FnG X.prog X.w X.K X.mg X.base CX0 k f fd ps (spD C X.K g)) (mg : MonoG g) (gu : X.A.guards = some []) (hr : Room k X.A) (hx : Passes CX0 X E0) (hm : X.mg x = some (.ref f)) (hk : PySem.W.keepIn X.K (.ref f) = true) (hb : Binds X.K fd ps [])
    (ha : PDL C X (e :: es) t) (hg : Gl X x := by rfl) (hdb : (x == ("__debug__" : Str)) = false := by decide) (he : starEach (e :: es) X.env = (false, eval e X.env) :: starEach es X.env := by rfl) (hpl : (backTo pos (starEach es X.env)).any (·.1) = false := by rfl) :
    PD C X (.Call (.Name x p) (e :: es) [] pos) (dCall g t) :=
  ⟨mono_call mg ha.mono, (pe_callG F gu hr hm hk (binds_k hb) hx ha.run hg hdb he hpl).imp fun σ H Q h => call_to ha.mono mg h⟩
/-- keywords: the values in the order in which they are written -/
structure PDK (C : Zn) (X : Cx) (kws : List Keyword) (t : DL') : Prop where
  mono : Mono t
  run : L2.PK X kws (liftL C X.K t)
theorem k_nil : PDK C X [] dNil := ⟨fun _ _ _ h q => h _ q, ⟨fun pos pins s σ H Q I h => pk_nil.run pos pins s σ H Q I (by
  obtain ⟨δ, F, x, h⟩ := h
  exact h F H [] (.refl x.bs) .nil)⟩⟩
theorem k_cons {te : DT} {nm : Option Str} {kp : Pos} (ha : PD C X e te) (hr : PDK C X kws t) : PDK C X (⟨nm, e, kp⟩ :: kws) (dCons te t) :=
  ⟨fun δ Q Q' m q => ha.mono δ _ _ (fun r q => hr.mono δ _ _ (fun rs q => m _ q) q) q,
    ⟨fun pos pins s σ H Q I h => (pk_cons ha.run hr.run).run pos pins s σ H Q I (by
      obtain ⟨δ, F, x, h⟩ := h
      refine ⟨δ, F, x, ha.mono δ _ _ (fun r q F1 H1 v g rr => ⟨δ, F1, x.go g, hr.mono δ _ _ (fun rs q F2 H2 vs g' rrs => ?_) q⟩) h⟩
      exact q F2 H2 _ (g.trans x.bs g') (RRs.cons x.bs g g' rr rrs))⟩⟩
/-- f(k = e, ..): perm puts the values in the parameters' order -/
def dCallK (g : Sg) (perm : List DV → List DV) (t : DL') : DT := fun δ Q => t δ fun rs => match arL rs with
  | some ds => g (perm ds) fun dv => Q (.val dv)
  | none => False
structure Perms (K : PySem.W.Frag) (fd : FuncData) (ps ks : List Str) (pv : List V → List V) (pu : List Value → List Value) (perm : List DV → List DV) : Prop where
  binds : KBinds K fd ps ks (fun us ws => if us.isEmpty then pu ws else []) (fun vs zs => if vs.isEmpty then pv zs else [])
  reps : ∀ (C : Zn) (F : Addr → Prop) (H : Hp) (vs : List V) (ds : List DV), Reps K C F H vs ds [] → Reps K C F H (pv vs) (perm ds) []
theorem d_callK0 {perm : List DV → List DV} {pv : List V → List V} {pu : List Value → List Value} (F : FnG X.prog X.w X.K X.mg X.base CX0 k f fd ps (spD C X.K g)) (mg : MonoG g) (gu : X.A.guards = some []) (hr : Room k X.A) (hx : Passes CX0 X E0) (hm : X.mg x = some (.ref f)) (hk : PySem.W.keepIn X.K (.ref f) = true) (hb : Perms X.K fd ps ks pv pu perm)
    (hkw : PDK C X kws t) (hg : Gl X x := by rfl) (hall : (backToKw pos (keywordEach kws X.env)).all (·.1.isSome) = true := by rfl) (hks : (backToKw pos (keywordEach kws X.env)).filterMap (·.1) = ks := by rfl)
    (hdb : (x == ("__debug__" : Str)) = false := by decide)
    (hpl : ((backTo pos (starEach [] X.env)).any (·.1) || (backToKw pos (keywordEach kws X.env)).any (·.1.isNone)) = false := by rfl) :
    PD C X (.Call (.Name x p) [] kws pos) (dCallK g perm t) :=
  ⟨fun δ Q Q' m q => hkw.mono δ _ _ (fun rs q => by
    cases e : arL rs with
    | none => rw [e] at q; exact q
    | some ds => rw [e] at q; exact mg _ _ _ (fun d q => m _ q) q) q, (pe_callK0G F gu hr hm hk hb.binds hx hkw.run hg hall hks hdb hpl).imp fun σ H Q h => by
    obtain ⟨δ, F, x, h⟩ := h
    refine ⟨δ, F, x, hkw.mono δ _ _ (fun rs q F1 H1 vs g1 rrs => ?_) h⟩
    split at q
    · rename_i ds e
      obtain ⟨F2, g2, _, _, ar⟩ := rrs.away x.bs g1
      exact ⟨F2, perm ds, g2.ok, hb.reps C F2 H1 vs ds (ar ds e), mg _ _ _ (fun dv q F' H' v gg rr => q F' H' v (g2.trans x.bs gg) (rr.older x.bs g2)) q⟩
    · exact q.elim⟩
end
/-! ### the law's end -/
theorem law_G {P : Program} {w : World} {K : PySem.W.Frag} {mg mb : Str → Option Value} {k : Nat} {fa a : Addr} {fd : FuncData} {x : Str} {sp : Sp} {s1 : Shared} {us : List Value} {ns : List Int}
    (inK : K.In s1.heap) (n1 : s1.heap.Ns mainGlobals mg) (n2 : s1.heap.Ns builtinsNs mb) (n3 : ∀ y : Str, y ≠ "__name__" → mb y = bootBuiltins y) (lim : s1.heap.NoLimit) (gn : s1.gens = #[])
    (ha : s1.heap.get? a = some { cls := .type "list", data := .seq us.toArray }) (hi : IntsAre us ns) (hz : ns.length ≤ sizeLine) (hr : Room k callerA)
    (F : ∀ base : Heap, K.In base → base.Ns mainGlobals mg → FnG P w K mg base CX0 k fa fd [x] sp) (hb : ∀ (s : Shared) (u : Value), BindsTo s fd ⟨[u], []⟩ [(x, u)])
    (hsp : ∀ H : Hp, Only H → SqL K H a (ns.map V.int) → sp [.ref a] H (fun v _ => v = .bl true) E0) :
    codeAny (model P w) callerA (.call (.ref fa) ⟨[.ref a], []⟩) (fun r s' => r = .ok (.ret (.bool true)) ∧ OldK s1.heap s'.heap ∧ s'.os = s1.os ∧ AllBare s'.gens) s1 := by
  have ru := vals_ints hi
  -- H: nothing is tracked but, at most, the script
  have main : ∀ H : Hp, Only H → SqL K H a (ns.map V.int) → HOk P w H s1.heap → (∀ c, H c ≠ none → c = a) → (H a ≠ none → K.lookup a = none) →
      codeAny (model P w) callerA (.call (.ref fa) ⟨[.ref a], []⟩) (fun r s' => r = .ok (.ret (.bool true)) ∧ OldK s1.heap s'.heap ∧ s'.os = s1.os ∧ AllBare s'.gens) s1 := by
    intro H only sq ok alone notK
    have dictFree : ∀ {c : Addr} {o : Obj} {es : Array DictEntry} {n : Nat}, s1.heap.get? c = some o → o.data = .dict es n → H c = none := fun {c o es n} g d => by
      cases z : H c with
      | none => rfl
      | some t =>
        obtain rfl := alone c (by rw [z]; simp)
        rw [ha] at g
        cases g
        cases (show Data.seq us.toArray _ = Data.dict es n from d)
    have names : ∀ {c : Addr} {m : Str → Option Value}, s1.heap.Ns c m → (hidT s1.heap H).Ns c m := fun {c m} n => by
      obtain ⟨o, es, ep, g, d, t⟩ := n
      exact ⟨o, es, ep, hidT_get g (dictFree g d), d, t⟩
    have kin : K.In (hidT s1.heap H) := fun c o g => hidT_get (inK c o g) (by
      cases z : H c with
      | none => rfl
      | some t =>
        have ca := alone c (by rw [z]; simp)
        subst ca
        rw [notK (by rw [z]; simp)] at g
        cases g)
    obtain ⟨ml, l1, l2⟩ := id lim
    have md : Mod K mg (hidT s1.heap H) := ⟨kin, names n1, ⟨mb, names n2, n3⟩, ⟨ml, names l1, l2⟩⟩
    have nofr : ∀ c : Addr, c ∉ frs ([] : List Env) := fun c z => absurd (show c ∈ ([] : List Addr) from z) (by simp)
    have e0 : Env0 P w K mg (hidT s1.heap H) callerA [] s1 H := ⟨rfl, md, fun c o g => of_hidT g, Nat.le_of_eq (hidT_size _ _), trivial, fun c z => absurd z (nofr c), ok, .of_eq gn⟩
    refine codeAny_mono ((F _ kin (names n1)).run callerA [] s1 H ⟨[.ref a], []⟩ [.ref a] [.ref a] (fun v _ => v = .bl true) E0 rfl hr e0 (hb s1 (.ref a)) (.cons rfl .nil) (hsp H only sq)) fun r s' back => ?_
    match r, back with
    | .error _, back => exact False.elim back
    | .ok (.ret u), back =>
      obtain ⟨v, H', os, bare, un, ok', rv, rfl⟩ := back
      have eu : u = Value.bool true := rv
      refine ⟨by rw [eu], .of_keep fun c o g => ?_, os, bare⟩
      cases z : H c with
      | none => exact un.keep c o g z (nofr c) (by simp)
      | some t =>
        rcases only c with q | ⟨ob, xs, q⟩
        · rw [z] at q; cases q
        · obtain ⟨p1, _⟩ := ok c _ q
          obtain ⟨p2, _⟩ := ok' c _ (un.frzs c ob _ q)
          rw [g] at p1
          cases p1
          exact p2
  by_cases hk : K.lookup a = none
  · refine main (fun c => if c = a then some (.frz { cls := .type "list", data := .seq us.toArray } (.lst (ns.map V.int))) else none) (fun c => ?_) (.inl (.inr ⟨_, if_pos rfl⟩)) (fun c t z => ?_) (fun c z => ?_) fun _ => hk
    · by_cases e : c = a
      · exact .inr ⟨_, _, if_pos e⟩
      · exact .inl (if_neg e)
    · by_cases e : c = a
      · subst e
        have z' := (if_pos rfl).symm.trans z
        cases z'
        exact ⟨ha, by rw [List.length_map]; exact hz, us, _, ru, ha⟩
      · have z' := (if_neg e).symm.trans z
        cases z'
    · by_cases e : c = a
      · exact e
      · exact absurd (if_neg e) z
  · obtain ⟨o, eo⟩ := Option.ne_none_iff_exists'.mp hk
    have g := inK a o eo
    rw [ha] at g
    cases g
    refine main (fun _ => none) (fun _ => .inl rfl) (.inr ⟨_, us.toArray, _, eo, rfl, rfl, rfl, by rw [List.size_toArray, hi.length]; exact hz, by simpa using ru⟩) (fun c t z => ?_) (fun c z => absurd rfl z) fun z => absurd rfl z
    have z' : (none : Option HO) = some t := z
    cases z'
theorem walk_G {l : PySem.W.OpenLaw} {n k : Nat} {q : Program} {loose : List Str} {XP : (Str → Option Value) → Heap → Prop} {YP : World → Heap → Prop} {d : DefRec} {K : Params → PySem.W.Frag} {sp : World → Sp} {x : Str}
    (hn : l.most = some n) (hn2 : n ≤ sizeLine) (hdf : d.params.defaults = []) (hr : Room k callerA) (hY : ∀ (w : World) (h : Heap), YP w h → (K w.params).In h)
    (F : ∀ (w : World) (mg : Str → Option Value) (fa : Addr) (h : Heap), (K w.params).In h → h.Ns mainGlobals mg → mg d.name = some (.ref fa) →
      ∃ fd : FuncData, (∀ (s : Shared) (u : Value), BindsTo s fd ⟨[u], []⟩ [(x, u)]) ∧ ∀ base : Heap, (K w.params).In base → base.Ns mainGlobals mg → FnG l.prog w (K w.params) mg base CX0 k fa fd [x] (sp w))
    (hsp : ∀ (w : World) (H : Hp) (a : Addr) (ns : List Int), ns.length ≤ n → Only H → SqL (K w.params) H a (ns.map V.int) → sp w [.ref a] H (fun v _ => v = .bl true) E0) :
    PySem.W.WalkO q loose XP YP l.row.toRowW d [] (fun f vs => PySem.call f vs) :=
  Att.attach_call hn hdf fun w s0 s1 mg mb fa o pm cd doc a vs ns G Y ho hd hcd hmg hobj hints hlen hgn => by
    have kx := hY w _ Y
    obtain ⟨fd, bd, ff⟩ := F w mg fa _ kx G.T.g hmg
    exact law_G kx G.T.g G.T.b G.T.builtins G.T.nolimit hgn hobj hints (Nat.le_trans hlen hn2) hr ff bd fun H h1 h2 => hsp w H a ns hlen h1 h2
end DL
set_option Elab.async false
set_option linter.all false
set_option maxRecDepth 100000
set_option maxHeartbeats 1000000
namespace DL
open PySem PySem.Spec L2
open PyProof.Rows hiding St
open PySem.W (alike dataLt dataLe AllAlike Sortable EachIs)
/-! ### from data to the library's reading -/
abbrev Any : Addr → Prop := fun _ => True
section
variable {X : Cx} {pins : List (Addr × Obj)} {σ : St} {H : Hp} {s : Shared} {G : Addr → Prop}
mutual
theorem Dq.reads (I : Inv X pins σ H s) : ∀ (d : D) (v : V) (u : Value), Dq X.K G H v d → RelV v u → ∃ as, Reads s.heap u d as
  | .none, _, _, h, r => by cases h; cases r; exact ⟨_, .none⟩
  | .bool b, _, _, h, r => by cases h; cases r; exact ⟨_, .bool b⟩
  | .int i, _, _, h, r => by
    cases h
    obtain ⟨t, rfl⟩ := r
    exact ⟨_, .int i t⟩
  | .str x, _, _, h, r => by
    cases h
    obtain ⟨t, rfl⟩ := r
    exact ⟨_, .str x t⟩
  | .list ds, _, _, h, r => by
    cases h with
    | lst h1 h2 =>
      cases r
      obtain ⟨its, rv, ⟨o, n, ho, hc, _, hd⟩, _⟩ := I.list h1.sq
      obtain ⟨as, q⟩ := DqAll.reads I ds _ its h2 rv
      exact ⟨_, .list ho hc hd q⟩
  | .tuple ds, _, _, h, r => by
    cases h with
    | tup h1 h2 =>
      cases r
      obtain ⟨its, rv, ⟨o, ho, hc, n, hd⟩, _⟩ := I.tuple h1
      obtain ⟨as, q⟩ := DqAll.reads I ds _ its h2 rv
      exact ⟨_, .tuple ho hc hd q⟩
  | .dict _, _, _, h, _ => by cases h
theorem DqAll.reads (I : Inv X pins σ H s) : ∀ (ds : List D) (vs : List V) (us : List Value), DqAll X.K G H vs ds → Vals vs us → ∃ as, ReadsAll s.heap us ds as
  | [], _, _, h, r => by cases h; cases r; exact ⟨_, .nil⟩
  | d :: ds, _, _, h, r => by
    cases h with
    | cons h1 h2 =>
      cases r with
      | cons r1 r2 =>
        obtain ⟨as, q1⟩ := Dq.reads I d _ _ h1 r1
        obtain ⟨bs, q2⟩ := DqAll.reads I ds _ _ h2 r2
        exact ⟨_, .cons q1 q2⟩
end
end
mutual
theorem Dq.plain {K : PySem.W.Frag} {G : Addr → Prop} {H : Hp} : ∀ (d : D) (v : V), Dq K G H v d → d.plain = true
  | .none, _, _ => by rw [PyData.plain]
  | .bool _, _, _ => by rw [PyData.plain]
  | .int _, _, _ => by rw [PyData.plain]
  | .str _, _, _ => by rw [PyData.plain]
  | .list ds, _, h => by
    cases h with
    | lst h1 h2 => rw [PyData.plain]; exact DqAll.plain ds _ h2
  | .tuple ds, _, h => by
    cases h with
    | tup h1 h2 => rw [PyData.plain]; exact DqAll.plain ds _ h2
  | .dict _, _, h => by cases h
theorem DqAll.plain {K : PySem.W.Frag} {G : Addr → Prop} {H : Hp} : ∀ (ds : List D) (vs : List V), DqAll K G H vs ds → PyData.plainAll ds = true
  | [], _, _ => by rw [PyData.plainAll]
  | d :: ds, _, h => by
    cases h with
    | cons h1 h2 => rw [PyData.plainAll, Dq.plain d _ h1, DqAll.plain ds _ h2]; rfl
end
mutual
theorem Dq.noDict {K : PySem.W.Frag} {G : Addr → Prop} {H : Hp} : ∀ (d : D) (v : V), Dq K G H v d → d.hasDict = false
  | .none, _, _ => by rw [PyData.hasDict]
  | .bool _, _, _ => by rw [PyData.hasDict]
  | .int _, _, _ => by rw [PyData.hasDict]
  | .str _, _, _ => by rw [PyData.hasDict]
  | .list ds, _, h => by
    cases h with
    | lst h1 h2 => rw [PyData.hasDict]; exact DqAll.noDict ds _ h2
  | .tuple ds, _, h => by
    cases h with
    | tup h1 h2 => rw [PyData.hasDict]; exact DqAll.noDict ds _ h2
  | .dict _, _, h => by cases h
theorem DqAll.noDict {K : PySem.W.Frag} {G : Addr → Prop} {H : Hp} : ∀ (ds : List D) (vs : List V), DqAll K G H vs ds → PyData.hasDictAll ds = false
  | [], _, _ => by rw [PyData.hasDictAll]
  | d :: ds, _, h => by
    cases h with
    | cons h1 h2 => rw [PyData.hasDictAll, Dq.noDict d _ h1, DqAll.noDict ds _ h2]; rfl
end
theorem Dq.anyG {K : PySem.W.Frag} {G : Addr → Prop} {H : Hp} {d : D} {v : V} (h : Dq K G H v d) : Dq K Any H v d := Dq.mono (.weak fun _ _ => trivial) d v h
/-! ### comparisons of data -/
/-- a relation of two data, under a side condition -/
def qRel (K : PySem.W.Frag) (side : D → D → Prop) (res : D → D → Bool) : R2 := fun x y H Q => ∃ d e, Dq K Any H x d ∧ Dq K Any H y e ∧ side d e ∧ Q (.bl (res d e)) H
def fRel (side : D → D → Prop) (res : D → D → Bool) : D → D → (R → Prop) → Prop := fun d e Q => side d e ∧ Q (.val (.sh (.bool (res d e))))
theorem lk_rel {C : Zn} {K : PySem.W.Frag} {side : D → D → Prop} {res : D → D → Bool} : Lk2 C K (qRel K side res) (fRel side res) :=
  ⟨fun d e Q Q' m q => ⟨q.1, m _ q.2⟩, fun F H v w d e Q Q' b h1 h2 q k => ⟨d, e, h1.anyG, h2.anyG, q.1, k _ _ F H (.refl b) (.sh (.bl _)) q.2⟩⟩
/-- shallow enough -/
def sDep (d e : D) : Prop := min d.depth e.depth ≤ 60
def sLt (d e : D) : Prop := alike d e = true ∧ d ≠ .none ∧ min d.depth e.depth ≤ 60
def rEqv (d e : D) : Bool := match d, e with
  | .int i, .int j => decide (i = j)
  | .str i, .str j => decide (i = j)
  | d, e => PyData.eqv d e
def rLtD (d e : D) : Bool := match d, e with
  | .int i, .int j => decide (i < j)
  | d, e => dataLt d e
def rLeD (d e : D) : Bool := match d, e with
  | .int i, .int j => decide (i ≤ j)
  | d, e => !dataLt e d
theorem rEqv_eq (d e : D) : rEqv d e = PyData.eqv d e := by
  unfold rEqv
  split
  · rw [PyData.eqv]; rw [Bool.eq_iff_iff]; simp
  · rw [PyData.eqv]; rw [Bool.eq_iff_iff]; simp
  · rfl
theorem rLtD_eq (d e : D) : rLtD d e = dataLt d e := by
  unfold rLtD
  split
  · rw [PySem.W.dataLt_int]
  · rfl
theorem rLeD_eq (d e : D) : rLeD d e = !dataLt e d := by
  unfold rLeD
  split
  · rw [PySem.W.dataLt_int, PySem.W.not_lt_int]
  · rfl
section
variable {X : Cx}
theorem op_eqQ (hu : X.A.units + 64 < cLine) : OpR X (compareOp .Eq) (qRel X.K sDep rEqv) := by
  intro pins s σ H x y v u Q I rx ry h
  obtain ⟨d, e, hd, he, sd, q⟩ := h
  obtain ⟨as, r1⟩ := Dq.reads I d x v hd rx
  obtain ⟨bs, r2⟩ := Dq.reads I e y u he ry
  exact PySem.SeqAt.eq_plain r1 r2 (Dq.plain _ _ hd) (Dq.plain _ _ he) (by unfold sDep at sd; omega) ⟨.bl _, H, I, by rw [rEqv_eq]; rfl, q⟩
theorem op_neQ (hu : X.A.units + 64 < cLine) : OpR X (compareOp .NotEq) (qRel X.K sDep fun d e => !rEqv d e) := by
  intro pins s σ H x y v u Q I rx ry h
  obtain ⟨d, e, hd, he, sd, q⟩ := h
  obtain ⟨as, r1⟩ := Dq.reads I d x v hd rx
  obtain ⟨bs, r2⟩ := Dq.reads I e y u he ry
  exact PySem.SeqAt.ne_plain r1 r2 (Dq.plain _ _ hd) (Dq.plain _ _ he) (by unfold sDep at sd; omega) ⟨.bl _, H, I, by show L2.RelV (V.bl (!rEqv d e)) _; rw [rEqv_eq]; rfl, q⟩
theorem op_ltQ (hu : X.A.units + 64 < cLine) : OpR X (compareOp .Lt) (qRel X.K sLt rLtD) := by
  intro pins s σ H x y v u Q I rx ry h
  obtain ⟨d, e, hd, he, ⟨s1, s2, s3⟩, q⟩ := h
  obtain ⟨as, r1⟩ := Dq.reads I d x v hd rx
  obtain ⟨bs, r2⟩ := Dq.reads I e y u he ry
  exact PySem.W.lt_data r1 r2 s1 s2 (by omega) ⟨.bl _, H, I, by rw [rLtD_eq]; rfl, q⟩
theorem op_gtQ (hu : X.A.units + 64 < cLine) : OpR X (compareOp .Gt) (qRel X.K sLt fun d e => rLtD e d) := by
  intro pins s σ H x y v u Q I rx ry h
  obtain ⟨d, e, hd, he, ⟨s1, s2, s3⟩, q⟩ := h
  obtain ⟨as, r1⟩ := Dq.reads I d x v hd rx
  obtain ⟨bs, r2⟩ := Dq.reads I e y u he ry
  exact PySem.W.gt_data r1 r2 s1 s2 (by omega) ⟨.bl _, H, I, by show L2.RelV (V.bl (rLtD e d)) _; rw [rLtD_eq]; rfl, q⟩
theorem op_leQ (hu : X.A.units + 64 < cLine) : OpR X (compareOp .LtE) (qRel X.K sLt rLeD) := by
  intro pins s σ H x y v u Q I rx ry h
  obtain ⟨d, e, hd, he, ⟨s1, s2, s3⟩, q⟩ := h
  obtain ⟨as, r1⟩ := Dq.reads I d x v hd rx
  obtain ⟨bs, r2⟩ := Dq.reads I e y u he ry
  exact PySem.W.le_data r1 r2 s1 s2 (by omega) ⟨.bl _, H, I, by rw [rLeD_eq]; rfl, q⟩
/-- x in c -/
def sIn (d e : D) : Prop := match e with
  | .list ds => min (PyData.depthAll ds) d.depth ≤ 60
  | .tuple ds => min (PyData.depthAll ds) d.depth ≤ 60
  | _ => False
def rInD (d e : D) : Bool := match e with
  | .list ds => ds.any fun y => rEqv y d
  | .tuple ds => ds.any fun y => rEqv y d
  | _ => false
theorem any_eqv (ds : List D) (d : D) : (ds.any fun y => rEqv y d) = ds.any fun y => PyData.eqv y d := by
  congr 1
  funext y
  exact rEqv_eq y d
theorem op_notInQ (hu : X.A.units + 64 < cLine) : OpR X (compareOp .NotIn) (qRel X.K sIn fun d e => !rInD d e) := by
  intro pins s σ H x y v u Q I rx ry h
  obtain ⟨d, e, hd, he, sd, q⟩ := h
  obtain ⟨as, r1⟩ := Dq.reads I d x v hd rx
  obtain ⟨bs, r2⟩ := Dq.reads I e y u he ry
  have p1 := Dq.plain _ _ hd
  have p2 := Dq.plain _ _ he
  unfold sIn at sd
  split at sd
  · rw [PyData.plain] at p2
    exact PySem.SeqAt.notIn_list_data r2 r1 p2 p1 (by omega) ⟨.bl _, H, I, by show L2.RelV (V.bl (!rInD _ _)) _; rw [rInD, any_eqv]; rfl, q⟩
  · rw [PyData.plain] at p2
    exact PySem.SeqAt.notIn_tuple_data r2 r1 p2 p1 (by omega) ⟨.bl _, H, I, by show L2.RelV (V.bl (!rInD _ _)) _; rw [rInD, any_eqv]; rfl, q⟩
  · exact sd.elim
/-- is, is not: of None, of truth values -/
def sIs (d e : D) : Prop := match d, e with
  | _, .none => True
  | .bool _, .bool _ => True
  | _, _ => False
def rIsD (d e : D) : Bool := match d, e with
  | .none, .none => true
  | .bool a, .bool b => decide (a = b)
  | _, _ => false
theorem Dq.isNone {K : PySem.W.Frag} {G : Addr → Prop} {H : Hp} {x : V} {d : D} (h : Dq K G H x d) : decide (x = .non) = rIsD d .none := by
  cases h <;> rfl
theorem op_isNotQ : OpR X (compareOp .IsNot) (qRel X.K sIs fun d e => !rIsD d e) := by
  intro pins s σ H x y v u Q I rx ry h
  obtain ⟨d, e, hd, he, sd, q⟩ := h
  cases e with
  | none =>
    have hy : y = .non := by cases he; rfl
    exact op_notN pins s σ H x y v u Q I rx ry ⟨hy, by rw [Dq.isNone hd]; exact q⟩
  | bool b =>
    cases d with
    | bool a =>
      cases hd
      cases he
      exact op_notBl pins s σ H _ _ v u Q I rx ry ⟨a, b, rfl, rfl, q⟩
    | _ => exact sd.elim
  | _ => cases d <;> exact sd.elim
end
/-! ### arithmetic -/
/-- two whole numbers, under a side condition -/
def fI (side : Int → Int → Prop) (g : Int → Int → Int) : D → D → (R → Prop) → Prop := fun d e Q => match d, e with
  | .int i, .int j => side i j ∧ Q (.val (.sh (.int (g i j))))
  | _, _ => False
theorem lk_I {C : Zn} {K : PySem.W.Frag} {side : Int → Int → Prop} {g : Int → Int → Int} {cond : Int → Int → Prop} (hs : ∀ i j, side i j → cond i j) : Lk2 C K (rI cond fun i j => .int (g i j)) (fI side g) := by
  refine ⟨fun d e Q Q' m q => ?_, fun F H v w d e Q Q' b h1 h2 q k => ?_⟩
  · unfold fI at q ⊢
    split at q
    · exact ⟨q.1, m _ q.2⟩
    · exact q
  · unfold fI at q
    split at q
    · cases h1
      cases h2
      exact ⟨_, _, rfl, rfl, hs _ _ q.1, k _ _ F H (.refl b) (.sh (.int _)) q.2⟩
    · exact q.elim
def sT (_ _ : Int) : Prop := True
theorem lk_I0 {C : Zn} {K : PySem.W.Frag} {g : Int → Int → Int} : Lk2 C K (rI0 fun i j => .int (g i j)) (fI sT g) := by
  refine ⟨fun d e Q Q' m q => ?_, fun F H v w d e Q Q' b h1 h2 q k => ?_⟩
  · unfold fI at q ⊢
    split at q
    · exact ⟨q.1, m _ q.2⟩
    · exact q
  · unfold fI at q
    split at q
    · cases h1
      cases h2
      exact ⟨_, _, rfl, rfl, k _ _ F H (.refl b) (.sh (.int _)) q.2⟩
    · exact q.elim
section
variable {C : Zn} {X : Cx} {a b e : Expr} {pos : Pos} {ta tb : DT}
abbrev fSub := fI sT fun i j => i - j
abbrev fMod := fI (fun _ j => 0 < j) fun i j => i % j
abbrev fShl := fI (fun i j => 0 ≤ j ∧ j ≤ 1000000 ∧ i.natAbs < 2 ^ 64) fun i j => i * 2 ^ j.toNat
abbrev fShr := fI (fun _ j => 0 ≤ j) fun i j => i / 2 ^ j.toNat
abbrev fAnd := fI sT Builtin.bitAnd
abbrev fOr := fI sT Builtin.bitOr
theorem d_sub (ha : PD C X a ta) (hb : PD C X b tb) : PD C X (.BinOp a .Sub b pos) (dOp fSub ta tb) := d_op op_sub lk_I0 ha hb
theorem d_mod (ha : PD C X a ta) (hb : PD C X b tb) : PD C X (.BinOp a .Mod b pos) (dOp fMod ta tb) := d_op op_mod (lk_I fun _ _ h => h) ha hb
theorem d_shl (ha : PD C X a ta) (hb : PD C X b tb) : PD C X (.BinOp a .LShift b pos) (dOp fShl ta tb) := d_op op_shl (lk_I fun _ _ h => h) ha hb
theorem d_shr (ha : PD C X a ta) (hb : PD C X b tb) : PD C X (.BinOp a .RShift b pos) (dOp fShr ta tb) := d_op op_shr (lk_I fun _ _ h => h) ha hb
theorem d_band (ha : PD C X a ta) (hb : PD C X b tb) : PD C X (.BinOp a .BitAnd b pos) (dOp fAnd ta tb) := d_op op_and lk_I0 ha hb
theorem d_bor (ha : PD C X a ta) (hb : PD C X b tb) : PD C X (.BinOp a .BitOr b pos) (dOp fOr ta tb) := d_op op_or lk_I0 ha hb
/-- one whole number -/
def fU (g : Int → Int) : R → (R → Prop) → Prop := fun x Q => onI x fun i => Q (.val (.sh (.int (g i))))
theorem d_eq (hu : X.A.units + 64 < cLine) (ha : PD C X a ta) (hb : PD C X b tb) : PD C X (.Compare a [.Eq] [b] pos) (dOp (fRel sDep rEqv) ta tb) := d_cmp (op_eqQ hu) lk_rel ha hb (nomark _)
theorem d_ne (hu : X.A.units + 64 < cLine) (ha : PD C X a ta) (hb : PD C X b tb) : PD C X (.Compare a [.NotEq] [b] pos) (dOp (fRel sDep fun d e => !rEqv d e) ta tb) := d_cmp (op_neQ hu) lk_rel ha hb (nomark _)
theorem d_lt (hu : X.A.units + 64 < cLine) (ha : PD C X a ta) (hb : PD C X b tb) : PD C X (.Compare a [.Lt] [b] pos) (dOp (fRel sLt rLtD) ta tb) := d_cmp (op_ltQ hu) lk_rel ha hb (nomark _)
/-- a < b < c and its like -/
def dChain (f g : D → D → (R → Prop) → Prop) (ta tb tc : DT) : DT := fun δ Q => ta δ fun x => tb δ fun y => on2 f x y fun z => onB z fun k => if k = true then tc δ fun w => on2 g y w Q else Q (.val (.sh (.bool false)))
theorem on2_mono {f : D → D → (R → Prop) → Prop} (hf : ∀ d e Q Q', (∀ x, Q x → Q' x) → f d e Q → f d e Q') {x y : R} {Q Q' : R → Prop} (m : ∀ x, Q x → Q' x) (q : on2 f x y Q) : on2 f x y Q' := by
  unfold on2 at q ⊢
  split at q
  · exact hf _ _ _ _ m q
  · exact q
theorem d_chain {c : Expr} {tc : DT} {op op' : CmpOp} {r r' : R2} {f g : D → D → (R → Prop) → Prop} (ho : OpR X (compareOp op) r) (ho' : OpR X (compareOp op') r') (lk : Lk2 C X.K r f) (lk' : Lk2 C X.K r' g) (ha : PD C X a ta) (hb : PD C X b tb) (hc : PD C X c tc)
    (hm : lastMarks [op, op'] [b, c] = false := by with_unfolding_all rfl) : PD C X (.Compare a [op, op'] [b, c] pos) (dChain f g ta tb tc) := by
  refine ⟨fun δ Q Q' m q => ha.mono δ _ _ (fun x q => hb.mono δ _ _ (fun y q => on2_mono lk.mono (fun z q => onB_mono (fun k q => by
    cases k with
    | true => exact hc.mono δ _ _ (fun w q => on2_mono lk'.mono m q) q
    | false => exact m _ q) q) q) q) q, (pe_chain ho ho' ha.run hb.run hc.run hm).imp fun σ H Q h => ?_⟩
  obtain ⟨δ, F, x, h⟩ := h
  have nz : ∀ a, H a = none → ¬ C.Z a := fun a n => x.bs.nzn n
  refine ⟨δ, F, x, ha.mono δ _ _ (fun r1 q F1 H1 v g1 rr1 => ⟨δ, F1, x.go g1, hb.mono δ _ _ (fun r2 q F2 H2 w g2 rr2 => ?_) q⟩) h⟩
  have nz1 : ∀ a, H1 a = none → ¬ C.Z a := fun a n => g1.ok.nzn n
  unfold on2 at q
  split at q
  · rename_i d e e1 e2
    have d1 := RR.rd g2.ok nz (rr1.go g1.ok nz g2) e1
    have d2 := RR.rd g2.ok nz1 rr2 e2
    refine lk.to F2 H2 v w d e _ _ g2.ok d1 d2 q fun z u F3 H3 g3 rr3 q => ?_
    obtain ⟨k, rfl, q⟩ := onB_to rr3 q
    refine ⟨k, rfl, ?_⟩
    have g13 := g1.trans x.bs (g2.trans g1.ok g3)
    cases k with
    | false => exact q F3 H3 _ g13 (.sh (.bl _))
    | true =>
      refine ⟨δ, F3, x.go g13, hc.mono δ _ _ (fun r4 q F4 H4 w4 g4 rr4 => ?_) q⟩
      unfold on2 at q
      split at q
      · rename_i e' d' e3 e4
        rw [e2] at e3
        cases e3
        have d2' := Dq.mono ((g3.trans g2.ok g4).keepZ g2.ok) _ _ d2
        have d4 := RR.rd g4.ok (fun a n => g3.ok.nzn n) rr4 e4
        exact lk'.to F4 H4 w w4 _ _ _ _ g4.ok d2' d4 q fun z' u' F5 H5 g5 rr5 q' => q' F5 H5 u' (g13.trans x.bs (g4.trans g3.ok g5)) ((rr5.older g3.ok g4).older x.bs g13)
      · exact q.elim
  · exact q.elim
theorem d_lele {c : Expr} {tc : DT} (hu : X.A.units + 64 < cLine) (ha : PD C X a ta) (hb : PD C X b tb) (hc : PD C X c tc) (hm : lastMarks [CmpOp.LtE, .LtE] [b, c] = false := by with_unfolding_all rfl) : PD C X (.Compare a [.LtE, .LtE] [b, c] pos) (dChain (fRel sLt rLeD) (fRel sLt rLeD) ta tb tc) :=
  d_chain (op_leQ hu) (op_leQ hu) lk_rel lk_rel ha hb hc hm
end
end DL
set_option Elab.async false
set_option linter.all false
set_option maxRecDepth 100000
set_option maxHeartbeats 1000000
namespace DL
open PySem PySem.Spec L2
open PyProof.Rows hiding St
open PySem.W (alike dataLt dataLe AllAlike Sortable EachIs)
section
variable {K : PySem.W.Frag} {C : Zn} {F0 F F1 F' : Addr → Prop} {H0 H H' : Hp} {v w : V} {x y : R} {d e : D}
theorem Sup.grow (g : ∀ a, F a → F' a) (h : Sup K C F H v d) : Sup K C F' H v d := by
  have k : Keep F H F' H := .weak g
  unfold Sup at h ⊢
  split at h
  · obtain ⟨a, vs, e, h1, h2⟩ := h
    exact ⟨a, vs, e, h1, DqAll.mono k _ _ h2⟩
  · obtain ⟨a, vs, e, h1, h2⟩ := h
    exact ⟨a, vs, e, h1, DqAll.mono k _ _ h2⟩
  · exact Dq.mono k _ _ h
theorem Go.join (g1 : Go C F0 H0 F H) (g2 : Go C F0 H0 F' H) : Go C F0 H0 (fun a => F a ∨ F' a) H :=
  ⟨g1.same, fun a m => .inl (g1.grow a m), fun a m => m.elim (g1.new a) (g2.new a), g1.ok.j, fun a m => m.elim (g1.ok.f a) (g2.ok.f a)⟩
/-- both, their items given away -/
theorem sup2 (b0 : Bs C F0 H0) (g : Go C F0 H0 F H) (hx : RR K C F H0 H v x) (hy : RR K C F H0 H w y) (ex : x.sup = some d) (ey : y.sup = some e) : ∃ F', Go C F0 H0 F' H ∧ Sup K C F' H v d ∧ Sup K C F' H w e := by
  obtain ⟨F1, g1, k1, s1⟩ := RR.sup b0 g hx ex
  obtain ⟨F2, g2, k2, s2⟩ := RR.sup b0 g hy ey
  exact ⟨_, g1.join g2, s1.grow fun a m => .inl m, s2.grow fun a m => .inr m⟩
theorem Sup.lst {ds : List D} (h : Sup K C F H v (.list ds)) : ∃ a vs, v = .ref a ∧ LstAt (NZ C) H a vs ∧ DqAll K F H vs ds := h
theorem Sup.tup {ds : List D} (h : Sup K C F H v (.tuple ds)) : ∃ a vs, v = .ref a ∧ SqT K H a vs ∧ DqAll K F H vs ds := h
theorem Sup.int {i : Int} (h : Sup K C F H v (.int i)) : v = .int i := by
  have h : Dq K F H v (.int i) := h
  cases h; rfl
theorem Sup.str {i : Str} (h : Sup K C F H v (.str i)) : v = .str i := by
  have h : Dq K F H v (.str i) := h
  cases h; rfl
/-- a new list of what is given away -/
theorem RR.newl (b0 : Bs C F0 H0) (g : Go C F0 H0 F H) {vs : List V} {ds : List D} (h : DqAll K F H vs ds) {p : Addr} (n : H p = none) : Go C F0 H0 F (upd H p (.lst vs)) ∧ RR K C F H0 (upd H p (.lst vs)) (.ref p) (.val (.own (ds.map DV.sh))) := by
  have g3 := Go.laid (o := .lst vs) g.ok n
  refine ⟨g.trans b0 g3, [p], .own upd_same (Reps.ofDq (DqAll.mono (g3.keep g.ok) _ _ h)), by simp, fun a m => ?_⟩
  obtain rfl := List.mem_singleton.mp m
  refine ⟨fun z => ?_, g.none b0 n⟩
  obtain ⟨o, q⟩ := (g.ok.f a z).2
  rw [n] at q; cases q
theorem RR.newt (b0 : Bs C F0 H0) (g : Go C F0 H0 F H) {vs : List V} {ds : List D} (h : DqAll K F H vs ds) {p : Addr} (n : H p = none) : Go C F0 H0 F (upd H p (.tup vs)) ∧ RR K C F H0 (upd H p (.tup vs)) (.ref p) (.val (.sh (.tuple ds))) := by
  have g3 := Go.laid (o := .tup vs) g.ok n
  exact ⟨g.trans b0 g3, .sh (.tup (.inl (.inl upd_same)) (DqAll.mono (g3.keep g.ok) _ _ h))⟩
end
/-! ### + and * of any kind -/
def fAdd : R → R → (R → Prop) → Prop := fun x y Q => match x.sup, y.sup with
  | some (.int i), some (.int j) => Q (.val (.sh (.int (i + j))))
  | some (.str s), some (.str t) => s.length + t.length ≤ sizeLine ∧ Q (.val (.sh (.str (s ++ t))))
  | some (.tuple a), some (.tuple b) => a.length + b.length ≤ sizeLine ∧ Q (.val (.sh (.tuple (a ++ b))))
  | some (.list a), some (.list b) => a.length + b.length ≤ sizeLine ∧ Q (.val (.own ((a ++ b).map DV.sh)))
  | _, _ => False
abbrev rStrCat : R2 := fun x y H Q => ∃ i j, x = .str i ∧ y = .str j ∧ i.length + j.length ≤ sizeLine ∧ Q (.str (i ++ j)) H
abbrev rAddAll (K : PySem.W.Frag) : R2 := fun x y H Q => rI0 (fun i j => .int (i + j)) x y H Q ∨ (rStrCat x y H Q ∨ (rCatA K x y H Q ∨ rCat x y H Q))
theorem op_addAll {X : Cx} : OpR X (binaryOp .Add) (rAddAll X.K) := op_add.or (op_add_str.or (op_catA.or op_cat))
theorem lk_add {C : Zn} {K : PySem.W.Frag} : LkR2 C K (rAddAll K) fAdd := by
  refine ⟨fun x y Q Q' m q => ?_, fun F0 H0 F H v w x y Q Q' b0 g rx ry q k => ?_⟩
  · unfold fAdd at q ⊢
    split at q
    · exact m _ q
    · exact ⟨q.1, m _ q.2⟩
    · exact ⟨q.1, m _ q.2⟩
    · exact ⟨q.1, m _ q.2⟩
    · exact q
  · unfold fAdd at q
    split at q
    · rename_i i j e1 e2
      obtain ⟨F2, g2, s1, s2⟩ := sup2 b0 g rx ry e1 e2
      exact .inl ⟨i, j, s1.int, s2.int, k _ _ F2 H g2 (.sh (.int _)) q⟩
    · rename_i i j e1 e2
      obtain ⟨F2, g2, s1, s2⟩ := sup2 b0 g rx ry e1 e2
      exact .inr (.inl ⟨i, j, s1.str, s2.str, q.1, k _ _ F2 H g2 (.sh (.str _)) q.2⟩)
    · rename_i a b e1 e2
      obtain ⟨F2, g2, s1, s2⟩ := sup2 b0 g rx ry e1 e2
      obtain ⟨p1, vs, rfl, h1, d1⟩ := s1.tup
      obtain ⟨p2, ws, rfl, h2, d2⟩ := s2.tup
      refine .inr (.inr (.inl ⟨p1, p2, vs, ws, rfl, rfl, h1, h2, by rw [d1.length, d2.length]; exact q.1, fun z => ?_, fun _ z => ?_, fun _ _ p n => ?_⟩))
      · subst z
        cases d1
        exact k _ _ F2 H g2 (.sh (.tup h2 d2)) q.2
      · subst z
        cases d2
        refine k _ _ F2 H g2 (.sh (.tup h1 ?_)) q.2
        rw [List.append_nil]; exact d1
      · obtain ⟨g3, r3⟩ := RR.newt b0 g2 (d1.append d2) n
        exact k _ _ F2 _ g3 r3 q.2
    · rename_i a b e1 e2
      obtain ⟨F2, g2, s1, s2⟩ := sup2 b0 g rx ry e1 e2
      obtain ⟨p1, vs, rfl, h1, d1⟩ := s1.lst
      obtain ⟨p2, ws, rfl, h2, d2⟩ := s2.lst
      refine .inr (.inr (.inr ⟨p1, p2, vs, ws, rfl, rfl, h1.1, h2.1, by rw [d1.length, d2.length]; exact q.1, fun p n => ?_⟩))
      obtain ⟨g3, r3⟩ := RR.newl b0 g2 (d1.append d2) n
      exact k _ _ F2 _ g3 r3 q.2
    · exact q.elim
def fMul : R → R → (R → Prop) → Prop := fun x y Q => match x.sup, y.sup with
  | some (.int i), some (.int j) => CMul i j ∧ Q (.val (.sh (.int (i * j))))
  | some (.list a), some (.int j) => (-(2 ^ 63) ≤ j ∧ j < 2 ^ 63 ∧ a.length * j.toNat ≤ sizeLine) ∧ Q (.val (.own ((List.replicate j.toNat a).flatten.map DV.sh)))
  | some (.tuple a), some (.int j) => (a ≠ [] ∧ 2 ≤ j ∧ j ≤ 1000 ∧ a.length ≤ 1000) ∧ Q (.val (.sh (.tuple (List.replicate j.toNat a).flatten)))
  | _, _ => False
abbrev rMulAll (K : PySem.W.Frag) : R2 := fun x y H Q => rI CMul (fun i j => .int (i * j)) x y H Q ∨ (rRep x y H Q ∨ rRepT K x y H Q)
theorem op_mulAll {X : Cx} : OpR X (binaryOp .Mult) (rMulAll X.K) := op_mul.or (op_rep.or op_repT)
theorem DqAll.rep {K : PySem.W.Frag} {F : Addr → Prop} {H : Hp} {vs : List V} {ds : List D} (h : DqAll K F H vs ds) : ∀ n : Nat, DqAll K F H (List.replicate n vs).flatten (List.replicate n ds).flatten
  | 0 => .nil
  | n + 1 => by
    rw [List.replicate_succ, List.replicate_succ, List.flatten_cons, List.flatten_cons]
    exact h.append (DqAll.rep h n)
theorem lk_mul {C : Zn} {K : PySem.W.Frag} : LkR2 C K (rMulAll K) fMul := by
  refine ⟨fun x y Q Q' m q => ?_, fun F0 H0 F H v w x y Q Q' b0 g rx ry q k => ?_⟩
  · unfold fMul at q ⊢
    split at q
    · exact ⟨q.1, m _ q.2⟩
    · exact ⟨q.1, m _ q.2⟩
    · exact ⟨q.1, m _ q.2⟩
    · exact q
  · unfold fMul at q
    split at q
    · rename_i i j e1 e2
      obtain ⟨F2, g2, s1, s2⟩ := sup2 b0 g rx ry e1 e2
      exact .inl ⟨i, j, s1.int, s2.int, q.1, k _ _ F2 H g2 (.sh (.int _)) q.2⟩
    · rename_i a j e1 e2
      obtain ⟨F2, g2, s1, s2⟩ := sup2 b0 g rx ry e1 e2
      obtain ⟨p1, vs, rfl, h1, d1⟩ := s1.lst
      refine .inr (.inl ⟨p1, j, vs, rfl, s2.int, h1.1, q.1.1, q.1.2.1, by rw [d1.length]; exact q.1.2.2, fun p n => ?_⟩)
      obtain ⟨g3, r3⟩ := RR.newl b0 g2 (d1.rep j.toNat) n
      exact k _ _ F2 _ g3 r3 q.2
    · rename_i a j e1 e2
      obtain ⟨F2, g2, s1, s2⟩ := sup2 b0 g rx ry e1 e2
      obtain ⟨p1, vs, rfl, h1, d1⟩ := s1.tup
      obtain ⟨⟨z1, z2, z3, z4⟩, q⟩ := q
      refine .inr (.inr ⟨p1, j, vs, rfl, s2.int, h1, fun z => z1 ?_, z2, z3, by rw [d1.length]; exact z4, fun p n => ?_⟩)
      · subst z
        cases d1; rfl
      · obtain ⟨g3, r3⟩ := RR.newt b0 g2 (d1.rep j.toNat) n
        exact k _ _ F2 _ g3 r3 q
    · exact q.elim
section
variable {C : Zn} {X : Cx} {a b e : Expr} {es : List Expr} {pos p : Pos} {ta tb te : DT} {t : DL'}
theorem d_add (ha : PD C X a ta) (hb : PD C X b tb) : PD C X (.BinOp a .Add b pos) (dOpR fAdd ta tb) := d_opR op_addAll lk_add ha hb
theorem d_mul (ha : PD C X a ta) (hb : PD C X b tb) : PD C X (.BinOp a .Mult b pos) (dOpR fMul ta tb) := d_opR op_mulAll lk_mul ha hb
/-! ### an item -/
/-- an item of what may be read -/
def itemR (x : R) (d : D) : R := match x with
  | .val _ => .val (.sh d)
  | .br _ => if noLst d then .val (.sh d) else .br d
def fIx : R → R → (R → Prop) → Prop := fun x y Q => onI y fun i => match x.rd with
  | some (.list ds) => (match atI ds i with
    | some d => Q (itemR x d)
    | none => False)
  | some (.tuple ds) => (match atI ds i with
    | some d => Q (itemR x d)
    | none => False)
  | some (.str z) => z.length ≤ sizeLine ∧ (match atI z.cps.toList i with
    | some c => Q (.val (.sh (.str ⟨#[c]⟩)))
    | none => False)
  | _ => False
theorem atI_get {α : Type} {xs : List α} {i : Int} {z : α} (h : atI xs i = some z) : ∃ j, ixN xs.length i = some j ∧ xs[j]? = some z := by
  unfold atI at h
  cases e : ixN xs.length i with
  | none => rw [e] at h; cases h
  | some j => rw [e] at h; exact ⟨j, rfl, h⟩
theorem DqAll.atI {K : PySem.W.Frag} {F : Addr → Prop} {H : Hp} {vs : List V} {ds : List D} {i : Int} {d : D} (h : DqAll K F H vs ds) (e : L2.atI ds i = some d) : ∃ v, L2.atI vs i = some v ∧ Dq K F H v d := by
  obtain ⟨j, e1, e2⟩ := atI_get e
  obtain ⟨v, q1, q2⟩ := h.get e2
  refine ⟨v, ?_, q2⟩
  unfold L2.atI
  rw [h.length, e1]
  exact q1
theorem itemRR {K : PySem.W.Frag} {F0 F : Addr → Prop} {H0 H : Hp} {v : V} {x : R} {d : D} (b0 : Bs C F0 H0) (g : Go C F0 H0 F H) (rx : RR K C F H0 H v x) {D0 : D} (e : x.rd = some D0) {w : V}
    (get : ∀ G, Dq K G H v D0 → Dq K G H w d) : ∃ F', Go C F0 H0 F' H ∧ RR K C F' H0 H w (itemR x d) := by
  cases x with
  | val dv =>
    obtain ⟨F', g', _, dq⟩ := RR.fd (d := D0) b0 g rx (by rw [R.fd]; exact e)
    exact ⟨F', g', .sh (get F' dq)⟩
  | br d' =>
    have e' : some d' = some D0 := e
    obtain rfl := Option.some.inj e'
    have h := get _ (show Dq K (NZ C) H v d' from rx)
    refine ⟨F, g, ?_⟩
    unfold itemR
    by_cases n : noLst d = true
    · rw [if_pos n]
      exact .sh (Dq.free _ _ n h)
    · rw [if_neg n]
      exact h
theorem lk_ix {K : PySem.W.Frag} : LkR2 C K (rIx K) fIx := by
  refine ⟨fun x y Q Q' m q => onI_mono (fun i q => ?_) q, fun F0 H0 F H v w x y Q Q' b0 g rx ry q k => ?_⟩
  · split at q
    · split at q
      · exact m _ q
      · exact q
    · split at q
      · exact m _ q
      · exact q
    · refine ⟨q.1, ?_⟩
      have q2 := q.2
      split at q2
      · exact m _ q2
      · exact q2
    · exact q
  · obtain ⟨i, rfl, q⟩ := onI_to ry q
    have rd := fun (d : D) (e : x.rd = some d) => RR.rd g.ok (fun a n => b0.nzn n) rx e
    split at q
    · rename_i ds e
      split at q
      · rename_i d ed
        have h := rd _ e
        cases h with
        | @lst a vs _ h1 h2 =>
          obtain ⟨w', q1, _⟩ := h2.atI ed
          obtain ⟨F', g', r'⟩ := itemRR (d := d) (w := w') b0 g rx e (fun G h => by
            cases h with
            | lst z1 z2 =>
              have : some (HO.lst vs) = some (HO.lst _) := h1.1.symm.trans z1.1
              cases this
              obtain ⟨w2, q2, q3⟩ := z2.atI ed
              rw [q1] at q2; cases q2
              exact q3)
          exact .inl ⟨a, vs, i, w', rfl, rfl, h1.sq, q1, k _ _ F' H g' r' q⟩
      · exact q.elim
    · rename_i ds e
      split at q
      · rename_i d ed
        have h := rd _ e
        cases h with
        | @tup a vs _ h1 h2 =>
          obtain ⟨w', q1, q0⟩ := h2.atI ed
          cases x with
          | val dv =>
            obtain ⟨F', g', _, dq⟩ := RR.fd (d := .tuple ds) b0 g rx (by rw [R.fd]; exact e)
            cases dq with
            | @tup _ vs' _ z1 z2 =>
              obtain ⟨w2, q2, q3⟩ := z2.atI ed
              exact .inr (.inl ⟨a, vs', i, w2, rfl, rfl, z1, q2, k _ _ F' H g' (.sh q3) q⟩)
          | br d' =>
            refine .inr (.inl ⟨a, vs, i, w', rfl, rfl, h1, q1, k _ _ F H g ?_ q⟩)
            unfold itemR
            by_cases n : noLst d = true
            · rw [if_pos n]
              exact .sh (Dq.free _ _ n q0)
            · rw [if_neg n]
              exact q0
      · exact q.elim
    · rename_i z e
      obtain ⟨hz, q⟩ := q
      split at q
      · rename_i c ec
        have h := rd _ e
        cases h
        exact .inr (.inr ⟨z, i, c, rfl, rfl, hz, ec, k _ _ F H g (.sh (.str _)) q⟩)
      · exact q.elim
    · exact q.elim
theorem d_item (ha : PD C X a ta) (hb : PD C X b tb) (hs : PlainIx b := by exact fun _ _ => rfl) : PD C X (.Subscript a b pos) (dOpR fIx ta tb) := d_ix ix_seq lk_ix ha hb hs
/-! ### calls of built-ins with one argument -/
def on1 (f : R → (R → Prop) → Prop) : List R → (R → Prop) → Prop := fun rs Q => match rs with
  | [x] => f x Q
  | _ => False
theorem lk_1 {K : PySem.W.Frag} {r : List V → Hp → VK → Prop} {f : R → (R → Prop) → Prop} (h : LkR1 C K (fun v => r [v]) f) : LkC C K r (on1 f) := by
  refine ⟨fun xs Q Q' m q => ?_, fun F0 H0 F H vs xs Q Q' b0 g rr q k => ?_⟩
  · unfold on1 at q ⊢
    split at q
    · exact h.mono _ _ _ m q
    · exact q
  · unfold on1 at q
    split at q
    · rename_i x
      have hl := rr.length
      match vs, hl with
      | [v], _ =>
        obtain ⟨v', e1, r1⟩ := rr.at (i := 0) rfl
        cases e1
        exact h.to F0 H0 F H v x Q Q' b0 g r1 q k
    · exact q.elim
/-- len -/
def fLen : R → (R → Prop) → Prop := fun x Q => match x.rd with
  | some (.list ds) => Q (.val (.sh (.int ds.length)))
  | some (.tuple ds) => Q (.val (.sh (.int ds.length)))
  | some (.str z) => z.length ≤ sizeLine ∧ Q (.val (.sh (.int z.length)))
  | _ => False
theorem lk_len {K : PySem.W.Frag} : LkR1 C K (fun v H Q => ∃ x n, [v] = [x] ∧ LenV K x H n ∧ Q (.int n) H) fLen := by
  refine ⟨fun x Q Q' m q => ?_, fun F0 H0 F H v x Q Q' b0 g rx q k => ?_⟩
  · unfold fLen at q ⊢
    split at q
    · exact m _ q
    · exact m _ q
    · exact ⟨q.1, m _ q.2⟩
    · exact q
  · have rd := fun (d : D) (e : x.rd = some d) => RR.rd g.ok (fun a n => b0.nzn n) rx e
    unfold fLen at q
    split at q
    · rename_i ds e
      have h := rd _ e
      cases h with
      | lst h1 h2 =>
        refine ⟨_, ds.length, rfl, .inl ⟨_, h1.sq, h2.length.symm⟩, k _ _ F H g (.sh (.int _)) q⟩
    · rename_i ds e
      have h := rd _ e
      cases h with
      | tup h1 h2 => exact ⟨_, ds.length, rfl, .inr ⟨_, h1, h2.length.symm⟩, k _ _ F H g (.sh (.int _)) q⟩
    · rename_i z e
      have h := rd _ e
      cases h
      exact ⟨_, z.length, rfl, ⟨q.1, rfl⟩, k _ _ F H g (.sh (.int _)) q.2⟩
    · exact q.elim
theorem d_len (ha : PDL C X [a] t) (hm : X.mg "len" = none) (hg : Gl X "len" := by rfl)
    (he : starEach [a] X.env = (false, eval a X.env) :: starEach [] X.env := by rfl) (hpl : (backTo pos (starEach [] X.env)).any (·.1) = false := by rfl) : PD C X (.Call (.Name "len" p) [a] [] pos) (dCB (on1 fLen) t) :=
  d_callB call_len (lk_1 lk_len) hg hm PySem.boot_len ha (by decide) (by decide) he hpl
/-- list(x), tuple(x) -/
def fList : R → (R → Prop) → Prop := fun x Q => match x.sup with
  | some (.list ds) => Q (.val (.own (ds.map DV.sh)))
  | some (.tuple ds) => Q (.val (.own (ds.map DV.sh)))
  | _ => False
def fTuple : R → (R → Prop) → Prop := fun x Q => match x.sup with
  | some (.list ds) => Q (.val (.sh (.tuple ds)))
  | some (.tuple ds) => Q (.val (.sh (.tuple ds)))
  | _ => False
theorem lk_list {K : PySem.W.Frag} : LkR1 C K (fun v H Q => ∃ p ys, [v] = [V.ref p] ∧ (SqL K H p ys ∨ SqT K H p ys) ∧ ∀ l, H l = none → Q (.ref l) (upd H l (.lst ys))) fList := by
  refine ⟨fun x Q Q' m q => ?_, fun F0 H0 F H v x Q Q' b0 g rx q k => ?_⟩
  · unfold fList at q ⊢
    split at q
    · exact m _ q
    · exact m _ q
    · exact q
  · unfold fList at q
    split at q
    · rename_i ds e
      obtain ⟨F2, g2, _, s⟩ := RR.sup b0 g rx e
      obtain ⟨p1, vs, rfl, h1, d1⟩ := s.lst
      refine ⟨p1, vs, rfl, .inl h1.sq, fun p n => ?_⟩
      obtain ⟨g3, r3⟩ := RR.newl b0 g2 d1 n
      exact k _ _ F2 _ g3 r3 q
    · rename_i ds e
      obtain ⟨F2, g2, _, s⟩ := RR.sup b0 g rx e
      obtain ⟨p1, vs, rfl, h1, d1⟩ := s.tup
      refine ⟨p1, vs, rfl, .inr h1, fun p n => ?_⟩
      obtain ⟨g3, r3⟩ := RR.newl b0 g2 d1 n
      exact k _ _ F2 _ g3 r3 q
    · exact q.elim
theorem lk_tuple {K : PySem.W.Frag} : LkR1 C K (fun v H Q => ∃ p ys, [v] = [V.ref p] ∧ ((SqL K H p ys ∧ ∀ l, H l = none → Q (.ref l) (upd H l (.tup ys))) ∨ (SqT K H p ys ∧ Q (.ref p) H))) fTuple := by
  refine ⟨fun x Q Q' m q => ?_, fun F0 H0 F H v x Q Q' b0 g rx q k => ?_⟩
  · unfold fTuple at q ⊢
    split at q
    · exact m _ q
    · exact m _ q
    · exact q
  · unfold fTuple at q
    split at q
    · rename_i ds e
      obtain ⟨F2, g2, _, s⟩ := RR.sup b0 g rx e
      obtain ⟨p1, vs, rfl, h1, d1⟩ := s.lst
      refine ⟨p1, vs, rfl, .inl ⟨h1.sq, fun p n => ?_⟩⟩
      obtain ⟨g3, r3⟩ := RR.newt b0 g2 d1 n
      exact k _ _ F2 _ g3 r3 q
    · rename_i ds e
      obtain ⟨F2, g2, _, s⟩ := RR.sup b0 g rx e
      obtain ⟨p1, vs, rfl, h1, d1⟩ := s.tup
      exact ⟨p1, vs, rfl, .inr ⟨h1, k _ _ F2 _ g2 (.sh (.tup h1 d1)) q⟩⟩
    · exact q.elim
theorem d_list (ha : PDL C X [a] t) (hm : X.mg "list" = none) (hg : Gl X "list" := by rfl)
    (he : starEach [a] X.env = (false, eval a X.env) :: starEach [] X.env := by rfl) (hpl : (backTo pos (starEach [] X.env)).any (·.1) = false := by rfl) : PD C X (.Call (.Name "list" p) [a] [] pos) (dCB (on1 fList) t) :=
  d_callTy call_list_of (lk_1 lk_list) hg hm (by decide +kernel) ha (by decide) (by decide) he hpl
theorem d_tupleC (ha : PDL C X [a] t) (hm : X.mg "tuple" = none) (hg : Gl X "tuple" := by rfl)
    (he : starEach [a] X.env = (false, eval a X.env) :: starEach [] X.env := by rfl) (hpl : (backTo pos (starEach [] X.env)).any (·.1) = false := by rfl) : PD C X (.Call (.Name "tuple" p) [a] [] pos) (dCB (on1 fTuple) t) :=
  d_callTy call_tuple_of (lk_1 lk_tuple) hg hm (by decide +kernel) ha (by decide) (by decide) he hpl
/-- int(n) -/
def fInt : R → (R → Prop) → Prop := fun x Q => match x with
  | .val (.sh (.int i)) => Q (.val (.sh (.int i)))
  | .val (.sh (.bool b)) => Q (.val (.sh (.int (if b then 1 else 0))))
  | _ => False
theorem lk_int {K : PySem.W.Frag} : LkR1 C K (fun v H Q => (∃ i, [v] = [V.int i] ∧ Q (.int i) H) ∨ ∃ k, [v] = [V.bl k] ∧ Q (.int (if k then 1 else 0)) H) fInt := by
  refine ⟨fun x Q Q' m q => ?_, fun F0 H0 F H v x Q Q' b0 g rx q k => ?_⟩
  · unfold fInt at q ⊢
    split at q
    · exact m _ q
    · exact m _ q
    · exact q
  · unfold fInt at q
    split at q
    · obtain ⟨as, z, _⟩ := rx
      cases z with
      | sh z => cases z; exact .inl ⟨_, rfl, k _ _ F H g (.sh (.int _)) q⟩
    · obtain ⟨as, z, _⟩ := rx
      cases z with
      | sh z => cases z; exact .inr ⟨_, rfl, k _ _ F H g (.sh (.int _)) q⟩
    · exact q.elim
theorem d_intC (ha : PDL C X [a] t) (hm : X.mg "int" = none) (hg : Gl X "int" := by rfl)
    (he : starEach [a] X.env = (false, eval a X.env) :: starEach [] X.env := by rfl) (hpl : (backTo pos (starEach [] X.env)).any (·.1) = false := by rfl) : PD C X (.Call (.Name "int" p) [a] [] pos) (dCB (on1 fInt) t) :=
  d_callTy call_int1 (lk_1 lk_int) hg hm (by decide +kernel) ha (by decide) (by decide) he hpl
/-- all(x), any(x) of a list of truth values -/
def boolsOf : List D → Option (List Bool)
  | [] => some []
  | .bool b :: ds => (boolsOf ds).map (b :: ·)
  | _ => none
theorem boolsOf_map : ∀ bs : List Bool, boolsOf (bs.map PyData.bool) = some bs
  | [] => rfl
  | b :: bs => by rw [List.map_cons, boolsOf, boolsOf_map bs]; rfl
theorem boolsOf_eq : ∀ {ds : List D} {bs : List Bool}, boolsOf ds = some bs → ds = bs.map PyData.bool
  | [], _, h => by cases h; rfl
  | .bool b :: ds, bs, h => by
    rw [boolsOf] at h
    obtain ⟨cs, e1, e2⟩ := Option.map_eq_some_iff.mp h
    subst e2
    rw [boolsOf_eq e1]; rfl
  | .none :: _, _, h => by cases h
  | .int _ :: _, _, h => by cases h
  | .str _ :: _, _, h => by cases h
  | .list _ :: _, _, h => by cases h
  | .tuple _ :: _, _, h => by cases h
  | .dict _ :: _, _, h => by cases h
def fBools (g : List Bool → Bool) : R → (R → Prop) → Prop := fun x Q => match x.rd with
  | some (.list ds) => (match boolsOf ds with
    | some bs => Q (.val (.sh (.bool (g bs))))
    | none => False)
  | _ => False
theorem lk_bools {K : PySem.W.Frag} {g : List Bool → Bool} : LkR1 C K (fun v H Q => ∃ (a : Addr) (bs : List Bool), [v] = [V.ref a] ∧ SqL K H a (bs.map V.bl) ∧ Q (.bl (g bs)) H) (fBools g) := by
  refine ⟨fun x Q Q' m q => ?_, fun F0 H0 F H v x Q Q' b0 gg rx q k => ?_⟩
  · unfold fBools at q ⊢
    split at q
    · split at q
      · exact m _ q
      · exact q
    · exact q
  · have rd := fun (d : D) (e : x.rd = some d) => RR.rd gg.ok (fun a n => b0.nzn n) rx e
    unfold fBools at q
    split at q
    · rename_i ds e
      split at q
      · rename_i bs eb
        have h := rd _ e
        cases h with
        | lst h1 h2 =>
          rw [boolsOf_eq eb] at h2
          exact ⟨_, bs, rfl, by rw [← h2.bools]; exact h1.sq, k _ _ F H gg (.sh (.bl _)) q⟩
      · exact q.elim
    · exact q.elim
theorem d_all (hc : X.calm = true) (ha : PDL C X [a] t) (hm : X.mg "all" = none) (hg : Gl X "all" := by rfl)
    (he : starEach [a] X.env = (false, eval a X.env) :: starEach [] X.env := by rfl) (hpl : (backTo pos (starEach [] X.env)).any (·.1) = false := by rfl) : PD C X (.Call (.Name "all" p) [a] [] pos) (dCB (on1 (fBools fun bs => bs.all id)) t) :=
  d_callB (cr_all hc) (lk_1 lk_bools) hg hm (by decide +kernel) ha (by decide) (by decide) he hpl
/-- min, max of two whole numbers -/
def fII (g : Int → Int → Int) : List R → (R → Prop) → Prop := fun rs Q => match rs with
  | [x, y] => onI x fun i => onI y fun j => Q (.val (.sh (.int (g i j))))
  | _ => False
/-- x.bit_length() -/
def fBits : R → (R → Prop) → Prop := fun x Q => onI x fun i => Q (.val (.sh (.int (Builtin.Int.intBits i : Nat))))
theorem d_bits {apos : Pos} (ha : PD C X a ta) (hbase : attributeBase a "bit_length" X.env (eval a X.env) = eval a X.env := by rfl) (hline : (apos.endLine == pos.line) = true := by rfl) : PD C X (.Call (.Attribute a "bit_length" apos) [] [] pos) (dUn fBits ta) :=
  ⟨mono_un (fun x Q Q' m q => onI_mono (fun i q => m _ q) q) ha.mono, (pe_bits ha.run hbase hline).imp fun σ H Q h => by
    obtain ⟨δ, F, x, h⟩ := h
    refine ⟨δ, F, x, ha.mono δ _ _ (fun r q F1 H1 v g rr => ?_) h⟩
    obtain ⟨i, rfl, q⟩ := onI_to rr q
    exact ⟨i, rfl, q F1 H1 _ g (.sh (.int _))⟩⟩
/-- isinstance(x, T) -/
def tyIs : String → D → Bool
  | "int", d => d.isInt
  | "bool", d => d.isBool
  | "str", d => d.isStr
  | "tuple", d => d.isTuple
  | "list", d => d.isList
  | "dict", d => d.isDict
  | _, _ => false
def rIsiD (K : PySem.W.Frag) (T : String) : List V → Hp → VK → Prop := fun xs H Q => ∃ x d, xs = [x, .ty T] ∧ Dq K Any H x d ∧ Q (.bl (tyIs T d)) H
def IsiT (T : String) : Prop := ∀ (prog : Program) (w : World) (A : Around) (E : Value → Shared → Prop) (s : Shared) (v : Value) (d : PyData) (as : List Addr) (Q : Value → Shared → Prop),
  Reads s.heap v d as → (∀ tk, s.toks ≤ tk → Q (.bool (tyIs T d)) { s with toks := tk }) → wpAny (model prog w) A (call (.builtin "isinstance") [v, .type T]) Q E s
theorem isi_int : IsiT "int" := fun _ _ _ _ _ _ _ _ _ r h => PySem.W.isinstance_int_data r h
theorem isi_bool : IsiT "bool" := fun _ _ _ _ _ _ _ _ _ r h => PySem.W.isinstance_bool_data r h
theorem isi_tuple : IsiT "tuple" := fun _ _ _ _ _ _ _ _ _ r h => PySem.W.isinstance_tuple_data r h
theorem call_isiD {T : String} (h : IsiT T) : CallR X (.builtin "isinstance") (rIsiD X.K T) := by
  intro pins s σ H xs us Q I r q
  obtain ⟨x, d, rfl, dq, q⟩ := q
  cases r with
  | cons r1 r2 =>
    cases r2 with
    | cons r2 r3 =>
      cases r3
      cases r2
      obtain ⟨as, rd⟩ := Dq.reads I d x _ dq r1
      exact h _ _ _ _ _ _ _ _ _ rd fun tk _ => ⟨.bl _, H, I.tok _, rfl, q⟩
def fIsi (T : String) : R → (R → Prop) → Prop := fun x Q => match x.rd with
  | some d => Q (.val (.sh (.bool (tyIs T d))))
  | none => False
theorem d_isi {T : String} {x : Str} {p2 : Pos} (hT : IsiT T) (ha : PD C X a ta) (hm : X.mg "isinstance" = none) (hm2 : X.mg x = none) (hv2 : bootBuiltins x = some (.type T)) (hg : Gl X "isinstance" := by rfl) (hg2 : Gl X x := by rfl) (hn2 : x ≠ "__name__" := by decide) (hd2 : (x == ("__debug__" : Str)) = false := by decide)
    (he : starEach [a, .Name x p2] X.env = (false, eval a X.env) :: starEach [.Name x p2] X.env := by rfl) (he2 : starEach [.Name x p2] X.env = (false, eval (.Name x p2) X.env) :: starEach [] X.env := by rfl) (hpl : (backTo pos (starEach [.Name x p2] X.env)).any (·.1) = false := by rfl) :
    PD C X (.Call (.Name "isinstance" p) [a, .Name x p2] [] pos) (dUn (fIsi T) ta) :=
  ⟨mono_un (fun x Q Q' m q => by
    unfold fIsi at q ⊢
    split at q
    · exact m _ q
    · exact q) ha.mono, (pe_callB (call_isiD hT) hg hm (by decide +kernel) (pa_cons ha.run (pa_cons (pe_bltn (v := .ty T) hg2 hm2 hv2 rfl hn2 hd2) pa_nil he2) he) (by decide) (by decide) he hpl).imp fun σ H Q h => by
    obtain ⟨δ, F, x, h⟩ := h
    refine ⟨δ, F, x, ha.mono δ _ _ (fun r q F1 H1 v g rr => ?_) h⟩
    unfold fIsi at q
    split at q
    · rename_i d e
      exact ⟨v, d, rfl, (RR.rd g.ok (fun a n => x.bs.nzn n) rr e).anyG, q F1 H1 _ g (.sh (.bl _))⟩
    · exact q.elim⟩
/-- list(range(a, b)) as a value -/
def dListRg1 (ta : DT) : DT := fun δ Q => ta δ fun x => onI x fun n => RgOk 0 n ∧ Q (.val (.own ((rangeD 0 n).map DV.sh)))
def dTupRg1 (ta : DT) : DT := fun δ Q => ta δ fun x => onI x fun n => RgOk 0 n ∧ Q (.val (.sh (.tuple (rangeD 0 n))))
theorem rgV_dq {K : PySem.W.Frag} {F : Addr → Prop} {H : Hp} (lo hi : Int) : DqAll K F H (rgV lo hi) (rangeD lo hi) := by
  unfold rgV rangeD
  generalize (hi - lo).toNat = n
  induction List.range n with
  | nil => exact .nil
  | cons i l ih => exact .cons (.int _) ih
theorem d_listRg1 {p2 pos2 : Pos} (hc : X.calm = true) (ha : PD C X a ta) (hm : X.mg "list" = none) (hm2 : X.mg "range" = none) (hg : Gl X "list" := by rfl) (hg2 : Gl X "range" := by rfl) (na : starEach [a] X.env = (false, eval a X.env) :: starEach [] X.env := by rfl)
    (nb : starEach [.Call (.Name "range" p2) [a] [] pos2] X.env = (false, eval (.Call (.Name "range" p2) [a] [] pos2) X.env) :: starEach [] X.env := by rfl) : PD C X (.Call (.Name "list" p) [.Call (.Name "range" p2) [a] [] pos2] [] pos) (dListRg1 ta) :=
  ⟨fun δ Q Q' m q => ha.mono δ _ _ (fun x q => onI_mono (fun n q => ⟨q.1, m _ q.2⟩) q) q, (pe_listRg hc hg hm (prg_1 hg2 hm2 ha.run na) nb).imp fun σ H Q h => by
    obtain ⟨δ, F, x, h⟩ := h
    refine ⟨δ, F, x, ha.mono δ _ _ (fun r q F1 H1 v g rr => ?_) h⟩
    obtain ⟨i, rfl, q1, q⟩ := onI_to rr q
    refine ⟨i, rfl, q1, fun p n => ?_⟩
    obtain ⟨g3, r3⟩ := RR.newl x.bs g (rgV_dq (K := X.K) 0 i) n
    exact q F1 _ _ g3 r3⟩
end
end DL
set_option Elab.async false
set_option linter.all false
set_option maxRecDepth 100000
set_option maxHeartbeats 1000000
namespace DL
open PySem PySem.Spec L2
open PyProof.Rows hiding St
open PySem.W (alike dataLt dataLe AllAlike Sortable EachIs)
/-! ### sorted -/
section
variable {prog : Program} {w : World} {A : Around} {E : Value → Shared → Prop} {s : Shared}
/-- sorted(t), t a tuple whose items read as data -/
theorem sorted_tuple {t : Addr} {vs : List Value} {ds : List D} {R : Value → D → Prop} {Q : Value → Shared → Prop} (ht : IsTup s.heap t vs.toArray) (e : EachIs R vs ds) (er : EachIs (fun v d => ∃ as, Reads s.heap v d as) vs ds)
    (hal : AllAlike ds) (hk : Sortable ds) (hL : ds.length ≤ sizeLine) (hu : ∀ d ∈ ds, A.units + 2 + d.depth < cLine)
    (h : ∀ (out : List Value) (h' : Heap) (p : Addr) (n : Nat), out.length = ds.length → EachIs R out (ds.mergeSort (dataLe false id)) → (∀ b o, s.heap.get? b = some o → h'.get? b = some o) → s.heap.get? p = none → h'.get? p = some (seqObj "list" out.toArray n) → Q (.ref p) { s with heap := h' }) :
    wpAny (model prog w) A (call (.builtin "sorted") [.ref t]) Q E s := by
  refine Calls.call_function_entry kind_sorted plain_sorted entry_sorted (args_sorted1 _) ?_
  unfold Builtin.«sorted»
  refine wpAny_bind (m := checkCount "sorted" 1 1 _) (wpAny_pure ?_)
  obtain ⟨o, ho, hc, n, hd⟩ := ht
  have hle : vs.length ≤ sizeLine := by rw [e.length]; exact hL
  refine wpAny_bind (PySem.wpAny_collect_seq t (.inr rfl) ho hc hd (fun h1 k1 => ?_) (by simpa using hle))
  refine wpAny_bind (wpAny_newList ?_ (by simpa using hle))
  have ha : (h1.push (seqObj "list" vs.toArray 0)).get? h1.objs.size = some (seqObj "list" vs.toArray 0) := Heap.get?_push_size _ rfl
  have k2 : ∀ b o, s.heap.get? b = some o → (h1.push (seqObj "list" vs.toArray 0)).get? b = some o := fun b o q => Heap.get?_push_of_some _ (k1 b o q)
  have er2 : EachIs (fun v d => ∃ as, Reads (PySem.W.sortingHeap (h1.push (seqObj "list" vs.toArray 0)) h1.objs.size vs) v d as) vs ds := by
    refine er.mono fun v d ⟨as, r⟩ => ⟨as, PyProof.Rows.Reads.keeps (fun b ob q => ?_) r⟩
    exact PySem.W.sortingHeap_old (Nat.ne_of_lt (Heap.lt_size (k1 b ob q))) (k2 b ob q)
  have emap : ∀ {S : Value → D → Prop}, EachIs S vs ds → EachIs S vs (ds.map id) := fun z => by rw [List.map_id]; exact z
  have S := PySem.W.SortsAt.data (prog := prog) (w := w) (A := A.in1.in1) (s := { s with heap := PySem.W.sortingHeap (h1.push (seqObj "list" vs.toArray 0)) h1.objs.size vs }) er2 hal hk (fun d m => hu d m)
  have fin := PySem.W.sortVals_data (enc := id) false e er2 (by rw [List.map_id]; exact hal)
  rw [List.map_id] at fin
  refine wpAny_bind (wpAny_holding (wpAny_call_entry slot_list_sort ⟨_, ha, rfl⟩ entry_list_sort (PySem.W.list_sort_vals (s := { s with heap := h1.push (seqObj "list" vs.toArray 0) }) ha S hle ⟨.none, rfl, wpAny_pure ?_⟩) (args_list_sort _)))
  obtain ⟨n2, hat⟩ := sortedHeap_at (vs := vs) (out := (PySem.W.sortVals (PySem.W.dataKind (PySem.W.sortingHeap (h1.push (seqObj "list" vs.toArray 0)) h1.objs.size vs) ds) false vs vs).toArray) ha
  refine ⟨_, rfl, h _ _ _ n2 (by rw [PySem.W.sortVals_length false rfl]; exact e.length) fin (fun b ob q => ?_) ?_ hat⟩
  · have l1 := Heap.lt_size (k1 b ob q)
    rw [sortedHeap_old (Nat.ne_of_lt l1) (Heap.lt_size (k2 b ob q))]
    exact k2 b ob q
  · cases q : s.heap.get? h1.objs.size with
    | none => rfl
    | some o => exact absurd (Heap.lt_size (k1 _ _ q)) (Nat.lt_irrefl _)
end
section
variable {P : Program} {w : World} {X : Cx} {pins : List (Addr × Obj)} {σ : L2.St} {H : Hp} {s : Shared} {h' : Heap} {a : Addr} {o : HO}
theorem objThere {h : Heap} (x : ObjOk P w H h a o) : ∃ ob, h.get? a = some ob := by
  induction o with
  | lst xs => obtain ⟨_, _, _, _, e⟩ := x; exact ⟨_, e⟩
  | tup xs => obtain ⟨_, _, _, o, e, _⟩ := x; exact ⟨o, e⟩
  | dK kvs => obtain ⟨_, _, _, _, o, _, _, e, _⟩ := x; exact ⟨o, e⟩
  | dT kvs => obtain ⟨_, _, _, _, o, _, _, e, _⟩ := x; exact ⟨o, e⟩
  | set S n => obtain ⟨o, _, _, _, e, _⟩ := x; exact ⟨o, e⟩
  | ins C dx fs => obtain ⟨_, _, _, e, _⟩ := x; exact ⟨_, e⟩
  | own y => obtain ⟨o, e⟩ := x; exact ⟨o, e⟩
  | xd fs => obtain ⟨_, ⟨o, _, _, e, _⟩, _⟩ := x; exact ⟨o, e⟩
  | rng lo hi => obtain ⟨_, _, _, e⟩ := x; exact ⟨_, e⟩
  | frz ob u => obtain ⟨e, _⟩ := x; exact ⟨_, e⟩
  | tbl ps => exact ⟨_, x⟩
  | met f y => exact ⟨_, x⟩
  | ext φ => obtain ⟨_, ⟨o, e⟩, _⟩ := x; exact ⟨o, e⟩
/-- a new object laid where none was to be had -/
theorem laidN {t' : Nat} (I : Inv X pins σ H s) (k : ∀ b u, s.heap.get? b = some u → h'.get? b = some u) (hn : s.heap.get? a = none) (new : ObjOk X.prog X.w (upd H a o) h' a o) : H a = none ∧ Inv X pins σ (upd H a o) { s with heap := h', toks := t' } := by
  have nH : H a = none := by
    cases e : H a with
    | none => rfl
    | some u =>
      obtain ⟨ob, q⟩ := objThere (I.hok a u e)
      rw [hn] at q; cases q
  have ne : ∀ b u, H b = some u → b ≠ a := fun b u q z => by rw [z, nH] at q; cases q
  refine ⟨nH, I.un (t' := t') ⟨fun b ob q _ _ _ => k b ob q, fun b ob q _ _ _ => ⟨ob.slots, k b ob q⟩, fun b ob q n _ => ?_, fun b ob q _ => ⟨ob, k b ob q⟩, fun b xs q => ?_, fun b ob xs q => ?_, fun b ps q => ⟨#[], ?_⟩⟩ fun b u q => ?_⟩
  · have : b ≠ a := fun z => by rw [z, hn] at q; cases q
    rw [upd_ne this]; exact n
  · rw [upd_ne (ne b _ q)]; exact q
  · rw [upd_ne (ne b _ q)]; exact q
  · rw [upd_ne (ne b _ q), q]; simp
  · by_cases e : b = a
    · subst e
      rw [upd_same] at q; cases q; exact new
    · rw [upd_ne e] at q
      exact (I.hok b u q).stay (fun c v _ z => k c v z) (fun c z => by rw [upd_ne (ne c _ z)]; exact z) fun c xs z => by rw [upd_ne (ne c _ z)]; exact z
end
/-- the rule for a list, for a tuple: G the data's own -/
def rSort (K : PySem.W.Frag) (G : Addr → Prop) : List V → Hp → VK → Prop := fun vs H Q => ∃ a xs ds, vs = [.ref a] ∧ (SqL K H a xs ∨ SqT K H a xs) ∧ DqAll K G H xs ds ∧ AllAlike ds ∧ Sortable ds ∧ (∀ d ∈ ds, d.depth ≤ 60) ∧
  ∀ p ys, H p = none → DqAll K G H ys (ds.mergeSort (dataLe false id)) → Q (.ref p) (upd H p (.lst ys))
section
variable {X : Cx} {pins : List (Addr × Obj)} {σ : L2.St} {H : Hp} {s : Shared} {G : Addr → Prop}
theorem each_dq {K : PySem.W.Frag} : ∀ {xs : List V} {us : List Value} {ds : List D}, DqAll K G H xs ds → Vals xs us → EachIs (fun u d => ∃ x, RelV x u ∧ Dq K G H x d) us ds
  | _, _, _, .nil, .nil => .nil
  | _, _, _, .cons h1 h2, .cons r1 r2 => .cons ⟨_, r1, h1⟩ (each_dq h2 r2)
theorem dq_each {K : PySem.W.Frag} : ∀ {us : List Value} {ds : List D}, EachIs (fun u d => ∃ x, RelV x u ∧ Dq K G H x d) us ds → ∃ xs, Vals xs us ∧ DqAll K G H xs ds
  | _, _, .nil => ⟨[], .nil, .nil⟩
  | _, _, .cons h t => by
    obtain ⟨x, r, d⟩ := h
    obtain ⟨xs, rs, ds⟩ := dq_each t
    exact ⟨x :: xs, .cons r rs, .cons d ds⟩
theorem cr_sortQ (hu : X.A.units + 64 < cLine) : CallR X (.builtin "sorted") (rSort X.K G) := by
  intro pins s σ H vs us Q I r h
  obtain ⟨a, xs, ds, rfl, hx, dq, hal, hk, hd, q⟩ := h
  cases r with
  | cons r1 r2 =>
    cases r2
    cases r1
    have fin : ∀ (out : List Value) (h' : Heap) (p : Addr) (n : Nat), out.length = ds.length → EachIs (fun u d => ∃ x, RelV x u ∧ Dq X.K G H x d) out (ds.mergeSort (dataLe false id)) → (∀ b o, s.heap.get? b = some o → h'.get? b = some o) → s.heap.get? p = none → h'.get? p = some (seqObj "list" out.toArray n) → ds.length ≤ sizeLine →
        EP X pins σ Q (.ref p) { s with heap := h' } := fun out h' p n hl e kp hp hat hz => by
      obtain ⟨ys, rv, dy⟩ := dq_each e
      have nw : ObjOk X.prog X.w (upd H p (.lst ys)) h' p (.lst ys) := ⟨by rw [rv.length, hl]; exact hz, out, n, rv, hat⟩
      obtain ⟨nH, I2⟩ := laidN (t' := s.toks) I kp hp nw
      exact ⟨.ref p, _, I2, rfl, q p ys nH dy⟩
    have du : ∀ d ∈ ds, X.A.units + 2 + d.depth < cLine := fun d m => by
      have := hd d m
      omega
    rcases hx with hx | hx
    · obtain ⟨its, rv, pl, hz⟩ := I.list hx
      obtain ⟨as, ra⟩ := DqAll.reads I ds xs its dq rv
      have er : EachIs (fun v d => ∃ as, Reads s.heap v d as) its ds := by
        have := PySem.W.readsAll_each (h := s.heap) id (vs := its) (bs := ds) (as := as) (by rw [List.map_id]; exact ra)
        exact this
      have hdz : ds.length ≤ sizeLine := by rw [← dq.length]; exact hz
      refine PySem.W.sorted_data (enc := id) pl.isList (each_dq dq rv) er (by rw [List.map_id]; exact hal) (by rw [List.map_id]; exact hk) hdz du fun out ho e => ?_
      obtain ⟨n, hat⟩ := sortedAll_at s.heap its out.toArray
      exact fin out _ _ n ho e (fun _ _ q => sortedAll_old q) (Heap.get?_none_of_le (Nat.le_succ _)) hat hdz
    · obtain ⟨its, rv, pl, hz⟩ := I.tuple hx
      obtain ⟨as, ra⟩ := DqAll.reads I ds xs its dq rv
      have er : EachIs (fun v d => ∃ as, Reads s.heap v d as) its ds := by
        have := PySem.W.readsAll_each (h := s.heap) id (vs := its) (bs := ds) (as := as) (by rw [List.map_id]; exact ra)
        exact this
      have hdz : ds.length ≤ sizeLine := by rw [← dq.length]; exact hz
      exact sorted_tuple pl (each_dq dq rv) er hal hk hdz du fun out h' p n ho e kp hp hat => fin out h' p n ho e kp hp hat hdz
end
/-- the items sorted, as data -/
def sortD (ds : List D) : List D := ds.mergeSort (dataLe false id)
def fSorted : R → (R → Prop) → Prop := fun x Q => match x.sup with
  | some d => (match seqOf d with
    | some ds => (AllAlike ds ∧ Sortable ds ∧ ∀ d ∈ ds, d.depth ≤ 60) ∧ Q (.val (.own ((sortD ds).map DV.sh)))
    | none => False)
  | none => False
section
variable {C : Zn} {X : Cx} {a b e : Expr} {es : List Expr} {pos p : Pos} {ta tb te : DT} {t : DL'}
theorem d_sorted (hu : X.A.units + 64 < cLine) (ha : PDL C X [a] t) (hm : X.mg "sorted" = none) (hg : Gl X "sorted" := by rfl)
    (he : starEach [a] X.env = (false, eval a X.env) :: starEach [] X.env := by rfl) (hpl : (backTo pos (starEach [] X.env)).any (·.1) = false := by rfl) : PD C X (.Call (.Name "sorted" p) [a] [] pos) (dCB (on1 fSorted) t) := by
  have mono : ∀ x Q Q', (∀ z, Q z → Q' z) → fSorted x Q → fSorted x Q' := fun x Q Q' m q => by
    unfold fSorted at q ⊢
    split at q
    · split at q
      · exact ⟨q.1, m _ q.2⟩
      · exact q
    · exact q
  have m1 : ∀ x Q Q', (∀ z, Q z → Q' z) → on1 fSorted x Q → on1 fSorted x Q' := fun x Q Q' m q => by
    unfold on1 at q ⊢
    split at q
    · exact mono _ _ _ m q
    · exact q
  -- the rule asks whose data: chosen behind the argument
  refine ⟨mono_cb m1 ha.mono, ?_⟩
  have key : PE X (.Call (.Name "sorted" p) [a] [] pos) (tCB (fun vs H Q => ∃ G, rSort X.K G vs H Q) (liftL C X.K t)) :=
    pe_callB (fun pins s σ H xs us Q I r h => by
      obtain ⟨G, h⟩ := h
      exact cr_sortQ (G := G) hu pins s σ H xs us Q I r h) hg hm (by decide +kernel) ha.run (by decide) (by decide) he hpl
  refine key.imp fun σ H Q h => ?_
  obtain ⟨δ, F, x, h⟩ := h
  refine ⟨δ, F, x, ha.mono δ _ _ (fun rs q F1 H1 vs g rrs => ?_) h⟩
  unfold on1 at q
  split at q
  · rename_i r
    have hl := rrs.length
    match vs, hl with
    | [v], _ =>
      obtain ⟨v', e1, r1⟩ := rrs.at (i := 0) rfl
      cases e1
      unfold fSorted at q
      split at q
      · rename_i d ed
        obtain ⟨F2, g2, _, sp⟩ := RR.sup x.bs g r1 ed
        split at q
        · rename_i ds es'
          obtain ⟨⟨c1, c2, c3⟩, q⟩ := q
          unfold seqOf at es'
          split at es'
          · cases es'
            obtain ⟨p1, ws, rfl, h1, d1⟩ := sp.lst
            refine ⟨F2, p1, ws, ds, rfl, .inl h1.sq, d1, c1, c2, c3, fun l ys n dy => ?_⟩
            obtain ⟨g3, r3⟩ := RR.newl x.bs g2 dy n
            exact q F2 _ _ g3 r3
          · cases es'
            obtain ⟨p1, ws, rfl, h1, d1⟩ := sp.tup
            refine ⟨F2, p1, ws, ds, rfl, .inr h1, d1, c1, c2, c3, fun l ys n dy => ?_⟩
            obtain ⟨g3, r3⟩ := RR.newl x.bs g2 dy n
            exact q F2 _ _ g3 r3
          · cases es'
        · exact q.elim
      · exact q.elim
  · exact q.elim
/-! ### repr -/
/-- the text is not too long -/
def sShow (d : D) : Prop := d.showable = true ∧ d.depth ≤ 60 ∧ d.shown.length ≤ sizeLine
def rRepr (K : PySem.W.Frag) : List V → Hp → VK → Prop := fun xs H Q => ∃ x d, xs = [x] ∧ Dq K Any H x d ∧ sShow d ∧ Q (.str d.shown) H
theorem call_reprQ (hu : X.A.units + 64 < cLine) (hg : X.A.guards = some []) : CallR X (.builtin "repr") (rRepr X.K) := by
  intro pins s σ H xs us Q I r h
  obtain ⟨x, d, rfl, dq, ⟨s1, s2, s3⟩, q⟩ := h
  cases r with
  | cons r1 r2 =>
    cases r2
    obtain ⟨as, rd⟩ := Dq.reads I d x _ dq r1
    have nd := Dq.noDict d x dq
    have isRef : ∀ a, x = .ref a → wpAny (model X.prog X.w) X.A (call (.builtin "repr") [.ref a]) (EP X pins σ Q) X.xe s := fun a e => by
      subst e
      cases r1
      exact PySem.repr_of_reads' rd s1 (fun z => by rw [nd] at z; cases z) hg (by omega) (fun _ _ z => z) (fun h' u tk kp => ⟨.str d.shown, H, I.kept kp, ⟨_, rfl⟩, q⟩) s3
    cases dq with
    | non => cases r1; exact PySem.P.repr_of_none ⟨.str _, H, I.tok _, ⟨_, rfl⟩, by rw [PyData.shown] at q; exact q⟩
    | bl b => cases r1; exact PySem.P.repr_of_bool ⟨.str _, H, I.tok _, ⟨_, rfl⟩, by rw [PyData.shown] at q; exact q⟩
    | int i =>
      obtain ⟨t, rfl⟩ := r1
      rw [PyData.showable] at s1
      exact PySem.P.repr_of_int (of_decide_eq_true s1) ⟨.str _, H, I.tok _, ⟨_, rfl⟩, by rw [PyData.shown] at q; exact q⟩
    | str z =>
      obtain ⟨t, rfl⟩ := r1
      rw [PyData.shown] at s3
      exact PySem.P.repr_of_str ⟨.str _, H, I.tok _, ⟨_, rfl⟩, by rw [PyData.shown] at q; exact q⟩ s3
    | lst h1 h2 => cases r1; exact isRef _ rfl
    | tup h1 h2 => cases r1; exact isRef _ rfl
def fRepr : R → (R → Prop) → Prop := fun x Q => match x.rd with
  | some d => sShow d ∧ Q (.val (.sh (.str d.shown)))
  | none => False
theorem lk_repr {K : PySem.W.Frag} : LkR1 C K (fun v H Q => rRepr K [v] H Q) fRepr := by
  refine ⟨fun x Q Q' m q => ?_, fun F0 H0 F H v x Q Q' b0 g rx q k => ?_⟩
  · unfold fRepr at q ⊢
    split at q
    · exact ⟨q.1, m _ q.2⟩
    · exact q
  · unfold fRepr at q
    split at q
    · rename_i d e
      exact ⟨v, d, rfl, (RR.rd g.ok (fun a n => b0.nzn n) rx e).anyG, q.1, k _ _ F H g (.sh (.str _)) q.2⟩
    · exact q.elim
theorem d_repr (hu : X.A.units + 64 < cLine) (hgu : X.A.guards = some []) (ha : PDL C X [a] t) (hm : X.mg "repr" = none) (hg : Gl X "repr" := by rfl)
    (he : starEach [a] X.env = (false, eval a X.env) :: starEach [] X.env := by rfl) (hpl : (backTo pos (starEach [] X.env)).any (·.1) = false := by rfl) : PD C X (.Call (.Name "repr" p) [a] [] pos) (dCB (on1 fRepr) t) :=
  d_callB (call_reprQ hu hgu) (lk_1 lk_repr) hg hm (by decide +kernel) ha (by decide) (by decide) he hpl
end
end DL
set_option Elab.async false
set_option linter.all false
set_option maxRecDepth 100000
set_option maxHeartbeats 1000000
namespace DL
open PySem PySem.Spec L2
open PyProof.Rows hiding St
/-! ### slices -/
abbrev DO := DE → (Option Int → Prop) → Prop
structure PDO (X : Cx) (C : Zn) (e : Option Expr) (t : DO) : Prop where
  mono : Mono t
  run : PO X e (fun σ H Q => ∃ δ F, At0 X.K C F H σ δ ∧ t δ fun r => ∀ F' H', Go C F H F' H' → Q r H')
def dNoPart : DO := fun _ Q => Q none
def dPart (t : DT) : DO := fun δ Q => t δ fun r => onI r fun i => Q (some i)
section
variable {C : Zn} {X : Cx} {e : Expr} {te : DT} {lo hi : Option Expr} {tl th : DO} {pos p2 : Pos}
theorem o_none : PDO X C none dNoPart := ⟨fun δ Q Q' m q => m _ q, ⟨fun pins s σ H Q I q => po_none.run pins s σ H Q I (by
  obtain ⟨δ, F, x, q⟩ := q
  exact q F H (.refl x.bs))⟩⟩
theorem o_some (h : PD C X e te) : PDO X C (some e) (dPart te) := ⟨fun δ Q Q' m q => h.mono δ _ _ (fun r q => onI_mono (fun i q => m _ q) q) q, ⟨fun pins s σ H Q I q => (po_some h.run).run pins s σ H Q I (by
  obtain ⟨δ, F, x, q⟩ := q
  refine ⟨δ, F, x, h.mono δ _ _ (fun r q F' H' v g rr => ?_) q⟩
  obtain ⟨i, rfl, q⟩ := onI_to rr q
  exact ⟨i, rfl, q F' H' g⟩)⟩⟩
/-- the items of a slice -/
def cutD (xs : List D) (lo hi : Option Int) : List D := (xs.drop (HT.sIx xs.length 0 lo)).take (HT.sIx xs.length xs.length hi - HT.sIx xs.length 0 lo)
theorem DqAll.cut {K : PySem.W.Frag} {F : Addr → Prop} {H : Hp} {vs : List V} {ds : List D} (h : DqAll K F H vs ds) (lo hi : Option Int) : DqAll K F H (cutV vs lo hi) (cutD ds lo hi) := by
  unfold cutV cutD
  rw [h.length]
  exact (h.drop _).take _
def fSl (x : R) (lo hi : Option Int) (Q : R → Prop) : Prop := match x.sup with
  | some (.tuple ds) => Q (.val (.sh (.tuple (cutD ds lo hi))))
  | some (.list ds) => Q (.val (.own ((cutD ds lo hi).map DV.sh)))
  | _ => False
def dSlice (t : DT) (tl th : DO) : DT := fun δ Q => t δ fun x => tl δ fun lo => th δ fun hi => fSl x lo hi Q
theorem fSl_mono {x : R} {lo hi : Option Int} {Q Q' : R → Prop} (m : ∀ r, Q r → Q' r) (q : fSl x lo hi Q) : fSl x lo hi Q' := by
  unfold fSl at q ⊢
  split at q
  · exact m _ q
  · exact m _ q
  · exact q
theorem d_slice (h : PD C X e te) (hl : PDO X C lo tl) (hh : PDO X C hi th) : PD C X (.Subscript e (.Slice lo hi none p2) pos) (dSlice te tl th) := by
  refine ⟨fun δ Q Q' m q => h.mono δ _ _ (fun x q => hl.mono δ _ _ (fun l q => hh.mono δ _ _ (fun u q => fSl_mono m q) q) q) q, (pe_slice (sl_list.or sl_tupA) h.run hl.run hh.run).imp fun σ H Q q => ?_⟩
  obtain ⟨δ, F, x, q⟩ := q
  refine ⟨δ, F, x, h.mono δ _ _ (fun r q F1 H1 v g1 rr => ⟨δ, F1, x.go g1, hl.mono δ _ _ (fun l q F2 H2 g2 => ⟨δ, F2, (x.go g1).go g2, hh.mono δ _ _ (fun u q F3 H3 g3 => ?_) q⟩) q⟩) q⟩
  have g := g2.trans g1.ok g3
  have gg := g1.trans x.bs g
  have rr3 := rr.go g1.ok (fun a n => x.bs.nzn n) g
  unfold fSl at q
  split at q
  · rename_i ds e1
    obtain ⟨F4, g4, _, s⟩ := RR.sup x.bs gg rr3 e1
    obtain ⟨a, vs, rfl, h1, d1⟩ := s.tup
    refine .inr ⟨a, vs, rfl, h1, fun w => ?_, fun _ p n => ?_⟩
    · have e : cutD ds l u = ds := by
        unfold cutD
        rw [← d1.length, w.1, w.2, List.drop_zero, Nat.sub_zero, d1.length, List.take_length]
      rw [e] at q
      exact q F4 H3 _ g4 (.sh (.tup h1 d1))
    · obtain ⟨g5, r5⟩ := RR.newt x.bs g4 (d1.cut l u) n
      exact q F4 _ _ g5 r5
  · rename_i ds e1
    obtain ⟨F4, g4, _, s⟩ := RR.sup x.bs gg rr3 e1
    obtain ⟨a, vs, rfl, h1, d1⟩ := s.lst
    refine .inl ⟨a, vs, rfl, h1.sq, fun p n => ?_⟩
    obtain ⟨g5, r5⟩ := RR.newl x.bs g4 (d1.cut l u) n
    exact q F4 _ _ g5 r5
  · exact q.elim
theorem tail1 (p : Pos) (d : D) (ds : List D) : cutD (d :: ds) (some 1) none = ds := by
  unfold cutD HT.sIx
  simp
end
/-! ### zip of two tuples, of two lists -/
section
variable {C : Zn} {X : Cx} {tg : Expr} {e a b : Expr} {es : List Expr} {pos p tpos : Pos} {t : DL'} {te : DT}
def zipD : List D → List D → List D
  | x :: xs, y :: ys => .tuple [x, y] :: zipD xs ys
  | _, _ => []
theorem zipD_get : ∀ (xs ys : List D) (i : Nat) (d : D), (zipD xs ys)[i]? = some d → ∃ x y, xs[i]? = some x ∧ ys[i]? = some y ∧ d = .tuple [x, y]
  | [], _, _, _, h => by simp [zipD] at h
  | _ :: _, [], _, _, h => by simp [zipD] at h
  | x :: xs, y :: ys, 0, d, h => by
    rw [zipD, List.getElem?_cons_zero] at h
    exact ⟨x, y, rfl, rfl, (Option.some.inj h).symm⟩
  | x :: xs, y :: ys, i + 1, d, h => by
    rw [zipD, List.getElem?_cons_succ] at h
    obtain ⟨u, w, h1, h2, h3⟩ := zipD_get xs ys i d h
    exact ⟨u, w, by simpa using h1, by simpa using h2, h3⟩
theorem zipD_len : ∀ xs ys : List D, (zipD xs ys).length = min xs.length ys.length
  | [], ys => by simp [zipD]
  | _ :: _, [] => by simp [zipD]
  | x :: xs, y :: ys => by rw [zipD, List.length_cons, zipD_len xs ys, List.length_cons, List.length_cons]; omega
theorem ir_zipT {K : PySem.W.Frag} {P : (Addr → Prop) → Hp → Prop} {a b : Addr} {ds es : List D} (h1 : ∀ F H, Bs C F H → P F H → ∃ vs, SqT K H a vs ∧ DqAll K F H vs ds) (h2 : ∀ F H, Bs C F H → P F H → ∃ vs, SqT K H b vs ∧ DqAll K F H vs es) : IR C K P (RZ.ItzT K a b) (zipD ds es) := by
  refine ⟨fun F H bs pp i d e => ?_, fun F H bs pp => ?_⟩
  · obtain ⟨vs, u1, u2⟩ := h1 F H bs pp
    obtain ⟨ws, w1, w2⟩ := h2 F H bs pp
    obtain ⟨x, y, e1, e2, rfl⟩ := zipD_get _ _ _ _ e
    obtain ⟨v, z1, z2⟩ := u2.get e1
    obtain ⟨w, z3, z4⟩ := w2.get e2
    refine ⟨⟨vs, ws, v, w, u1, w1, z1, z3⟩, fun x' H' yy => ?_⟩
    obtain ⟨T, x0, y0, rfl, hT, rfl, q1, q2⟩ := yy
    have := q1 vs u1
    rw [z1] at this; cases this
    have := q2 ws w1
    rw [z3] at this; cases this
    have g := Go.laid (o := .tup [v, w]) bs hT
    exact ⟨F, g, .tup (.inl (.inl upd_same)) (DqAll.mono (g.keep bs) _ _ (.cons z2 (.cons z4 .nil)))⟩
  · obtain ⟨vs, u1, u2⟩ := h1 F H bs pp
    obtain ⟨ws, w1, w2⟩ := h2 F H bs pp
    refine ⟨vs, ws, u1, w1, ?_⟩
    rw [u2.length, w2.length, zipD_len]
    omega
theorem ir_zipL {K : PySem.W.Frag} {P : (Addr → Prop) → Hp → Prop} {a b : Addr} {ds es : List D} (h1 : ∀ F H, Bs C F H → P F H → ∃ vs, SqL K H a vs ∧ DqAll K F H vs ds) (h2 : ∀ F H, Bs C F H → P F H → ∃ vs, SqL K H b vs ∧ DqAll K F H vs es) : IR C K P (Itz K a b) (zipD ds es) := by
  refine ⟨fun F H bs pp i d e => ?_, fun F H bs pp => ?_⟩
  · obtain ⟨vs, u1, u2⟩ := h1 F H bs pp
    obtain ⟨ws, w1, w2⟩ := h2 F H bs pp
    obtain ⟨x, y, e1, e2, rfl⟩ := zipD_get _ _ _ _ e
    obtain ⟨v, z1, z2⟩ := u2.get e1
    obtain ⟨w, z3, z4⟩ := w2.get e2
    refine ⟨⟨vs, ws, v, w, u1, w1, z1, z3⟩, fun x' H' yy => ?_⟩
    obtain ⟨T, x0, y0, rfl, hT, rfl, q1, q2⟩ := yy
    have := q1 vs u1
    rw [z1] at this; cases this
    have := q2 ws w1
    rw [z3] at this; cases this
    have g := Go.laid (o := .tup [v, w]) bs hT
    exact ⟨F, g, .tup (.inl (.inl upd_same)) (DqAll.mono (g.keep bs) _ _ (.cons z2 (.cons z4 .nil)))⟩
  · obtain ⟨vs, u1, u2⟩ := h1 F H bs pp
    obtain ⟨ws, w1, w2⟩ := h2 F H bs pp
    refine ⟨vs, ws, u1, w1, ?_⟩
    rw [u2.length, w2.length, zipD_len]
    omega
/-- zip(e1, e2): k as with PDI -/
def dZip (k : Bool) (t : DL') : DI := fun δ Q => t δ fun rs => match rs with
  | [x, y] => (match (if k then x.fd else x.sup), (if k then y.fd else y.sup) with
    | some (.tuple ds), some (.tuple es) => Q (zipD ds es)
    | some (.list ds), some (.list es) => Q (zipD ds es)
    | _, _ => False)
  | _ => False
theorem Sup.ofFd {K : PySem.W.Frag} {F0 F F' : Addr → Prop} {H0 H : Hp} {v w : V} {x y : R} {d e : D} (b0 : Bs C F0 H0) (g : Go C F0 H0 F H) (hx : RR K C F H0 H v x) (hy : RR K C F H0 H w y) (ex : x.fd = some d) (ey : y.fd = some e) : ∃ F', Go C F0 H0 F' H ∧ Dq K F' H v d ∧ Dq K F' H w e := by
  obtain ⟨F1, g1, k1, s1⟩ := RR.fd b0 g hx ex
  obtain ⟨F2, g2, k2, s2⟩ := RR.fd b0 g hy ey
  exact ⟨_, g1.join g2, Dq.mono (.weak fun a m => .inl m) _ _ s1, Dq.mono (.weak fun a m => .inr m) _ _ s2⟩
theorem i_zip {k : Bool} {elts : List Expr} {kk : Nat} (ha : PDL C X [a, b] t) (hm : X.mg "zip" = none) (hg : Gl X "zip" := by rfl)
    (hs : starEach [a, b] X.env = (false, eval a X.env) :: starEach [b] X.env := by rfl) (hpl : (backTo pos (starEach [b] X.env)).any (·.1) = false := by rfl) :
    PDI C X k (.Tuple elts kk tpos) (.Call (.Name "zip" p) [a, b] [] pos) (dZip k t) := by
  refine ⟨fun δ Q Q' m q => ha.mono δ _ _ (fun rs q => ?_) q, (RZ.pi_zipA hg hm ha.run hs hpl).imp fun σ H R q => ?_⟩
  · split at q
    · split at q
      · exact m _ q
      · exact m _ q
      · exact q
    · exact q
  · obtain ⟨δ, F, x, q⟩ := q
    refine ⟨δ, F, x, ha.mono δ _ _ (fun rs q F1 H1 vs g rrs => ?_) q⟩
    split at q
    · rename_i r1 r2
      have hl := rrs.length
      match vs, hl with
      | [v, w], _ =>
        obtain ⟨v', e1, q1⟩ := rrs.at (i := 0) rfl
        obtain ⟨w', e2, q2⟩ := rrs.at (i := 1) rfl
        cases e1
        cases e2
        cases k with
        | true =>
          simp only [if_true] at q
          split at q
          · rename_i ds es e1 e2
            obtain ⟨F2, g2, s1, s2⟩ := Sup.ofFd (F' := F1) x.bs g q1 q2 e1 e2
            cases s1 with
            | tup a1 a2 => cases s2 with
              | tup b1 b2 => exact ⟨_, _, _, _, rfl, .inr ⟨a1, b1, q F2 H1 _ g2 (ir_zipT (fun F H b p => ⟨_, Keep.sqT p a1, DqAll.mono p _ _ a2⟩) fun F H b p => ⟨_, Keep.sqT p b1, DqAll.mono p _ _ b2⟩)⟩⟩
          · rename_i ds es e1 e2
            obtain ⟨F2, g2, s1, s2⟩ := Sup.ofFd (F' := F1) x.bs g q1 q2 e1 e2
            cases s1 with
            | lst a1 a2 => cases s2 with
              | lst b1 b2 => exact ⟨_, _, _, _, rfl, .inl ⟨a1.sq, b1.sq, q F2 H1 _ g2 (ir_zipL (fun F H b p => ⟨_, (Keep.lstAt p a1).sq, DqAll.mono p _ _ a2⟩) fun F H b p => ⟨_, (Keep.lstAt p b1).sq, DqAll.mono p _ _ b2⟩)⟩⟩
          · exact q.elim
        | false =>
          simp only [Bool.false_eq_true, if_false] at q
          split at q
          · rename_i ds es e1 e2
            obtain ⟨F2, g2, s1, s2⟩ := sup2 x.bs g q1 q2 e1 e2
            obtain ⟨a, us, rfl, a1, a2⟩ := s1.tup
            obtain ⟨b, ws, rfl, b1, b2⟩ := s2.tup
            refine ⟨_, _, _, _, rfl, .inr ⟨a1, b1, q F2 H1 _ g2 (ir_zipT (fun F H b p => ?_) fun F H b p => ?_)⟩⟩
            · have p : Go C F2 H1 F H := p
              exact ⟨_, Keep.sqT (p.keep g2.ok) a1, DqAll.mono (p.keep g2.ok) _ _ a2⟩
            · have p : Go C F2 H1 F H := p
              exact ⟨_, Keep.sqT (p.keep g2.ok) b1, DqAll.mono (p.keep g2.ok) _ _ b2⟩
          · rename_i ds es e1 e2
            obtain ⟨F2, g2, s1, s2⟩ := sup2 x.bs g q1 q2 e1 e2
            obtain ⟨a, us, rfl, a1, a2⟩ := s1.lst
            obtain ⟨b, ws, rfl, b1, b2⟩ := s2.lst
            refine ⟨_, _, _, _, rfl, .inl ⟨a1.sq, b1.sq, q F2 H1 _ g2 (ir_zipL (fun F H b p => ?_) fun F H b p => ?_)⟩⟩
            · have p : Go C F2 H1 F H := p
              exact ⟨_, (Keep.lstAt (p.keepZ g2.ok) a1).sq, DqAll.mono (p.keep g2.ok) _ _ a2⟩
            · have p : Go C F2 H1 F H := p
              exact ⟨_, (Keep.lstAt (p.keepZ g2.ok) b1).sq, DqAll.mono (p.keep g2.ok) _ _ b2⟩
          · exact q.elim
    · exact q.elim
end
/-! ### min, max of a tuple of whole numbers -/
def numsOf : List D → Option (List Int)
  | [] => some []
  | .int b :: ds => (numsOf ds).map (b :: ·)
  | _ => none
theorem numsOf_map : ∀ bs : List Int, numsOf (bs.map PyData.int) = some bs
  | [] => rfl
  | b :: bs => by rw [List.map_cons, numsOf, numsOf_map bs]; rfl
theorem numsOf_eq : ∀ {ds : List D} {bs : List Int}, numsOf ds = some bs → ds = bs.map PyData.int
  | [], _, h => by cases h; rfl
  | .int b :: ds, bs, h => by
    rw [numsOf] at h
    obtain ⟨cs, e1, e2⟩ := Option.map_eq_some_iff.mp h
    subst e2
    rw [numsOf_eq e1]; rfl
  | .none :: _, _, h => by cases h
  | .bool _ :: _, _, h => by cases h
  | .str _ :: _, _, h => by cases h
  | .list _ :: _, _, h => by cases h
  | .tuple _ :: _, _, h => by cases h
  | .dict _ :: _, _, h => by cases h
def rMinT (K : PySem.W.Frag) (g : Int → List Int → Int) : List V → Hp → VK → Prop := fun vs H Q => ∃ (a : Addr) (n : Int) (ns : List Int), vs = [V.ref a] ∧ SqT K H a ((n :: ns).map V.int) ∧ Q (.int (g n ns)) H
theorem ints_alike (xs : List Int) : PySem.W.AlikeAll (xs.map PyData.int) := by
  refine ⟨fun x hx y hy => ?_, fun x hx => ?_⟩
  · obtain ⟨i, _, rfl⟩ := List.mem_map.mp hx
    obtain ⟨j, _, rfl⟩ := List.mem_map.mp hy
    rfl
  · obtain ⟨i, _, rfl⟩ := List.mem_map.mp hx
    intro h; cases h
theorem ints_depth : ∀ xs : List Int, PyData.depthAll (xs.map PyData.int) ≤ 1
  | [] => by rw [List.map_nil, PyData.depthAll]; omega
  | x :: xs => by
    rw [List.map_cons, PyData.depthAll, PyData.depth]
    have := ints_depth xs
    omega
theorem cr_minT {X : Cx} (hc : X.calm = true) (hu : X.A.units + 64 < cLine) : CallR X (.builtin "min") (rMinT X.K fun n ns => ns.foldl min n) := by
  intro pins s σ H vs us Q I r h
  obtain ⟨a, n, ns, rfl, hs, q⟩ := h
  obtain ⟨its, rv, hl, _⟩ := I.tuple hs
  rw [Vals.ref1 r]
  obtain ⟨as, ra⟩ := DqAll.reads (G := Any) I _ _ _ (DqAll.ofInts (n :: ns)) rv
  have ra' : ReadsAll s.heap its.toArray.toList (.int n :: ns.map PyData.int) as := by simpa using ra
  have dp := ints_depth (n :: ns)
  refine PySem.W.min_tuple_data (I.ok.hd hc) hl ra' (ints_alike (n :: ns)) (by rw [List.map_cons] at dp; omega) fun i v h' tk bs hv rd hk => ?_
  rw [PySem.W.minD_ints] at rd
  cases rd
  exact ⟨.int _, H, I.kept hk, ⟨_, rfl⟩, q⟩
theorem cr_maxT {X : Cx} (hc : X.calm = true) (hu : X.A.units + 64 < cLine) : CallR X (.builtin "max") (rMinT X.K fun n ns => ns.foldl max n) := by
  intro pins s σ H vs us Q I r h
  obtain ⟨a, n, ns, rfl, hs, q⟩ := h
  obtain ⟨its, rv, hl, _⟩ := I.tuple hs
  rw [Vals.ref1 r]
  obtain ⟨as, ra⟩ := DqAll.reads (G := Any) I _ _ _ (DqAll.ofInts (n :: ns)) rv
  have ra' : ReadsAll s.heap its.toArray.toList (.int n :: ns.map PyData.int) as := by simpa using ra
  have dp := ints_depth (n :: ns)
  refine PySem.W.max_tuple_data (I.ok.hd hc) hl ra' (ints_alike (n :: ns)) (by rw [List.map_cons] at dp; omega) fun i v h' tk bs hv rd hk => ?_
  rw [PySem.W.maxD_ints] at rd
  cases rd
  exact ⟨.int _, H, I.kept hk, ⟨_, rfl⟩, q⟩
def fMinT (g : Int → List Int → Int) : R → (R → Prop) → Prop := fun x Q => match x.rd with
  | some (.tuple ds) => (match numsOf ds with
    | some (n :: ns) => Q (.val (.sh (.int (g n ns))))
    | _ => False)
  | _ => False
theorem lk_minT {C : Zn} {K : PySem.W.Frag} {g : Int → List Int → Int} : LkR1 C K (fun v H Q => rMinT K g [v] H Q) (fMinT g) := by
  refine ⟨fun x Q Q' m q => ?_, fun F0 H0 F H v x Q Q' b0 gg rx q k => ?_⟩
  · unfold fMinT at q ⊢
    split at q
    · split at q
      · exact m _ q
      · exact q
    · exact q
  · unfold fMinT at q
    split at q
    · rename_i ds e
      split at q
      · rename_i n ns en
        have h := RR.rd gg.ok (fun a n => b0.nzn n) rx e
        cases h with
        | tup h1 h2 =>
          rw [numsOf_eq en] at h2
          exact ⟨_, n, ns, rfl, by rw [← h2.ints]; exact h1, k _ _ F H gg (.sh (.int _)) q⟩
      · exact q.elim
    · exact q.elim
section
variable {C : Zn} {X : Cx} {a : Expr} {pos p : Pos} {t : DL'}
theorem d_minT (hc : X.calm = true) (hu : X.A.units + 64 < cLine) (ha : PDL C X [a] t) (hm : X.mg "min" = none) (hg : Gl X "min" := by rfl)
    (he : starEach [a] X.env = (false, eval a X.env) :: starEach [] X.env := by rfl) (hpl : (backTo pos (starEach [] X.env)).any (·.1) = false := by rfl) : PD C X (.Call (.Name "min" p) [a] [] pos) (dCB (on1 (fMinT fun n ns => ns.foldl min n)) t) :=
  d_callB (cr_minT hc hu) (lk_1 lk_minT) hg hm (by decide +kernel) ha (by decide) (by decide) he hpl
theorem d_maxT (hc : X.calm = true) (hu : X.A.units + 64 < cLine) (ha : PDL C X [a] t) (hm : X.mg "max" = none) (hg : Gl X "max" := by rfl)
    (he : starEach [a] X.env = (false, eval a X.env) :: starEach [] X.env := by rfl) (hpl : (backTo pos (starEach [] X.env)).any (·.1) = false := by rfl) : PD C X (.Call (.Name "max" p) [a] [] pos) (dCB (on1 (fMinT fun n ns => ns.foldl max n)) t) :=
  d_callB (cr_maxT hc hu) (lk_1 lk_minT) hg hm (by decide +kernel) ha (by decide) (by decide) he hpl
/-! ### a tuple whose object is known; its index -/
theorem call_tuple_kt : CallR X (.type "tuple") (fun xs H Q => ∃ p ys, xs = [.ref p] ∧ SqL X.K H p ys ∧ ∀ l o, H l = none → o.dict = none → Q (.ref l) (upd H l (.frz o (.tup ys)))) := by
  intro pins s σ H xs us Q I r h
  obtain ⟨p, ys, rfl, hq, q⟩ := h
  rw [Vals.ref1 r]
  obtain ⟨its, r', pl, hz⟩ := I.list hq
  have hlen := r'.length
  refine call_tuple_list pl.isList (fun h' kp => ?_) (by simp only [List.size_toArray]; omega)
  have J := I.kept (t' := s.toks) kp
  have new : ObjOk X.prog X.w (upd H h'.objs.size (.frz { cls := .type "tuple", data := .seq its.toArray } (.tup ys))) (h'.push { cls := .type "tuple", data := .seq its.toArray }) h'.objs.size (.frz { cls := .type "tuple", data := .seq its.toArray } (.tup ys)) :=
    ⟨Heap.get?_push_size _ rfl, hz, its, r', IsTup.new _ _⟩
  exact ⟨.ref h'.objs.size, _, J.laid (t' := s.toks) (fun b o z => Heap.get?_push_of_some _ z) (Nat.le_refl _) new, rfl, q _ _ (J.hok.fresh (Nat.le_refl _)) rfl⟩
def fTupK : R → (R → Prop) → Prop := fun x Q => match x.sup with
  | some (.list ds) => Q (.val (.kt ds))
  | _ => False
theorem lk_tupK {C : Zn} {K : PySem.W.Frag} : LkR1 C K (fun v H Q => ∃ p ys, [v] = [V.ref p] ∧ SqL K H p ys ∧ ∀ l o, H l = none → o.dict = none → Q (.ref l) (upd H l (.frz o (.tup ys)))) fTupK := by
  refine ⟨fun x Q Q' m q => ?_, fun F0 H0 F H v x Q Q' b0 g rx q k => ?_⟩
  · unfold fTupK at q ⊢
    split at q
    · exact m _ q
    · exact q
  · unfold fTupK at q
    split at q
    · rename_i ds e
      obtain ⟨F2, g2, _, s⟩ := RR.sup b0 g rx e
      obtain ⟨p1, vs, rfl, h1, d1⟩ := s.lst
      refine ⟨p1, vs, rfl, h1.sq, fun p o n hd => ?_⟩
      have g3 := Go.laid (o := .frz o (.tup vs)) g2.ok n
      exact k (.val (.kt ds)) _ F2 _ (g2.trans b0 g3) ⟨[], .kt upd_same hd (DqAll.mono (g3.keep g2.ok) _ _ d1), List.nodup_nil, fun _ m => by cases m⟩ q
    · exact q.elim
theorem d_tupleK (ha : PDL C X [a] t) (hm : X.mg "tuple" = none) (hg : Gl X "tuple" := by rfl)
    (he : starEach [a] X.env = (false, eval a X.env) :: starEach [] X.env := by rfl) (hpl : (backTo pos (starEach [] X.env)).any (·.1) = false := by rfl) : PD C X (.Call (.Name "tuple" p) [a] [] pos) (dCB (on1 fTupK) t) :=
  d_callTy call_tuple_kt (lk_1 lk_tupK) hg hm (by decide +kernel) ha (by decide) (by decide) he hpl
end
section
variable {C : Zn} {X : Cx} {o e : Expr} {es : List Expr} {apos cpos : Pos} {to : TE} {t : TA} {te : DT}
/-- x.index(e), x a tuple of whole numbers whose object is known -/
def dIndex (i : Nat) (te : DT) : DT := fun δ Q => match δ[i]? with
  | some (some (.kt ds)) => (match numsOf ds with
    | some ns => te δ fun r => onI r fun n => n ∈ ns ∧ Q (.val (.sh (.int (ns.idxOf n : Nat))))
    | none => False)
  | _ => False
end
end DL
set_option Elab.async false
set_option linter.all false
set_option maxRecDepth 100000
set_option maxHeartbeats 1000000
namespace DL
open PySem PySem.Spec L2
open PyProof.Rows hiding St
/-! ### comprehensions with two clauses -/
def lcRun2 (pat : DP) (tst : DB) (it1 : DI) (pat1 : DP) (tst1 : DB) (elt : DT) (vs1 : List Nat) (δ : DE) : List D → List DV → (List DV → Prop) → Prop
  | [], acc, Q => Q acc
  | d :: ds, acc, Q => pat d δ fun δ' => tst δ' fun k => if k = true then
      it1 δ' fun es => lcRun pat1 tst1 elt (wipeD δ' vs1) es acc fun acc' => lcRun2 pat tst it1 pat1 tst1 elt vs1 δ ds acc' Q
    else lcRun2 pat tst it1 pat1 tst1 elt vs1 δ ds acc Q
def dLc2 (it : DI) (pat : DP) (tst : DB) (it1 : DI) (pat1 : DP) (tst1 : DB) (elt : DT) (vs vs1 : List Nat) : DT := fun δ Q => it δ fun ds => lcRun2 pat tst it1 pat1 tst1 elt vs1 (wipeD δ vs) ds [] fun acc => Q (.val (.own acc))
theorem mono_lcRun2 {pat pat1 : DP} {tst tst1 : DB} {it1 : DI} {elt : DT} {vs1 : List Nat} (hp : ∀ d, Mono (pat d)) (ht : Mono tst) (hi : Mono it1) (hp1 : ∀ d, Mono (pat1 d)) (ht1 : Mono tst1) (he : Mono elt) (δ : DE) {Q Q' : List DV → Prop} (m : ∀ a, Q a → Q' a) : ∀ (ds : List D) (acc : List DV), lcRun2 pat tst it1 pat1 tst1 elt vs1 δ ds acc Q → lcRun2 pat tst it1 pat1 tst1 elt vs1 δ ds acc Q'
  | [], acc, q => m _ q
  | d :: ds, acc, q => hp d δ _ _ (fun δ' q => ht δ' _ _ (fun k q => by
    cases k with
    | false => exact mono_lcRun2 hp ht hi hp1 ht1 he δ m ds acc q
    | true => exact hi δ' _ _ (fun es q => mono_lcRun hp1 ht1 he _ (fun acc' q => mono_lcRun2 hp ht hi hp1 ht1 he δ m ds acc' q) es acc q) q) q) q
section
variable {C : Zn} {X : Cx}
/-- the names as the data says, p not theirs -/
def AtP (K : PySem.W.Frag) (C : Zn) (p : Addr) (F : Addr → Prop) (H : Hp) (σ : St) (δ : DE) : Prop := ∃ as, Envs K C F H σ δ as ∧ as.Nodup ∧ (∀ a ∈ as, ¬ F a ∧ ¬ C.Z a) ∧ p ∉ as ∧ Bs C F H
section
variable {K : PySem.W.Frag} {p : Addr} {F F' : Addr → Prop} {H H' : Hp} {σ σ' : St} {δ δ' : DE}
theorem AtP.at0 (x : AtP K C p F H σ δ) : At0 K C F H σ δ := by
  obtain ⟨as, e, nd, o, _, b⟩ := x
  exact ⟨as, e, nd, o, b⟩
theorem AtP.bs (x : AtP K C p F H σ δ) : Bs C F H := x.at0.bs
theorem AtP.of (x : At0 K C F H σ δ) (n : H p = none) : AtP K C p F H σ δ := by
  obtain ⟨as, e, nd, o, b⟩ := x
  refine ⟨as, e, nd, o, fun m => ?_, b⟩
  obtain ⟨u, q, _⟩ := e.there p m
  rw [n] at q; cases q
theorem AtP.go (x : AtP K C p F H σ δ) (g : Go C F H F' H') : AtP K C p F' H' σ δ := by
  obtain ⟨as, e, nd, o, np, b⟩ := x
  obtain ⟨s, o'⟩ := g.own b e.there o
  exact ⟨as, e.mono (g.keep b) s, nd, o', np, g.ok⟩
theorem AtP.wipe (x : AtP K C p F H σ δ) (vs : List Nat) : AtP K C p F H (wipe σ vs) (wipeD δ vs) := by
  obtain ⟨as, e, nd, o, np, b⟩ := x
  obtain ⟨as', e', s⟩ := e.wipe vs
  exact ⟨as', e', nd.sublist s, fun a m => o a (s.subset m), fun m => np (s.subset m), b⟩
theorem AtP.rst (x : AtP K C p F H σ δ) (r : Rst K C F H σ δ σ' δ') : AtP K C p F H σ' δ' := by
  obtain ⟨as, e, nd, o, np, b⟩ := x
  obtain ⟨as', e', s⟩ := r as e
  exact ⟨as', e', nd.sublist s, fun a m => o a (s.subset m), fun m => np (s.subset m), b⟩
theorem AtP.put {o : HO} (x : AtP K C p F H σ δ) (m : Mut (H p)) (nf : ¬ F p) (b : Bs C F (upd H p o)) : AtP K C p F (upd H p o) σ δ := by
  obtain ⟨as, e, nd, oo, np, _⟩ := x
  exact ⟨as, e.mono (.put m nf) fun a mm => upd_ne fun z => np (z ▸ mm), nd, oo, np, b⟩
end
/-- more items: all but the list itself is kept -/
theorem Acc.push' {K : PySem.W.Frag} {F1 F F' : Addr → Prop} {H1 H H' : Hp} {p : Addr} {acc : List DV} {v : V} {dv : DV} (b1 : Bs C F1 H1) (n1 : H1 p = none) (h : Acc K C F1 H1 p acc F H) (g : Go C F H F' H') (rr : RR K C F' H H' v (.val dv)) :
    ∃ vs, H' p = some (.lst vs) ∧ vs.length = acc.length ∧ Acc K C F1 H1 p (acc ++ [dv]) F' (upd H' p (.lst (vs ++ [v]))) ∧ Keep F H F' (upd H' p (.lst (vs ++ [v]))) := by
  obtain ⟨vs, e1, e2, A⟩ := h.push b1 n1 g rr
  refine ⟨vs, e1, e2, A, (g.keep h.go.ok).trans (.put (by rw [e1]; trivial) A.nf)⟩
theorem lc2_to {K : PySem.W.Frag} {vs vs1 is is1 : List Nat} {it it1 : DI} {pat pat1 : DP} {tst tst1 : DB} {te : DT} (iim : Mono it) (gm : ∀ d, Mono (pat d)) (tm : Mono tst) (im : Mono it1) (gm1 : ∀ d, Mono (pat1 d)) (tm1 : Mono tst1) (em : Mono te) (his : ∀ i ∈ is, i ∈ vs) (his1 : ∀ i ∈ is1, i ∈ vs1) {σ : St} {H : Hp} {Q : VK} (q : lift C K (dLc2 it pat tst it1 pat1 tst1 te vs vs1) σ H Q) :
    tLc2 (liftI C K false it) (liftG C K is pat) (liftB C K tst) (liftI C K true it1) (liftG C K is1 pat1) (liftB C K tst1) (lift C K te) vs vs1 σ H Q := by
  obtain ⟨δ, F, x, q⟩ := q
  refine ⟨δ, F, x, iim δ _ _ (fun ds q F1 H1 J g ir => ?_) q⟩
  intro p n
  have x1 := x.go g
  have b1 := g.ok
  refine ⟨fun i m H' => m = ds.length - i ∧ i ≤ ds.length ∧ ∃ F' acc, Acc K C F1 H1 p acc F' H' ∧ lcRun2 pat tst it1 pat1 tst1 te vs1 (wipeD δ vs) (ds.drop i) acc _, ⟨ds.length, by simp, Nat.zero_le _, F1, [], Acc.start b1 n, q⟩, ?_⟩
  rintro i m H' ⟨rfl, hi', F', acc, A, q⟩
  by_cases hlt : i < ds.length
  · have ed : ds[i]? = some ds[i] := List.getElem?_eq_getElem hlt
    have gP : Go C F1 H1 F' H' := A.go
    obtain ⟨go, yl⟩ := ir.item F' H' gP.ok gP i _ ed
    refine .inr ⟨go, fun H'' => ∃ F'' acc', Acc K C F1 H1 p acc' F'' H'' ∧ lcRun2 pat tst it1 pat1 tst1 te vs1 (wipeD δ vs) (ds.drop (i + 1)) acc' _, fun H'' ⟨F'', acc', A', q'⟩ => ⟨ds.length - (i + 1), by omega, rfl, hlt, F'', acc', A', q'⟩, fun y H'' yy => ?_⟩
    obtain ⟨F2, g2, dq⟩ := yl y H'' yy
    have A2 := A.step b1 n g2
    rw [List.drop_eq_getElem_cons hlt] at q
    have x2 : AtP K C p F2 H'' (wipe σ vs) (wipeD δ vs) := ((AtP.of x1 n).go A2.go).wipe _
    refine ⟨_, F2, ds[i], x2.at0, dq, gm _ _ _ _ (fun δ' q σ' k w => ⟨(w _ his).trans (wipe_sub σ _ fun _ m => m), ?_⟩) q⟩
    refine ⟨δ', F2, (x2.rst k).at0, tm δ' _ _ (fun kk q F3 H3 g3 => ?_) q⟩
    have A3 := A2.step b1 n g3
    have x3 := (x2.rst k).go g3
    cases kk with
    | false => exact ⟨F3, acc, A3, q⟩
    | true =>
      refine ⟨δ', F3, x3.at0, im δ' _ _ (fun es q F4 H4 J1 g4 ir1 => ?_) q⟩
      have A4 := A3.step b1 n g4
      have x4 := x3.go g4
      -- the inner turns
      refine ⟨fun j m H5 => m = es.length - j ∧ j ≤ es.length ∧ ∃ F5 acc5, Acc K C F1 H1 p acc5 F5 H5 ∧ Keep F4 H4 F5 H5 ∧ AtP K C p F5 H5 σ' δ' ∧ lcRun pat1 tst1 te (wipeD δ' vs1) (es.drop j) acc5 _, ⟨es.length, by simp, Nat.zero_le _, F4, acc, A4, .refl, x4, q⟩, ?_⟩
      rintro j m H5 ⟨rfl, hj', F5, acc5, A5, k5, x5, q⟩
      by_cases hjt : j < es.length
      · have ej : es[j]? = some es[j] := List.getElem?_eq_getElem hjt
        obtain ⟨go1, yl1⟩ := ir1.item F5 H5 x5.bs k5 j _ ej
        refine .inr ⟨go1, fun H6 => ∃ F6 acc6, Acc K C F1 H1 p acc6 F6 H6 ∧ Keep F4 H4 F6 H6 ∧ AtP K C p F6 H6 σ' δ' ∧ lcRun pat1 tst1 te (wipeD δ' vs1) (es.drop (j + 1)) acc6 _, fun H6 ⟨F6, acc6, A6, k6, x6, q6⟩ => ⟨es.length - (j + 1), by omega, rfl, hjt, F6, acc6, A6, k6, x6, q6⟩, fun y1 H6 yy1 => ?_⟩
        obtain ⟨F6, g6, dq1⟩ := yl1 y1 H6 yy1
        have A6 := A5.step b1 n g6
        have k6 := k5.trans (g6.keep x5.bs)
        have x6 := x5.go g6
        rw [List.drop_eq_getElem_cons hjt] at q
        have x6w := x6.wipe vs1
        refine ⟨_, F6, es[j], x6w.at0, dq1, gm1 _ _ _ _ (fun δ7 q σ7 r7 w7 => ⟨(w7 _ his1).trans (wipe_sub σ' _ fun _ m => m), ?_⟩) q⟩
        refine ⟨δ7, F6, r7.at0 x6w.at0, tm1 δ7 _ _ (fun kk q F7 H7 g7 => ?_) q⟩
        have A7 := A6.step b1 n g7
        have k7 := k6.trans (g7.keep x6.bs)
        have x7 := x6.go g7
        cases kk with
        | false => exact ⟨F7, acc5, A7, k7, x7, q⟩
        | true =>
          refine ⟨δ7, F7, (r7.at0 x6w.at0).go g7, em δ7 _ _ (fun r q F8 H8 v g8 rr => ?_) q⟩
          split at q
          · rename_i dv e
            obtain ⟨vs, e1, e2, A8, k8⟩ := A7.push' b1 n g8 (rr.fx g8.ok e)
            refine ⟨vs, e1, by rw [e2]; exact q.1, F8, _, A8, k7.trans k8, ?_, q.2⟩
            exact (x7.go g8).put (by rw [e1]; trivial) A8.nf A8.go.ok
          · exact q.elim
      · have e : j = es.length := by omega
        subst e
        rw [List.drop_length] at q
        exact .inl ⟨ir1.stop F5 H5 x5.bs k5, F5, acc5, A5, q⟩
  · have e : i = ds.length := by omega
    subst e
    refine .inl ⟨ir.stop F' H' A.go.ok A.go, ?_⟩
    rw [List.drop_length] at q
    have gg := g.trans x.bs A.go
    have rr := A.rr n
    exact q F' H' _ gg (rr.older x.bs g)
end
end DL
set_option Elab.async false
set_option linter.all false
set_option maxRecDepth 100000
set_option maxHeartbeats 1000000
namespace DL
open PySem PySem.Spec L2
open PyProof.Rows hiding St
open PySem.W (alike dataLt dataLe AllAlike Sortable EachIs)
def putT (ks : List TKey) (k : List Key) (b : Addr) : List TKey := if ks.any (fun q => decide (q.1 = k)) then ks else ks ++ [(k, b)]
theorem keysAt_ok {P : Program} {w : World} {H : Hp} {h : Heap} {D : Addr} {ks : List TKey} (x : KeysAt P w D ks h) : ObjOk P w H h D (HOT P w D ks) := by
  refine ⟨x, ?_, fun h1 h2 y k => ?_⟩
  · obtain ⟨_, _, _, o, _, _, e, _⟩ := x
    exact ⟨o, e⟩
  · obtain ⟨ns, xs, e, o, es, ep, g, r⟩ := y
    exact ⟨ns, xs, e, o, es, ep, k o g, r⟩
/-- the keys' tuples stand -/
def KeysIn (K : PySem.W.Frag) (H : Hp) (ks : List TKey) : Prop := (∀ q ∈ ks, SqT K H q.2 (q.1.map kV)) ∧ (ks.map (·.1)).Nodup
theorem putT_nodup {ks : List TKey} (h : (ks.map (·.1)).Nodup) (k : List Key) (b : Addr) : ((putT ks k b).map (·.1)).Nodup := by
  unfold putT
  split
  · exact h
  · rename_i n
    rw [List.map_append, List.nodup_append]
    refine ⟨h, by simp, fun x hx y hy e => n ?_⟩
    simp at hy
    obtain ⟨q, m, e2⟩ := List.mem_map.mp hx
    exact List.any_eq_true.mpr ⟨q, m, by simp [e2, e, hy]⟩
section
variable {X : Cx} {pins : List (Addr × Obj)} {σ : L2.St} {H : Hp} {s : Shared}
theorem tkey_is (I : Inv X pins σ H s) {k : List Key} {b : Addr} (h : SqT X.K H b (k.map kV)) : (tupleKind (mixKind X.prog X.w)).is s.heap k b := by
  obtain ⟨its, rv, ⟨o, ho, hc, n, hd⟩, _⟩ := I.tuple h
  exact ⟨o, its.toArray, n, ho, hc, hd, by simpa using items_are rv⟩
theorem dictT {D : Addr} {ks : List TKey} (I : Inv X pins σ H s) (hD : H D = some (HOT X.prog X.w D ks)) (hk : KeysIn X.K H ks) : ∃ xs, xs.map (fun x => (x.1, x.2.1)) = ks ∧ s.heap.DictOfH (tupleKind (mixKind X.prog X.w)) D xs := by
  obtain ⟨⟨_, xs, e, o, es, ep, g, hx, hd, he⟩, _⟩ := I.hok D _ hD
  have hn : (xs.map (·.1)).Nodup := by
    have := hk.2
    rw [← e, List.map_map] at this
    exact this
  refine ⟨xs, e, o, es, ep, g, hx, hd, he, fun x m => ?_, hn⟩
  exact tkey_is I (hk.1 (x.1, x.2.1) (e ▸ List.mem_map.mpr ⟨x, m, rfl⟩))
theorem storedH_keys (xs : List (List Key × Addr × Value)) (k : List Key) (b : Addr) (v : Value) : (storedH xs k b v).map (fun x => (x.1, x.2.1)) = putT (xs.map fun x => (x.1, x.2.1)) k b := by
  have e : (atKey xs k).isSome = (xs.map fun x => (x.1, x.2.1)).any fun q => decide (q.1 = k) := by
    unfold atKey
    rw [Option.isSome_map, List.any_map, Bool.eq_iff_iff, List.find?_isSome, List.any_eq_true]
    exact Iff.rfl
  unfold storedH putT
  rw [← e]
  split
  · rw [List.map_map]
    refine List.map_congr_left fun x _ => ?_
    show ((putAt k v x).1, (putAt k v x).2.1) = _
    unfold putAt
    split <;> rfl
  · rw [List.map_append]; rfl
/-- d[k] = v -/
theorem putT_run {E : Value → Shared → Prop} {D b : Addr} {ks : List TKey} {k : List Key} {v : Value} {Q : Unit → Shared → Prop} (hu : X.A.units + 64 < cLine) (I : Inv X pins σ H s) (hD : H D = some (HOT X.prog X.w D ks)) (hk : KeysIn X.K H ks) (hb : SqT X.K H b (k.map kV)) (hz : ks.length ≤ sizeLine)
    (h : ∀ s', Inv X pins σ (upd H D (HOT X.prog X.w D (putT ks k b))) s' → Q () s') : wpAny (model X.prog X.w) X.A (dictSet D (.ref b) v) Q E s := by
  obtain ⟨xs, e, dd⟩ := dictT I hD hk
  have nsys := (I.hok D _ hD).1.1
  have hl : xs.length ≤ sizeLine := by rw [← e, List.length_map] at hz; exact hz
  refine wpAny_dictSet_heap (hsz := hl) (show X.A.units < cLine by omega) (tkey_is I hb) dd fun h' dd' sb => h _ ?_
  obtain ⟨o, es, ep, g, hx, hd, he, _⟩ := dd'
  refine I.write (by rw [hD]; exact True.intro) (.inl rfl) (fun c u n q => (sb.2 c n).trans q) ⟨o, g⟩ (keysAt_ok ⟨nsys, _, ?_, o, es, ep, g, hx, hd, he⟩)
  rw [storedH_keys, e]
end
/-! ### the comprehension {k: v for target in iter if ..} -/
def tDcT (P : Program) (w : World) (K : PySem.W.Frag) (wi : TI) (g : TG) (tt : TT) (tk tv : TE) (vs : List Nat) : TE := fun σ H Q => wi σ H fun J H1 => ∀ D, H1 D = none → ∃ W : Nat → Nat → Hp → Prop, (∃ m, W 0 m (upd H1 D (HOT P w D []))) ∧ ∀ i m H, W i m H →
  (J.stop i H ∧ Q (.ref D) H) ∨ (J.go i H ∧ ∃ Nx : Hp → Prop, (∀ H', Nx H' → ∃ m', m' < m ∧ W (i + 1) m' H') ∧ ∀ x H', J.yld i H x H' → g x (wipe σ vs) H' fun σ2 H2 => wipe σ2 vs = wipe σ vs ∧ tt σ2 H2 fun b H3 =>
    if b = true then tk σ2 H3 fun y H4 => tv σ2 H4 fun _ H5 => ∃ ks k c, y = .ref c ∧ SqT K H5 c (k.map kV) ∧ H5 D = some (HOT P w D ks) ∧ KeysIn K H5 ks ∧ ks.length < sizeLine ∧ Nx (upd H5 D (HOT P w D (putT ks k c))) else Nx H3)
section
variable {X : Cx} {kx vx tg iter : Expr} {ifs : List Expr} {scope : Scope} {own : List (Str × Nat)} {pos : Pos} {wi : TI} {g : TG} {tt : TT} {tk tv : TE}
theorem pe_dcT (hu : X.A.units + 64 < cLine) (hc : X.calm = true) (hN : X.N.Nodup) (hi : PI X tg iter wi) (ok : BlkOk X.N X.env.scope scope own)
    (hg : ∀ (z : Shared) (H : Hp) (L : Addr) (cl : List (Str × Addr)) (fp : List Addr), PG (X.blk z H scope (compEnvC scope cl L X.env) fp) tg g) (ht : ∀ (z : Shared) (H : Hp) (L : Addr) (cl : List (Str × Addr)) (fp : List Addr), PTs (X.blk z H scope (compEnvC scope cl L X.env) fp) ifs tt)
    (hk : ∀ (z : Shared) (H : Hp) (L : Addr) (cl : List (Str × Addr)) (fp : List Addr), PE (X.blk z H scope (compEnvC scope cl L X.env) fp) kx tk)
    (hv : ∀ (z : Shared) (H : Hp) (L : Addr) (cl : List (Str × Addr)) (fp : List Addr), PE (X.blk z H scope (compEnvC scope cl L X.env) fp) vx tv) (hs : ∀ x, foldedSetIterable iter X.env x = pure x := by intro _; rfl) :
    PE X (.DictComp kx vx [⟨tg, iter, ifs, 0⟩] scope pos) (tDcT X.prog X.w X.K wi g tt tk tv (own.map (·.2))) := by
  refine ⟨fun pins s σ H Q I h => ?_⟩
  rw [arm_eval_DictComp]
  have free : ∀ y ∈ scope.names, y.2 = .free → ∃ c, X.env.cells.lookup y.1 = some c := fun y m e => (ok.free y m e).elim (fun z => I.ok.has _ (.inl z)) (fun z => I.ok.has _ (.inr z))
  refine wpAny_comprehension_free (use := none) rfl hs (closure_ok free) ok.kind (fun y m e => by rw [ok.uniq y m, e]) (thn (hi.run pins s σ H _ I h) fun xv s1 hx => thn hx fun itv s2 h2 => ?_)
  obtain ⟨it, fp, tn, J, Hb, rfl, Ib, T, stb, fb, q⟩ := h2
  refine wpAny_newObj_type (newEnv_comp ?_)
  -- the new dict
  obtain ⟨D, eD⟩ : ∃ D, D = s2.heap.objs.size := ⟨_, rfl⟩
  rw [← eD]
  have nD : Hb D = none := Ib.hok.fresh (Nat.le_of_eq eD.symm)
  obtain ⟨W, ⟨m0, w0⟩, turn⟩ := q D nD
  obtain ⟨s3, e3⟩ : ∃ z : Shared, z = { s2 with heap := s2.heap.push { cls := .type "dict", data := .dict #[] } } := ⟨_, rfl⟩
  have h3 : s3.heap = s2.heap.push { cls := .type "dict", data := .dict #[] } := by rw [e3]
  have Ic : Inv X pins σ (upd Hb D (HOT X.prog X.w D [])) s3 := by
    rw [e3]
    refine Ib.laid (t' := s2.toks) (fun b o e => Heap.get?_push_of_some _ e) (Nat.le_of_eq eD.symm) (keysAt_ok ⟨beq_eq_false_iff_ne.mpr (Nat.ne_of_gt (by rw [eD]; exact Ib.big)), [], rfl, { cls := .type "dict", data := .dict #[] }, #[], 0, ?_, ⟨rfl, rfl, rfl⟩, rfl, rfl⟩)
    rw [eD]
    exact Heap.get?_push_size _ rfl
  have lt2 : ∀ b ∈ fp, b < D := fun b m => by
    obtain ⟨o, e, _⟩ := T.obj _ _ stb b m
    rw [eD]; exact Heap.lt_size e
  have sz3 : s3.heap.objs.size = D + 1 := by rw [h3, Heap.size_push, eD]
  have fc : ∀ b ∈ fp, FpOk X pins (upd Hb D (HOT X.prog X.w D [])) b ∧ b < s3.heap.objs.size := fun b m => by
    refine ⟨⟨?_, (fb b m).2⟩, by rw [sz3]; exact Nat.lt_succ_of_lt (lt2 b m)⟩
    rw [upd_ne (Nat.ne_of_lt (lt2 b m))]
    exact (fb b m).1
  have stc : tn 0 s3.heap := T.keep _ _ _ stb fun b _ o e => by rw [h3]; exact Heap.get?_push_of_some _ e
  have Id := block_start Ic ok hN fc
  obtain ⟨L, eL⟩ : ∃ L, L = s3.heap.objs.size := ⟨_, rfl⟩
  rw [h3] at Id
  rw [show (s2.heap.push { cls := .type "dict", data := .dict #[] }).objs.size = L by rw [eL, h3]] at Id ⊢
  obtain ⟨cl, ecl⟩ : ∃ cl, cl = cellsFrom (L + 1) scope.names (cloFrom X.env.cells scope.names []) := ⟨_, rfl⟩
  have pg := hg s3 (upd Hb D (HOT X.prog X.w D [])) L cl fp
  have pt := ht s3 (upd Hb D (HOT X.prog X.w D [])) L cl fp
  have pk := hk s3 (upd Hb D (HOT X.prog X.w D [])) L cl fp
  have pv := hv s3 (upd Hb D (HOT X.prog X.w D [])) L cl fp
  rw [← ecl] at Id
  obtain ⟨ce, ece⟩ : ∃ ce, ce = compEnvC scope cl L X.env := ⟨_, rfl⟩
  rw [← ece] at Id pg pt pk pv
  have cL : ce.locals = L := by rw [ece]; rfl
  obtain ⟨Hc, eH⟩ : ∃ Hc, Hc = upd Hb D (HOT X.prog X.w D []) := ⟨_, rfl⟩
  rw [← eH] at Id pg pt pk pv Ic fc w0
  obtain ⟨z4, e4⟩ : ∃ z : Shared, z = { s3 with heap := pushCells ((s2.heap.push { cls := .type "dict", data := .dict #[] }).push { cls := .type "dict", data := .dict #[] }) scope.names } := ⟨_, rfl⟩
  rw [← e4] at Id
  suffices goal : codeAny (model X.prog X.w) X.A (.compStart (.DictComp kx vx [⟨tg, iter, ifs, 0⟩] scope pos) 0 (.ref it) (.ref D) ce) (compPost (model X.prog X.w) X.A X.xe none (EP X pins σ Q) (.ref D) L) z4 by
    rw [e4, e3, ece, ecl] at goal
    exact goal
  have nfp : ∀ b ∈ fp, Hc b = none := fun b m => (fc b m).1.1
  have std : tn 0 z4.heap := by
    rw [e4]
    refine T.keep _ _ _ stb fun b _ o e => ?_
    exact pushCells_keeps _ _ _ _ (Heap.get?_push_of_some _ (Heap.get?_push_of_some _ e))
  have inside : ∀ {σ' : L2.St} {H' : Hp} {s' : Shared}, Inv (X.blk s3 Hc scope ce fp) [] σ' H' s' → (∀ b ∈ fp, H' b = none) → ∀ b ∈ fp, FpOk (X.blk s3 Hc scope ce fp) [] H' b := fun {σ' H' s'} J n b m =>
    ⟨n b m, (J.ok.exf b m).1, J.ok.exfs b m, .inl m, (J.ok.exf b m).2, fun p hp => by
      have : p ∈ ([] : List (Addr × Obj)) := hp
      cases this⟩
  have loop : codeAny (model X.prog X.w) X.A (.compLoop (.DictComp kx vx [⟨tg, iter, ifs, 0⟩] scope pos) 0 (.ref it) (.ref D) ce) (compPost (model X.prog X.w) X.A X.xe none (EP X pins σ Q) (.ref D) L) z4 := by
    refine compLoop_anyD (fun n z => ∃ i Hz, Inv (X.blk s3 Hc scope ce fp) [] (wipe σ (own.map (·.2))) Hz z ∧ tn i z.heap ∧ (∀ b ∈ fp, Hz b = none) ∧ W i n Hz) (fun n z hz => ?_) m0 ⟨0, Hc, Id, std, nfp, w0⟩
    obtain ⟨i, Hz, Iz, stz, nz, wz⟩ := hz
    rcases turn i n Hz wz with ⟨stop, fin⟩ | ⟨go, Nx, next, step⟩
    · refine thnF (T.done (X.blk s3 Hc scope ce fp) rfl rfl rfl hc i [] z _ Hz (fun _ _ => False) Iz (inside Iz nz) stz stop) fun r y ⟨hr, Iy⟩ => ?_
      subst hr
      have Ir : Inv X pins σ Hz y := Ic.call' (ch := fp) Iy.os Iy.base Iy.hok Iy.bare fun b m => by
        obtain ⟨_, p1, p2, p3, p4, p5⟩ := (fc b m).1
        exact ⟨p3, p1, p4, p5⟩
      have nL : Hz L = none := by
        have f : Hz ce.locals = none := Iy.free
        rw [cL] at f
        exact f
      obtain ⟨nm, names, _⟩ := Iy.loc
      have names : y.heap.Ns ce.locals nm := names
      rw [cL] at names
      obtain ⟨f0, f1, f2, f3, f4, f5⟩ := Ic.fpOk (b := L) (H' := Hz) (by rw [eL]; exact Nat.le_refl _) nL
      exact ⟨nm, names, fun h2 sb => ⟨.ref D, Hz, Ir.turned (t' := y.toks) (fun b o m e => (sb.2 b m).trans e) f0 f1 f3 f4 f5, rfl, fin⟩⟩
    · refine thnF (T.item (X.blk s3 Hc scope ce fp) rfl rfl rfl hc i [] z _ Hz (fun _ _ => False) Iz (inside Iz nz) stz go) fun r y ⟨u, hr, hy⟩ => ?_
      subst hr
      refine thnF hy fun _ y1 ⟨x, H1, I1, r1, yy, st1, n1⟩ => ?_
      have P1 := I1.pinned (inside I1 n1) (T.obj _ _ st1)
      refine thnF (pg.run _ y1 _ H1 x u _ P1 r1 (step x H1 yy)) fun _ y2 ⟨σ2, H2, I2, w2, q2⟩ => ?_
      refine thnF (pt.run _ y2 σ2 H2 _ I2 q2) fun b y3 ⟨H3, I3, q3⟩ => ?_
      have close : ∀ {y' : Shared} {H' : Hp}, Inv (X.blk s3 Hc scope ce fp) ([] ++ pinsAt fp y1.heap) σ2 H' y' → Nx H' → ∃ m, m < n ∧ ∃ i Hz, Inv (X.blk s3 Hc scope ce fp) [] (wipe σ (own.map (·.2))) Hz y' ∧ tn i y'.heap ∧ (∀ b ∈ fp, Hz b = none) ∧ W i m Hz := fun {y' H'} J nx => by
        obtain ⟨m', lt, w'⟩ := next H' nx
        have pinned : ∀ b ∈ fp, ∀ o, y1.heap.get? b = some o → y'.heap.get? b = some o ∧ H' b = none := fun b m o e => by
          have := J.pin (b, o) (List.mem_append_right _ (List.mem_append_right _ (mem_pinsAt m e)))
          exact ⟨this.1, this.2.1⟩
        refine ⟨m', lt, i + 1, H', (J.unpinned (pins := [])).weak (by rw [← w2, wipe_length]) (fun j v e => ?_), T.keep _ _ _ st1 fun b m o e => (pinned b m o e).1, fun b m => ?_, w'⟩
        · rw [← w2] at e
          exact (wipe_some e).1
        · obtain ⟨o, e, _⟩ := T.obj _ _ st1 b m
          exact (pinned b m o e).2
      cases b with
      | false => exact close I3 q3
      | true =>
        refine thnF (pk.run _ y3 σ2 H3 _ I3 q3) fun kv y4 ⟨yk, H4, I4, r4, q4⟩ => ?_
        refine thnF (pv.run _ y4 σ2 H4 _ I4 q4) fun vv y5 ⟨yv, H5, I5, r5, ks, k, c, ek, hb, hD, hks, hz, nx⟩ => ?_
        subst ek
        cases r4
        exact putT_run (X := X.blk s3 Hc scope ce fp) hu I5 hD hks hb (Nat.le_of_lt hz) fun y6 I6 => close I6 nx
  exact codeAny_compStart_dict loop (T.self X.A 0 _ _ _ std loop)
end
/-! ### sorted(d) -/
section
variable {prog : Program} {w : World} {A : Around} {E : Value → Shared → Prop} {s : Shared}
theorem sorted_dict {t : Addr} {o : Obj} {es : Array DictEntry} {ep : Nat} {vs : List Value} {ds : List D} {R : Value → D → Prop} {Q : Value → Shared → Prop} (hh : A.handled = none) (ho : s.heap.get? t = some o) (hx : o.ExactDict) (hd : o.data = .dict es ep) (lo : (t == sysModules) = false) (hes : es.toList.map (·.key) = vs)
    (e : EachIs R vs ds) (er : EachIs (fun v d => ∃ as, Reads s.heap v d as) vs ds)
    (hal : AllAlike ds) (hk : Sortable ds) (hL : ds.length ≤ sizeLine) (hu : ∀ d ∈ ds, A.units + 2 + d.depth < cLine)
    (h : ∀ (out : List Value) (h' : Heap) (tk : Nat) (p : Addr) (n : Nat), out.length = ds.length → EachIs R out (ds.mergeSort (dataLe false id)) → (∀ b o, s.heap.get? b = some o → h'.get? b = some o) → s.heap.get? p = none → h'.get? p = some (seqObj "list" out.toArray n) → Q (.ref p) { s with heap := h', toks := tk }) :
    wpAny (model prog w) A (call (.builtin "sorted") [.ref t]) Q E s := by
  refine Calls.call_function_entry kind_sorted plain_sorted entry_sorted (args_sorted1 _) ?_
  unfold Builtin.«sorted»
  refine wpAny_bind (m := checkCount "sorted" 1 1 _) (wpAny_pure ?_)
  have hle : vs.length ≤ sizeLine := by rw [e.length]; exact hL
  have hsz : es.size = vs.length := by rw [← hes, List.length_map, Array.length_toList]
  refine wpAny_bind (PySem.W.kdu_collect (A := A.in1) (kdl_raw lo hx hd) hh ho (by rw [hsz]; exact hle) fun h1 tk acc k1 it => ?_)
  have ea : acc.toList = vs := by
    rw [← hes]
    refine List.ext_getElem (by rw [Array.length_toList, List.length_map, Array.length_toList]; exact it.1) fun j z1 z2 => ?_
    have z1' : j < acc.size := by simpa using z1
    obtain ⟨en, q1, q2⟩ := it.2 j acc[j] (Array.getElem?_eq_getElem z1')
    rw [Array.getElem_toList, List.getElem_map, Array.getElem_toList, q2]
    obtain ⟨z3, q3⟩ := Array.getElem?_eq_some_iff.mp q1
    rw [q3]
  rw [ea]
  refine wpAny_bind (wpAny_newList ?_ (by simpa using hle))
  have ha : (h1.push (seqObj "list" vs.toArray 0)).get? h1.objs.size = some (seqObj "list" vs.toArray 0) := Heap.get?_push_size _ rfl
  have k2 : ∀ b o, s.heap.get? b = some o → (h1.push (seqObj "list" vs.toArray 0)).get? b = some o := fun b o q => Heap.get?_push_of_some _ (k1 b o q)
  have er2 : EachIs (fun v d => ∃ as, Reads (PySem.W.sortingHeap (h1.push (seqObj "list" vs.toArray 0)) h1.objs.size vs) v d as) vs ds := by
    refine er.mono fun v d ⟨as, r⟩ => ⟨as, PyProof.Rows.Reads.keeps (fun b ob q => ?_) r⟩
    exact PySem.W.sortingHeap_old (Nat.ne_of_lt (Heap.lt_size (k1 b ob q))) (k2 b ob q)
  have emap : ∀ {S : Value → D → Prop}, EachIs S vs ds → EachIs S vs (ds.map id) := fun z => by rw [List.map_id]; exact z
  have S := PySem.W.SortsAt.data (prog := prog) (w := w) (A := A.in1.in1) (s := { s with heap := PySem.W.sortingHeap (h1.push (seqObj "list" vs.toArray 0)) h1.objs.size vs, toks := tk }) er2 hal hk (fun d m => hu d m)
  have fin := PySem.W.sortVals_data (enc := id) false e er2 (by rw [List.map_id]; exact hal)
  rw [List.map_id] at fin
  refine wpAny_bind (wpAny_holding (wpAny_call_entry slot_list_sort ⟨_, ha, rfl⟩ entry_list_sort (PySem.W.list_sort_vals (s := { s with heap := h1.push (seqObj "list" vs.toArray 0), toks := tk }) ha S hle ⟨.none, rfl, wpAny_pure ?_⟩) (args_list_sort _)))
  obtain ⟨n2, hat⟩ := sortedHeap_at (vs := vs) (out := (PySem.W.sortVals (PySem.W.dataKind (PySem.W.sortingHeap (h1.push (seqObj "list" vs.toArray 0)) h1.objs.size vs) ds) false vs vs).toArray) ha
  refine ⟨_, rfl, h _ _ _ _ n2 (by rw [PySem.W.sortVals_length false rfl]; exact e.length) fin (fun b ob q => ?_) ?_ hat⟩
  · have l1 := Heap.lt_size (k1 b ob q)
    rw [sortedHeap_old (Nat.ne_of_lt l1) (Heap.lt_size (k2 b ob q))]
    exact k2 b ob q
  · cases q : s.heap.get? h1.objs.size with
    | none => rfl
    | some o => exact absurd (Heap.lt_size (k1 _ _ q)) (Nat.lt_irrefl _)
end
def keyD : Key → D
  | .inl i => .int i
  | .inr x => .str x
def tupD (k : List Key) : D := .tuple (k.map keyD)
theorem dq_keys {K : PySem.W.Frag} {G : Addr → Prop} {H : Hp} : ∀ k : List Key, DqAll K G H (k.map kV) (k.map keyD)
  | [] => .nil
  | .inl i :: k => .cons (.int i) (dq_keys k)
  | .inr x :: k => .cons (.str x) (dq_keys k)
theorem keys_dq {K : PySem.W.Frag} {G : Addr → Prop} {H : Hp} : ∀ {vs : List V} (k : List Key), DqAll K G H vs (k.map keyD) → vs = k.map kV
  | _, [], h => by cases h; rfl
  | _, .inl i :: k, h => by
    cases h with
    | cons h1 h2 => cases h1; rw [keys_dq k h2]; rfl
  | _, .inr x :: k, h => by
    cases h with
    | cons h1 h2 => cases h1; rw [keys_dq k h2]; rfl
theorem dq_tup {K : PySem.W.Frag} {G : Addr → Prop} {H : Hp} {b : Addr} {k : List Key} (h : SqT K H b (k.map kV)) : Dq K G H (.ref b) (tupD k) := .tup h (dq_keys k)
theorem tup_dq {K : PySem.W.Frag} {G : Addr → Prop} {H : Hp} {b : Addr} {k : List Key} (h : Dq K G H (.ref b) (tupD k)) : SqT K H b (k.map kV) := by
  cases h with
  | tup h1 h2 => rw [← keys_dq k h2]; exact h1
theorem tup_depth (k : List Key) : (tupD k).depth ≤ 2 := by
  have : ∀ k : List Key, PyData.depthAll (k.map keyD) ≤ 1 := fun k => by
    induction k with
    | nil => rw [List.map_nil, PyData.depthAll]; omega
    | cons x k ih =>
      rw [List.map_cons, PyData.depthAll]
      cases x <;> (unfold keyD; rw [PyData.depth]; unfold keyD at ih; omega)
  have := this k
  unfold tupD
  rw [PyData.depth]
  omega
theorem dq_refs {K : PySem.W.Frag} {G : Addr → Prop} {H : Hp} : ∀ {ks : List TKey}, (∀ q ∈ ks, SqT K H q.2 (q.1.map kV)) → DqAll K G H (ks.map fun q => V.ref q.2) (ks.map fun q => tupD q.1)
  | [], _ => .nil
  | x :: ks, h => .cons (dq_tup (h x List.mem_cons_self)) (dq_refs fun q m => h q (List.mem_cons_of_mem _ m))
theorem vals_refs2 : ∀ ks : List TKey, Vals (ks.map fun q => V.ref q.2) (ks.map fun q => Value.ref q.2)
  | [] => .nil
  | _ :: ks => .cons rfl (vals_refs2 ks)
def rSortDT (K : PySem.W.Frag) (P : Program) (w : World) (G : Addr → Prop) : List V → Hp → VK → Prop := fun vs H Q => ∃ (t : Addr) (ks : List TKey), vs = [.ref t] ∧ H t = some (HOT P w t ks) ∧ KeysIn K H ks ∧ AllAlike (ks.map fun q => tupD q.1) ∧ Sortable (ks.map fun q => tupD q.1) ∧ ks.length ≤ sizeLine ∧
  ∀ p ys, H p = none → DqAll K G H ys (sortD (ks.map fun q => tupD q.1)) → Q (.ref p) (upd H p (.lst ys))
section
variable {X : Cx} {G : Addr → Prop}
theorem cr_sortDT (hc : X.calm = true) (hu : X.A.units + 64 < cLine) : CallR X (.builtin "sorted") (rSortDT X.K X.prog X.w G) := by
  intro pins s σ H vs us Q I r h
  obtain ⟨t, ks, rfl, hD, hk, hal, hso, hz, q⟩ := h
  rw [Vals.ref1 r]
  obtain ⟨⟨lo, xs, e, o, es, ep, g, hx, hd, he⟩, _⟩ := I.hok t _ hD
  have hes : es.toList.map (·.key) = ks.map fun q => Value.ref q.2 := by
    rw [he, ← e, List.map_map, List.map_map]; rfl
  have dq := dq_refs (G := G) hk.1
  have rv := vals_refs2 ks
  obtain ⟨as, ra⟩ := DqAll.reads I _ _ _ dq rv
  have er : EachIs (fun v d => ∃ as, Reads s.heap v d as) (ks.map fun q => Value.ref q.2) (ks.map fun q => tupD q.1) := by
    have := PySem.W.readsAll_each (h := s.heap) id (vs := ks.map fun q => Value.ref q.2) (bs := ks.map fun q => tupD q.1) (as := as) (by rw [List.map_id]; exact ra)
    exact this
  refine sorted_dict (I.ok.hd hc) g hx hd lo hes (each_dq dq rv) er hal hso (by rw [List.length_map]; exact hz) (fun d m => ?_) fun out h' tk p n hl ee kp hp hat => ?_
  · obtain ⟨z, _, rfl⟩ := List.mem_map.mp m
    have := tup_depth z.1
    omega
  · obtain ⟨ys, rv2, dy⟩ := dq_each ee
    have nw : ObjOk X.prog X.w (upd H p (.lst ys)) h' p (.lst ys) := ⟨by rw [rv2.length, hl, List.length_map]; exact hz, out, n, rv2, hat⟩
    obtain ⟨nH, I2⟩ := laidN (t' := tk) I kp hp nw
    exact ⟨.ref p, _, I2, rfl, q p ys nH dy⟩
end
/-! ### sorted({k: v for ..}) by data -/
def keysOf : List D → Option (List Key)
  | [] => some []
  | .int i :: ds => (keysOf ds).map (.inl i :: ·)
  | .str i :: ds => (keysOf ds).map (.inr i :: ·)
  | _ => none
theorem keysOf_eq : ∀ {ds : List D} {k : List Key}, keysOf ds = some k → ds = k.map keyD
  | [], _, h => by cases h; rfl
  | .int b :: ds, bs, h => by
    rw [keysOf] at h
    obtain ⟨cs, e1, e2⟩ := Option.map_eq_some_iff.mp h
    subst e2
    rw [keysOf_eq e1]; rfl
  | .str b :: ds, bs, h => by
    rw [keysOf] at h
    obtain ⟨cs, e1, e2⟩ := Option.map_eq_some_iff.mp h
    subst e2
    rw [keysOf_eq e1]; rfl
  | .none :: _, _, h => by cases h
  | .bool _ :: _, _, h => by cases h
  | .list _ :: _, _, h => by cases h
  | .tuple _ :: _, _, h => by cases h
  | .dict _ :: _, _, h => by cases h
theorem keysOf_ints : ∀ ns : List Int, keysOf (ns.map PyData.int) = some (ns.map Sum.inl)
  | [] => rfl
  | n :: ns => by rw [List.map_cons, keysOf, keysOf_ints ns]; rfl
def putL (acc : List (List Key)) (k : List Key) : List (List Key) := if acc.any (fun q => decide (q = k)) then acc else acc ++ [k]
def onKey (r : R) (Q : List Key → Prop) : Prop := match r.fd with
  | some (.tuple es) => (match keysOf es with
    | some k => Q k
    | none => False)
  | _ => False
theorem onKey_mono {r : R} {Q Q' : List Key → Prop} (m : ∀ k, Q k → Q' k) (q : onKey r Q) : onKey r Q' := by
  unfold onKey at q ⊢
  split at q
  · split at q
    · exact m _ q
    · exact q
  · exact q
def dcRun (pat : DP) (tst : DB) (tk tv : DT) (δ : DE) : List D → List (List Key) → (List (List Key) → Prop) → Prop
  | [], acc, Q => Q acc
  | d :: ds, acc, Q => pat d δ fun δ' => tst δ' fun k => if k = true then
      tk δ' fun r => onKey r fun k => tv δ' fun _ => acc.length < sizeLine ∧ dcRun pat tst tk tv δ ds (putL acc k) Q
    else dcRun pat tst tk tv δ ds acc Q
theorem mono_dcRun {pat : DP} {tst : DB} {tk tv : DT} (hp : ∀ d, Mono (pat d)) (ht : Mono tst) (hk : Mono tk) (hv : Mono tv) (δ : DE) {Q Q' : List (List Key) → Prop} (m : ∀ a, Q a → Q' a) : ∀ (ds : List D) (acc : List (List Key)), dcRun pat tst tk tv δ ds acc Q → dcRun pat tst tk tv δ ds acc Q'
  | [], acc, q => m _ q
  | d :: ds, acc, q => hp d δ _ _ (fun δ' q => ht δ' _ _ (fun k q => by
    cases k with
    | false => exact mono_dcRun hp ht hk hv δ m ds acc q
    | true => exact hk δ' _ _ (fun r q => onKey_mono (fun k q => hv δ' _ _ (fun _ q => ⟨q.1, mono_dcRun hp ht hk hv δ m ds _ q.2⟩) q) q) q) q) q
/-- sorted({k: v for ..}) -/
def dSortDC (it : DI) (pat : DP) (tst : DB) (tk tv : DT) (vs : List Nat) : DT := fun δ Q => it δ fun ds => dcRun pat tst tk tv (wipeD δ vs) ds [] fun acc =>
  (AllAlike (acc.map tupD) ∧ Sortable (acc.map tupD) ∧ acc.length ≤ sizeLine) ∧ Q (.val (.own ((sortD (acc.map tupD)).map DV.sh)))
section
variable {C : Zn} {X : Cx} {K : PySem.W.Frag}
structure AccD (P : Program) (w : World) (K : PySem.W.Frag) (C : Zn) (F1 : Addr → Prop) (H1 : Hp) (p : Addr) (acc : List (List Key)) (F : Addr → Prop) (H : Hp) : Prop where
  go : Go C F1 H1 F H
  nf : ¬ F p
  ex : ∃ ks : List TKey, H p = some (HOT P w p ks) ∧ ks.map (·.1) = acc ∧ acc.Nodup ∧ ∀ q ∈ ks, SqT K H q.2 (q.1.map kV)
theorem AccD.step {P : Program} {w : World} {F1 F F' : Addr → Prop} {H1 H H' : Hp} {p : Addr} {acc : List (List Key)} (b1 : Bs C F1 H1) (n1 : H1 p = none) (h : AccD P w K C F1 H1 p acc F H) (g : Go C F H F' H') : AccD P w K C F1 H1 p acc F' H' := by
  obtain ⟨g0, nf, ks, e, e2, nd, hk⟩ := h
  refine ⟨g0.trans b1 g, fun z => ?_, ks, g.same p _ e (b1.nzn n1), e2, nd, fun q m => Keep.sqT (g.keep g0.ok) (hk q m)⟩
  rcases g.new p z with z | z
  · exact nf z
  · rw [e] at z; cases z
theorem putT_fst (ks : List TKey) (k : List Key) (b : Addr) : (putT ks k b).map (·.1) = putL (ks.map (·.1)) k := by
  unfold putT putL
  have : (ks.map (·.1)).any (fun q => decide (q = k)) = ks.any fun q => decide (q.1 = k) := by rw [List.any_map]; rfl
  rw [this]
  split
  · rfl
  · rw [List.map_append]; rfl
theorem putT_mem {ks : List TKey} {k : List Key} {b : Addr} {q : TKey} (m : q ∈ putT ks k b) : q ∈ ks ∨ q = (k, b) := by
  unfold putT at m
  split at m
  · exact .inl m
  · rcases List.mem_append.mp m with m | m
    · exact .inl m
    · exact .inr (List.mem_singleton.mp m)
theorem AccD.push {P : Program} {w : World} {F1 F : Addr → Prop} {H1 H : Hp} {p c : Addr} {acc : List (List Key)} {k : List Key} (b1 : Bs C F1 H1) (n1 : H1 p = none) (h : AccD P w K C F1 H1 p acc F H) (hc : SqT K H c (k.map kV)) (hz : acc.length < sizeLine) :
    ∃ ks, H p = some (HOT P w p ks) ∧ KeysIn K H ks ∧ ks.length < sizeLine ∧ AccD P w K C F1 H1 p (putL acc k) F (upd H p (HOT P w p (putT ks k c))) := by
  obtain ⟨g0, nf, ks, e, e2, nd, hk⟩ := h
  have kp : Keep F H F (upd H p (HOT P w p (putT ks k c))) := .put (by rw [e]; trivial) nf
  refine ⟨ks, e, ⟨hk, by rw [e2]; exact nd⟩, by rw [← e2, List.length_map] at hz; exact hz, g0.put b1 n1, nf, _, upd_same, by rw [putT_fst, e2], ?_, fun q m => ?_⟩
  · rw [← e2, ← putT_fst ks k c]
    exact putT_nodup (by rw [e2]; exact nd) k c
  · rcases putT_mem m with m | rfl
    · exact Keep.sqT kp (hk q m)
    · exact Keep.sqT kp hc
theorem d_sortedDC {kx vx tg iter : Expr} {ifs : List Expr} {scope : Scope} {own : List (Str × Nat)} {pos pos' p' : Pos} {it : DI} {pat : DP} {tst : DB} {tk tv : DT} {is : List Nat} (hu : X.A.units + 64 < cLine) (hc : X.calm = true) (hN : X.N.Nodup) (hi : PDI C X false tg iter it) (ok : BlkOk X.N X.env.scope scope own) (his : ∀ i ∈ is, i ∈ own.map (·.2))
    (hg : ∀ (s : Shared) (H : Hp) (A : Addr) (cl : List (Str × Addr)) (fp : List Addr), PDG C (X.blk s H scope (compEnvC scope cl A X.env) fp) tg is pat) (ht : ∀ (s : Shared) (H : Hp) (A : Addr) (cl : List (Str × Addr)) (fp : List Addr), PDTs C (X.blk s H scope (compEnvC scope cl A X.env) fp) ifs tst)
    (hk : ∀ (s : Shared) (H : Hp) (A : Addr) (cl : List (Str × Addr)) (fp : List Addr), PD C (X.blk s H scope (compEnvC scope cl A X.env) fp) kx tk)
    (hv : ∀ (s : Shared) (H : Hp) (A : Addr) (cl : List (Str × Addr)) (fp : List Addr), PD C (X.blk s H scope (compEnvC scope cl A X.env) fp) vx tv) (hm : X.mg "sorted" = none) (hs : ∀ x, foldedSetIterable iter X.env x = pure x := by intro _; rfl) (hgl : Gl X "sorted" := by rfl)
    (he : starEach [.DictComp kx vx [⟨tg, iter, ifs, 0⟩] scope pos] X.env = (false, eval (.DictComp kx vx [⟨tg, iter, ifs, 0⟩] scope pos) X.env) :: starEach [] X.env := by rfl) (hpl : (backTo pos' (starEach [] X.env)).any (·.1) = false := by rfl) :
    PD C X (.Call (.Name "sorted" p') [.DictComp kx vx [⟨tg, iter, ifs, 0⟩] scope pos] [] pos') (dSortDC it pat tst tk tv (own.map (·.2))) := by
  have gm := fun d => (hg X.s_0 X.H_0 0 [] []).mono d
  have tm := (ht X.s_0 X.H_0 0 [] []).mono
  have km := (hk X.s_0 X.H_0 0 [] []).mono
  have vm := (hv X.s_0 X.H_0 0 [] []).mono
  refine ⟨fun δ Q Q' m q => hi.mono δ _ _ (fun ds q => mono_dcRun gm tm km vm _ (fun acc q => ⟨q.1, m _ q.2⟩) ds [] q) q, ?_⟩
  have dc := pe_dcT (pos := pos) (wi := liftI C X.K false it) (g := liftG C X.K is pat) (tt := liftB C X.K tst) (tk := lift C X.K tk) (tv := lift C X.K tv) hu hc hN hi.run ok (fun s H A cl fp => (hg s H A cl fp).run) (fun s H A cl fp => (ht s H A cl fp).run) (fun s H A cl fp => (hk s H A cl fp).run) (fun s H A cl fp => (hv s H A cl fp).run) hs
  refine (pe_callB (p := p') (pos := pos') (r := fun vs H Q => ∃ G, rSortDT X.K X.prog X.w G vs H Q) (fun pins s σ H xs us Q I r h => by
      obtain ⟨G, h⟩ := h
      exact cr_sortDT (G := G) hc hu pins s σ H xs us Q I r h) hgl hm (by decide +kernel) (pa_cons dc pa_nil he) (by decide) (by decide) he hpl).imp fun σ H Q q => ?_
  obtain ⟨δ, F, x, q⟩ := q
  refine ⟨δ, F, x, hi.mono δ _ _ (fun ds q F1 H1 J g ir => ?_) q⟩
  intro p n
  have x1 := x.go g
  have b1 := g.ok
  refine ⟨fun i m H' => m = ds.length - i ∧ i ≤ ds.length ∧ ∃ F' acc, AccD X.prog X.w X.K C F1 H1 p acc F' H' ∧ dcRun pat tst tk tv (wipeD δ (own.map (·.2))) (ds.drop i) acc _, ⟨ds.length, by simp, Nat.zero_le _, F1, [], ⟨Go.laid b1 n, fun z => ?_, [], upd_same, rfl, List.nodup_nil, fun _ m => by cases m⟩, q⟩, ?_⟩
  · obtain ⟨o, e⟩ := (b1.f p z).2
    rw [n] at e; cases e
  rintro i m H' ⟨rfl, hi', F', acc, A, q⟩
  by_cases hlt : i < ds.length
  · have ed : ds[i]? = some ds[i] := List.getElem?_eq_getElem hlt
    have gP : Go C F1 H1 F' H' := A.go
    obtain ⟨go, yl⟩ := ir.item F' H' gP.ok gP i _ ed
    refine .inr ⟨go, fun H'' => ∃ F'' acc', AccD X.prog X.w X.K C F1 H1 p acc' F'' H'' ∧ dcRun pat tst tk tv (wipeD δ (own.map (·.2))) (ds.drop (i + 1)) acc' _, fun H'' ⟨F'', acc', A', q'⟩ => ⟨ds.length - (i + 1), by omega, rfl, hlt, F'', acc', A', q'⟩, fun y H'' yy => ?_⟩
    obtain ⟨F2, g2, dq⟩ := yl y H'' yy
    have A2 := A.step b1 n g2
    rw [List.drop_eq_getElem_cons hlt] at q
    have x2 : At0 X.K C F2 H'' (wipe σ (own.map (·.2))) (wipeD δ (own.map (·.2))) := (x1.go A2.go).wipe _
    refine ⟨_, F2, ds[i], x2, dq, gm _ _ _ _ (fun δ' q σ' k w => ⟨(w _ his).trans (wipe_sub σ _ fun _ m => m), ?_⟩) q⟩
    refine ⟨δ', F2, k.at0 x2, tm δ' _ _ (fun kk q F3 H3 g3 => ?_) q⟩
    have A3 := A2.step b1 n g3
    cases kk with
    | false => exact ⟨F3, acc, A3, q⟩
    | true =>
      have x3 := (k.at0 x2).go g3
      refine ⟨δ', F3, x3, km δ' _ _ (fun r q F4 H4 v g4 rr => ?_) q⟩
      have A4 := A3.step b1 n g4
      unfold onKey at q
      split at q
      · rename_i es e1
        split at q
        · rename_i kk e2
          obtain ⟨F5, g5, _, dq5⟩ := RR.fd x3.bs g4 rr e1
          rw [keysOf_eq e2] at dq5
          have A5 := A3.step b1 n g5
          refine ⟨δ', F5, x3.go g5, vm δ' _ _ (fun _ q F6 H6 v6 g6 rr6 => ?_) q⟩
          have A6 := A5.step b1 n g6
          cases v with
          | ref c =>
            have hc6 := Keep.sqT (g6.keep g5.ok) (tup_dq (k := kk) dq5)
            obtain ⟨ks, z1, z2, z3, A7⟩ := A6.push b1 n hc6 q.1
            exact ⟨ks, kk, c, rfl, hc6, z1, z2, z3, F6, _, A7, q.2⟩
          | _ => cases dq5
        · exact q.elim
      · exact q.elim
  · have e : i = ds.length := by omega
    subst e
    refine .inl ⟨ir.stop F' H' A.go.ok A.go, ?_⟩
    rw [List.drop_length] at q
    obtain ⟨⟨c1, c2, c3⟩, q⟩ := q
    have gg := g.trans x.bs A.go
    obtain ⟨_, _, ks, e1, e2, e3, e4⟩ := A
    have em : acc.map tupD = ks.map fun q => tupD q.1 := by rw [← e2, List.map_map]; rfl
    rw [em] at c1 c2 q
    refine ⟨F', p, ks, rfl, e1, ⟨e4, by rw [e2]; exact e3⟩, c1, c2, by rw [← e2, List.length_map] at c3; exact c3, fun l ys nl dy => ?_⟩
    obtain ⟨g3, r3⟩ := RR.newl x.bs gg dy nl
    exact q F' _ _ g3 r3
end
end DL
set_option Elab.async false
set_option linter.all false
set_option maxRecDepth 100000
set_option maxHeartbeats 1000000
namespace DL
open PySem PySem.Spec L2
open PyProof.Rows hiding St
/-! ### a, b, .. = x, y, ..: names alone; what is one's own stays so -/
section
variable {K : PySem.W.Frag} {C : Zn} {F0 F F1 F' : Addr → Prop} {H0 H H1 H' : Hp} {σ σ' : St} {δ δ' : DE}
/-- with addresses that are still to be stored -/
def AtX (K : PySem.W.Frag) (C : Zn) (F0 : Addr → Prop) (H0 : Hp) (σ : St) (δ : DE) (F : Addr → Prop) (H : Hp) (rs : List Addr) : Prop := Bs C F0 H0 ∧ Go C F0 H0 F H ∧ ∃ as, Envs K C F H σ δ as ∧ (as ++ rs).Nodup ∧ ∀ a ∈ as ++ rs, ¬ F a ∧ H0 a = none
theorem AtX.end (x : AtX K C F0 H0 σ δ F H []) : At K C F0 H0 σ δ F H := by
  obtain ⟨b, g, as, e, nd, o⟩ := x
  rw [List.append_nil] at nd o
  exact ⟨b, g, as, e, nd, o⟩
theorem AtX.start (x : At K C F0 H0 σ δ F H) (g : Go C F H F' H') {cs : List Addr} (nd : cs.Nodup) (fr : ∀ a ∈ cs, ¬ F' a ∧ H a = none) : AtX K C F0 H0 σ δ F' H' cs := by
  have x' := x.go g
  obtain ⟨b0, gg, as, e, nd0, o⟩ := x
  obtain ⟨s, o'⟩ := g.own gg.ok e.there fun a m => ⟨(o a m).1, b0.nzn (o a m).2⟩
  refine ⟨b0, x'.2.1, as, e.mono (g.keep gg.ok) s, List.nodup_append.mpr ⟨nd0, nd, fun a m b m' q => ?_⟩, fun a m => ?_⟩
  · obtain ⟨u, q', _⟩ := e.there a m
    have := (fr b m').2
    rw [← q, q'] at this; cases this
  · rcases List.mem_append.mp m with m | m
    · exact ⟨(o' a m).1, (o a m).2⟩
    · exact ⟨(fr a m).1, gg.none b0 (fr a m).2⟩
theorem AtX.set {v : V} {dv : DV} {bs rs : List Addr} (x : AtX K C F0 H0 σ δ F H (bs ++ rs)) (r : Rep K C F H v dv bs) {i : Nat} (hi : i < δ.length) : AtX K C F0 H0 (σ.set i (some v)) (δ.set i (some dv)) F H rs := by
  obtain ⟨b, g, as, e, nd, o⟩ := x
  obtain ⟨as', e', cs, p, s⟩ := Envs.set i e r (by rw [e.length]; exact hi)
  obtain ⟨n1, n2, n3⟩ := List.nodup_append.mp nd
  obtain ⟨n4, n5, n6⟩ := List.nodup_append.mp n2
  refine ⟨b, g, as', e', ?_, fun a m => ?_⟩
  · refine List.nodup_append.mpr ⟨(p.nodup_iff).mpr (List.nodup_append.mpr ⟨n4, n1.sublist s, fun a m c m' q => n3 c (s.subset m') a (List.mem_append_left _ m) q.symm⟩), n5, fun a m c m' q => ?_⟩
    rcases List.mem_append.mp (p.mem_iff.mp m) with m | m
    · exact n6 a m c m' q
    · exact n3 a (s.subset m) c (List.mem_append_right _ m') q
  · rcases List.mem_append.mp m with m | m
    · rcases List.mem_append.mp (p.mem_iff.mp m) with m | m
      · exact o a (List.mem_append_right _ (List.mem_append_left _ m))
      · exact o a (List.mem_append_left _ (s.subset m))
    · exact o a (List.mem_append_right _ (List.mem_append_right _ m))
def setV : St → List Nat → List V → St
  | σ, i :: is, v :: vs => setV (σ.set i (some v)) is vs
  | σ, _, _ => σ
def setD : DE → List Nat → List DV → DE
  | δ, i :: is, v :: vs => setD (δ.set i (some v)) is vs
  | δ, _, _ => δ
theorem AtX.setAll : ∀ {is : List Nat} {vs : List V} {ds : List DV} {cs : List Addr} {σ : St} {δ : DE}, AtX K C F0 H0 σ δ F H cs → Reps K C F H vs ds cs → is.length = ds.length → (∀ i ∈ is, i < δ.length) → At K C F0 H0 (setV σ is vs) (setD δ is ds) F H
  | [], _, _, _, _, _, x, r, e, _ => by
    cases r with
    | nil => exact x.end
    | cons _ _ => cases e
  | i :: is, _, _, _, σ, δ, x, r, e, h => by
    cases r with
    | nil => cases e
    | @cons v d vs ds _ _ r1 r2 =>
      show At K C F0 H0 (setV (σ.set i (some v)) is vs) (setD (δ.set i (some d)) is ds) F H
      refine AtX.setAll (x.set r1 (h i List.mem_cons_self)) r2 (by simpa using e) fun j m => ?_
      rw [List.length_set]
      exact h j (List.mem_cons_of_mem _ m)
end
section
variable {X : Cx} {C : Zn} {F0 : Addr → Prop} {H0 : Hp} {pos : Pos}
def tNames (is : List Nat) : TGs := fun vs σ H Q => vs.length = is.length ∧ Q (setV σ is vs) H
theorem n_nil : PGs X [] (tNames []) := ⟨fun pins s σ H vs us Q I r h => pgs_nil.run pins s σ H vs us Q I r (by
  obtain ⟨e, q⟩ := h
  cases vs with
  | nil => exact ⟨rfl, q⟩
  | cons _ _ => cases e)⟩
theorem n_cons {i : Nat} {is : List Nat} {x : Str} {p : Pos} {es : List Expr} (hN : X.N.Nodup) (hi : X.N[i]? = some x) (hx : Loc X.env.scope x) (h : PGs X es (tNames is)) (hf : X.fn x = true ∨ X.env.scope.names.lookup x = some .local := by first | exact .inl rfl | exact .inr rfl | assumption)
    (hs : (assignEach (.Name x p :: es) X.env).map (·.2) = assign (.Name x p) X.env :: (assignEach es X.env).map (·.2) := by rfl) : PGs X (.Name x p :: es) (tNames (i :: is)) :=
  ⟨fun pins s σ H vs us Q I r h2 => (pgs_cons (pg_name (pos := p) hN hi hx hf) h hs).run pins s σ H vs us Q I r (by
    obtain ⟨e, q⟩ := h2
    cases vs with
    | nil => cases e
    | cons v vs => exact ⟨v, vs, rfl, by simpa using e, q⟩)⟩
def dUnp (is : List Nat) (t : DL') : DS := fun D δ => t δ fun rs => match fxL rs with
  | some ds => is.length = ds.length ∧ (∀ i ∈ is, i < δ.length) ∧ D.nx (setD δ is ds)
  | none => False
theorem mono_unp {is : List Nat} {t : DL'} (h : Mono t) : MonoS (dUnp is t) := fun D D' δ l q => h δ _ _ (fun rs q => by
  split at q
  · exact ⟨q.1, q.2.1, l.nx _ q.2.2⟩
  · exact q.elim) q
theorem unp_at {is : List Nat} {F F' : Addr → Prop} {H H' : Hp} {σ : St} {δ : DE} {vs : List V} {rs : List R} {ds : List DV} (x : At X.K C F0 H0 σ δ F H) (g : Go C F H F' H') (rrs : RRs X.K C F' H H' vs rs) (e : fxL rs = some ds) (hl : is.length = ds.length) (hi : ∀ i ∈ is, i < δ.length) : At X.K C F0 H0 (setV σ is vs) (setD δ is ds) F' H' := by
  obtain ⟨cs, r, nd, f⟩ := rrs.hold e
  exact AtX.setAll (AtX.start x g nd f) r hl hi
/-- the tuple is made and taken apart -/
theorem s_unpack {is : List Nat} {tgs es : List Expr} {t : DL'} {pt pt2 : Pos} {kt k2} (hc : X.calm = true) (hn : PGs X tgs (tNames is)) (ha : PDL C X es t) (hz : es.length ≤ 1000 := by decide)
    (hl : (assignEach tgs X.env).length = is.length := by rfl) (hst : (assignEach tgs X.env).findIdx? (·.1) = none := by rfl)
    (hs : swapsWithSole [.Tuple tgs kt pt] (.Tuple es k2 pt2) pos.line X.env = pure false := by rfl) (hw : swappedStores [.Tuple tgs kt pt] (.Tuple es k2 pt2) X.env = pure none := by rfl)
    (h1 : (assignEach [.Tuple tgs kt pt] X.env).map (·.2) = [assign (.Tuple tgs kt pt) X.env] := by rfl) :
    PSD C F0 H0 X (.Assign [.Tuple tgs kt pt] (.Tuple es k2 pt2) pos) (dUnp is t) :=
  ⟨mono_unp ha.mono, (ps_asg (pe_tup ha.run) (pg_tup hc hn hl hst) hs hw h1).imp fun D σ H q => by
    obtain ⟨δ, F, x, q⟩ := q
    refine ⟨δ, F, x.at0, ha.mono δ _ _ (fun rs q F1 H1 vs g rrs => ?_) (ha.len _ _ q)⟩
    obtain ⟨q, hlen⟩ := q
    refine ⟨by rw [rrs.length, hlen]; exact Nat.le_trans hz (by decide), fun p n => ?_⟩
    split at q
    · rename_i ds e
      have g3 := Go.laid (o := .tup vs) g.ok n
      have hv : vs.length = is.length := by
        obtain ⟨cs, r, _⟩ := rrs.hold e
        rw [r.length, q.1]
      have np : RRs X.K C F1 H (upd H1 p (.tup vs)) vs rs := by
        obtain ⟨as, r, nd, f⟩ := rrs
        exact ⟨as, r.mono (g3.keep g.ok) (g3.keepZ g.ok) (fun a m => upd_ne fun z => by
          obtain ⟨u, w, _⟩ := r.there a m
          rw [z, n] at w; cases w), nd, f⟩
      exact ⟨p, vs, rfl, .inl (.inl upd_same), hv, hv, q.2.2 _ F1 _ (unp_at x (g.trans x.bs g3) np e q.1 q.2.1) ((g.trans x.bs g3).keep x.bs)⟩
    · exact q.elim⟩
end
/-! ### the deck: a dict {kc: a list of ints, mixed: int, kt: int} -/
def deckK (kc kt : Str) (aC : Addr) (m t : Int) : List (Key × V) := [(.inr kc, .ref aC), (.inr "mixed", .int m), (.inr kt, .int t)]
structure DeckAt (kc kt : Str) (aD aC : Addr) (H : Hp) (ns : List Int) (m t : Int) : Prop where
  d : H aD = some (.dK (deckK kc kt aC m t))
  c : H aC = some (.lst (ns.map V.int))
  n : ns.length ≤ 63
/-- the zone of a deck; token 0 the deck, token 1 the script -/
def deckZ (kc kt : Str) (P : Program) (w : World) (aD aC aS : Addr) : Zn where
  P := P
  w := w
  Z := fun a => a = aD ∨ a = aC
  J := fun H => ∃ ns m t, DeckAt kc kt aD aC H ns m t
  tokV := fun n => match n with
    | 0 => .ref aD
    | _ => .ref aS
  jmut := fun H ⟨ns, m, t, h⟩ a z => by
    rcases z with rfl | rfl
    · rw [h.d]; trivial
    · rw [h.c]; trivial
  jloc := fun H H' ⟨ns, m, t, h⟩ k => ⟨ns, m, t, (k aD (.inl rfl)).trans h.d, (k aC (.inr rfl)).trans h.c, h.n⟩
theorem deck_ne {kc kt : Str} {aD aC : Addr} {H : Hp} {ns : List Int} {m t : Int} (h : DeckAt kc kt aD aC H ns m t) : aD ≠ aC := fun e => by
  have := h.c
  rw [← e, h.d] at this
  cases this
end DL
set_option Elab.async false
set_option linter.all false
set_option maxRecDepth 100000
set_option maxHeartbeats 1000000
namespace DL
open PySem PySem.Spec L2
open PyProof.Rows hiding St
/-! ### y = [e for ..], y a plain local name -/
section
variable {X : Cx} {C : Zn} {F0 : Addr → Prop} {H0 : Hp}
theorem s_setLc {i : Nat} {y : Str} {py : Pos} {elt tg iter : Expr} {ifs : List Expr} {scope : Scope} {own : List (Str × Nat)} {pos spos : Pos} {it : DI} {pat : DP} {tst : DB} {te : DT} {is : List Nat} (hc : X.calm = true) (hN : X.N.Nodup) (hy : X.N[i]? = some y) (hyl : X.env.scope.names.lookup y = some .local)
    (hsw : swapsWith (.ListComp elt [⟨tg, iter, ifs, 0⟩] scope pos) (some (.Name y py)) spos.line X.env = pure true) (hi : PDI C X false tg iter it) (ok : BlkOk X.N X.env.scope scope own) (his : ∀ i ∈ is, i ∈ own.map (·.2))
    (hg : ∀ (s : Shared) (H : Hp) (A : Addr) (cl : List (Str × Addr)) (fp : List Addr), PDG C (X.blk s H scope (compEnvC scope cl A X.env) fp) tg is pat) (ht : ∀ (s : Shared) (H : Hp) (A : Addr) (cl : List (Str × Addr)) (fp : List Addr), PDTs C (X.blk s H scope (compEnvC scope cl A X.env) fp) ifs tst)
    (he : ∀ (s : Shared) (H : Hp) (A : Addr) (cl : List (Str × Addr)) (fp : List Addr), PD C (X.blk s H scope (compEnvC scope cl A X.env) fp) elt te) (hs : ∀ x, foldedSetIterable iter X.env x = pure x := by intro _; rfl) :
    PSD C F0 H0 X (.Assign [.Name y py] (.ListComp elt [⟨tg, iter, ifs, 0⟩] scope pos) spos) (dSet i (dLc it pat tst te (own.map (·.2)))) := by
  have gm := fun d => (hg X.s_0 X.H_0 0 [] []).mono d
  have tm := (ht X.s_0 X.H_0 0 [] []).mono
  have em := (he X.s_0 X.H_0 0 [] []).mono
  have mm : Mono (dLc it pat tst te (own.map (·.2))) := fun δ Q Q' m q => hi.mono δ _ _ (fun ds q => mono_lcRun gm tm em _ (fun acc q => m _ q) ds [] q) q
  refine ⟨mono_set mm, (ps_setLc (wi := liftI C X.K false it) (g := liftG C X.K is pat) (tt := liftB C X.K tst) (te := lift C X.K te) hc hN hy hyl hsw hi.run ok (fun s H A cl fp => (hg s H A cl fp).run) (fun s H A cl fp => (ht s H A cl fp).run) (fun s H A cl fp => (he s H A cl fp).run) hs).imp fun D σ H q => ?_⟩
  obtain ⟨δ, F, x, q⟩ := q
  refine lc_to hi.mono gm tm em his ⟨δ, F, x.at0, mm δ _ _ (fun r q F' H' v g rr => ?_) q⟩
  split at q
  · rename_i dv e
    exact q.2 _ F' H' (x.set g (rr.fx g.ok e) q.1) (g.keep x.bs)
  · exact q.elim
theorem s_setLc2 {i : Nat} {y : Str} {py : Pos} {elt tg iter tg1 iter1 : Expr} {ifs ifs1 : List Expr} {scope : Scope} {own : List (Str × Nat)} {vs1 : List Nat} {pos spos : Pos} {it it1 : DI} {pat pat1 : DP} {tst tst1 : DB} {te : DT} {is is1 : List Nat} (hc : X.calm = true) (hN : X.N.Nodup) (hy : X.N[i]? = some y) (hyl : X.env.scope.names.lookup y = some .local)
    (hsw : swapsWith (.ListComp elt [⟨tg, iter, ifs, 0⟩, ⟨tg1, iter1, ifs1, 0⟩] scope pos) (some (.Name y py)) spos.line X.env = pure true) (hi : PDI C X false tg iter it) (ok : BlkOk X.N X.env.scope scope own) (his : ∀ i ∈ is, i ∈ own.map (·.2)) (hv : ∀ i ∈ vs1, i ∈ own.map (·.2)) (his1 : ∀ i ∈ is1, i ∈ vs1)
    (hg : ∀ (s : Shared) (H : Hp) (A : Addr) (cl : List (Str × Addr)) (fp : List Addr), PDG C (X.blk s H scope (compEnvC scope cl A X.env) fp) tg is pat) (ht : ∀ (s : Shared) (H : Hp) (A : Addr) (cl : List (Str × Addr)) (fp : List Addr), PDTs C (X.blk s H scope (compEnvC scope cl A X.env) fp) ifs tst)
    (hi1 : ∀ (s : Shared) (H : Hp) (A : Addr) (cl : List (Str × Addr)) (fp : List Addr), PDI C (X.blk s H scope (compEnvC scope cl A X.env) fp) true tg1 iter1 it1)
    (hg1 : ∀ (s : Shared) (H : Hp) (A : Addr) (cl : List (Str × Addr)) (fp : List Addr), PDG C (X.blk s H scope (compEnvC scope cl A X.env) fp) tg1 is1 pat1) (ht1 : ∀ (s : Shared) (H : Hp) (A : Addr) (cl : List (Str × Addr)) (fp : List Addr), PDTs C (X.blk s H scope (compEnvC scope cl A X.env) fp) ifs1 tst1)
    (he : ∀ (s : Shared) (H : Hp) (A : Addr) (cl : List (Str × Addr)) (fp : List Addr), PD C (X.blk s H scope (compEnvC scope cl A X.env) fp) elt te) (hs : ∀ x, foldedSetIterable iter X.env x = pure x := by intro _; rfl) (hs1 : ∀ env x, foldedSetIterable iter1 env x = pure x := by intro _ _; rfl) :
    PSD C F0 H0 X (.Assign [.Name y py] (.ListComp elt [⟨tg, iter, ifs, 0⟩, ⟨tg1, iter1, ifs1, 0⟩] scope pos) spos) (dSet i (dLc2 it pat tst it1 pat1 tst1 te (own.map (·.2)) vs1)) := by
  have gm := fun d => (hg X.s_0 X.H_0 0 [] []).mono d
  have tm := (ht X.s_0 X.H_0 0 [] []).mono
  have im := (hi1 X.s_0 X.H_0 0 [] []).mono
  have gm1 := fun d => (hg1 X.s_0 X.H_0 0 [] []).mono d
  have tm1 := (ht1 X.s_0 X.H_0 0 [] []).mono
  have em := (he X.s_0 X.H_0 0 [] []).mono
  have mm : Mono (dLc2 it pat tst it1 pat1 tst1 te (own.map (·.2)) vs1) := fun δ Q Q' m q => hi.mono δ _ _ (fun ds q => mono_lcRun2 gm tm im gm1 tm1 em _ (fun acc q => m _ q) ds [] q) q
  refine ⟨mono_set mm, (ps_setLc2 (wi := liftI C X.K false it) (g := liftG C X.K is pat) (tt := liftB C X.K tst) (wi1 := liftI C X.K true it1) (g1 := liftG C X.K is1 pat1) (tt1 := liftB C X.K tst1) (te := lift C X.K te) hc hN hy hyl hsw hi.run ok hv
    (fun s H A cl fp => (hg s H A cl fp).run) (fun s H A cl fp => (ht s H A cl fp).run) (fun s H A cl fp => (hi1 s H A cl fp).run) (fun s H A cl fp => (hg1 s H A cl fp).run) (fun s H A cl fp => (ht1 s H A cl fp).run) (fun s H A cl fp => (he s H A cl fp).run) hs hs1).imp fun D σ H q => ?_⟩
  obtain ⟨δ, F, x, q⟩ := q
  refine lc2_to hi.mono gm tm im gm1 tm1 em his his1 ⟨δ, F, x.at0, mm δ _ _ (fun r q F' H' v g rr => ?_) q⟩
  split at q
  · rename_i dv e
    exact q.2 _ F' H' (x.set g (rr.fx g.ok e) q.1) (g.keep x.bs)
  · exact q.elim
/-! ### a def that may be called -/
structure Gd (P : Program) (w : World) (K : PySem.W.Frag) (mg : Str → Option Value) (base : Heap) (C : Zn) (x : Str) (st : Stmt) (ps : List Str) (lev : Nat) (g : Sg) : Prop where
  mono : MonoG g
  ex : ∃ f fd, FnG P w K mg base CX0 lev f fd ps (spD C K g) ∧ mg x = some (.ref f) ∧ Fun K x x st f fd
/-- how positional arguments bind -/
def Bnd (x : Str) (st : Stmt) (ps : List Str) : Prop := ∀ (kV doc pm : Value) (an : Option Addr) (cdv ct : Value) (us : List Value), us.length = ps.length → bindArgs (PySem.W.fnOf x x (defArgs st) (defBody st) (defScope st) .none kV doc pm an cdv ct) ⟨us, []⟩ = pure (ps.zip us)
/-- a place's item, any kind: the order of arguments by name -/
def pick {α : Type} (is : List Nat) (vs : List α) : List α := is.filterMap fun i => vs[i]?
/-- how arguments by name bind: pick is puts them in order -/
def BndK (x : Str) (st : Stmt) (ps ks : List Str) (is : List Nat) : Prop := ∀ (kV doc pm : Value) (an : Option Addr) (cdv ct : Value) (us : List Value), (pick is us).length = ps.length → bindArgs (PySem.W.fnOf x x (defArgs st) (defBody st) (defScope st) .none kV doc pm an cdv ct) ⟨[], ks.zip us⟩ = pure (ps.zip (pick is us))
theorem paired_pick {α β : Type} {R : α → β → Prop} {xs : List α} {ys : List β} (h : Paired R xs ys) : ∀ is : List Nat, Paired R (pick is xs) (pick is ys)
  | [] => .nil
  | i :: is => by
    unfold pick
    rw [List.filterMap_cons, List.filterMap_cons]
    have key : ∀ {xs : List α} {ys : List β} (i : Nat), Paired R xs ys → (xs[i]? = none ∧ ys[i]? = none) ∨ ∃ x y, xs[i]? = some x ∧ ys[i]? = some y ∧ R x y := by
      intro xs ys i h
      induction h generalizing i with
      | nil => exact .inl ⟨rfl, rfl⟩
      | cons r t ih =>
        cases i with
        | zero => exact .inr ⟨_, _, rfl, rfl, r⟩
        | succ i => simpa using ih i
    rcases key i h with ⟨e1, e2⟩ | ⟨x, y, e1, e2, r⟩
    · rw [e1, e2]; exact paired_pick h is
    · rw [e1, e2]; exact .cons r (paired_pick h is)
theorem reps_pick {K : PySem.W.Frag} {C : Zn} {F : Addr → Prop} {H : Hp} {vs : List V} {ds : List DV} (h : Reps K C F H vs ds []) : ∀ is : List Nat, Reps K C F H (pick is vs) (pick is ds) []
  | [] => .nil
  | i :: is => by
    unfold pick
    rw [List.filterMap_cons, List.filterMap_cons]
    have key : ∀ {vs : List V} {ds : List DV} (i : Nat), Reps K C F H vs ds [] → (vs[i]? = none ∧ ds[i]? = none) ∨ ∃ x y, vs[i]? = some x ∧ ds[i]? = some y ∧ Rep K C F H x y [] := by
      intro vs
      induction vs with
      | nil => intro ds i h; cases h; exact .inl ⟨rfl, rfl⟩
      | cons v vs ih =>
        intro ds i h
        generalize e : ([] : List Addr) = l at h
        cases h with
        | cons r t =>
          obtain ⟨rfl, rfl⟩ := List.append_eq_nil_iff.mp e.symm
          cases i with
          | zero => exact .inr ⟨_, _, rfl, rfl, r⟩
          | succ i => simpa using ih i t
    rcases key i h with ⟨e1, e2⟩ | ⟨x, y, e1, e2, r⟩
    · rw [e1, e2]; exact reps_pick h is
    · rw [e1, e2]; exact .cons (as := []) r (reps_pick h is)
variable {k : Nat} {ps ks : List Str} {x : Str} {st : Stmt} {p pos : Pos} {e : Expr} {es : List Expr} {kws : List Keyword} {g : Sg} {t tk : DL'}
theorem d_callG {lev : Nat} (G : Gd X.prog X.w X.K X.mg X.base C x st ps lev g) (b : Bnd x st ps) (hl : lev ≤ k) (gu : X.A.guards = some []) (hr : Room k X.A) (hx : Passes CX0 X E0)
    (ha : PDL C X (e :: es) t) (hg : Gl X x := by rfl) (hdb : (x == ("__debug__" : Str)) = false := by decide) (he : starEach (e :: es) X.env = (false, eval e X.env) :: starEach es X.env := by rfl) (hpl : (backTo pos (starEach es X.env)).any (·.1) = false := by rfl) :
    PD C X (.Call (.Name x p) (e :: es) [] pos) (dCall g t) := by
  obtain ⟨m, f, fd, F, hm, U⟩ := G
  exact d_call (F.mono hl) m gu hr hx hm U.kp (U.binds b) ha hg hdb he hpl
theorem d_callGK {lev : Nat} (is : List Nat) (G : Gd X.prog X.w X.K X.mg X.base C x st ps lev g) (b : BndK x st ps ks is) (hne : ps ≠ []) (hl : lev ≤ k) (gu : X.A.guards = some []) (hr : Room k X.A) (hx : Passes CX0 X E0)
    (hkw : PDK C X kws tk) (hg : Gl X x := by rfl) (hall : (backToKw pos (keywordEach kws X.env)).all (·.1.isSome) = true := by rfl) (hks : (backToKw pos (keywordEach kws X.env)).filterMap (·.1) = ks := by rfl)
    (hdb : (x == ("__debug__" : Str)) = false := by decide)
    (hpl : ((backTo pos (starEach [] X.env)).any (·.1) || (backToKw pos (keywordEach kws X.env)).any (·.1.isNone)) = false := by rfl) :
    PD C X (.Call (.Name x p) [] kws pos) (dCallK g (pick is) tk) := by
  obtain ⟨m, f, fd, F, hm, U⟩ := G
  refine d_callK0 (pv := pick is) (pu := pick is) (F.mono hl) m gu hr hx hm U.kp ⟨⟨fun s us ws kin hlen => ?_, fun {vs us zs ws} r rz => ?_⟩, fun C F H vs ds r => reps_pick r is⟩ hkw hg hall hks hdb hpl
  · obtain ⟨oc, od, kV, doc, pm, an, cdv, ct, osl, rfl, _⟩ := U.ex
    cases us with
    | nil => exact .of_eq (b kV doc pm an cdv ct ws hlen)
    | cons u us => exact absurd (List.eq_nil_of_length_eq_zero hlen.symm) hne
  · cases r with
    | nil => exact paired_pick rz is
    | cons _ _ => exact .nil
theorem gd_mk {P : Program} {w : World} {K : PySem.W.Frag} {mg : Str → Option Value} {base : Heap} {C : Zn} {lev : Nat} {f : Addr} {fd : FuncData} (hm : mg x = some (.ref f)) (U : Fun K x x st f fd) (m : MonoG g) (F : FnG P w K mg base CX0 lev f fd ps (spD C K g)) : Gd P w K mg base C x st ps lev g := ⟨m, f, fd, F, hm, U⟩
end
end DL
set_option Elab.async false
set_option linter.all false
set_option maxRecDepth 100000
set_option maxHeartbeats 1000000
namespace DL
open PySem PySem.Spec L2
open PyProof.Rows hiding St
/-! ### the deck's two defs: what they promise -/
/-- a draw: any number below -/
def gDraw : Sg := fun ds Q => ∃ many : Int, ds = [.tok 0, .sh (.int many)] ∧ (0 < many ∧ many < 1073741824) ∧ ∀ r : Int, 0 ≤ r → r < many → Q (.sh (.int r))
theorem mono_draw : MonoG gDraw := fun ds Q Q' m ⟨many, e, h, q⟩ => ⟨many, e, h, fun r a b => m _ (q r a b)⟩
theorem len_draw : ∀ ds Q, gDraw ds Q → ds.length = 2 := fun ds Q ⟨many, e, _⟩ => by rw [e]; rfl
/-- the deck made of the script -/
def spDeck (kc kt : Str) (K : PySem.W.Frag) : Sp := fun vs H Q _ => ∃ (a : Addr) (ns : List Int), vs = [.ref a] ∧ SqL K H a (ns.map V.int) ∧ ns.length ≤ 63 ∧
  ∀ H' aD aC m, (∀ b o, H b = some o → H' b = some o) → H aD = none → H aC = none → DeckAt kc kt aD aC H' ns.reverse m 0 → Q (.ref aD) H'
/-- a state of the deck behind the start of a draw -/
structure DrawSt (kc kt : Str) (aD aC : Addr) (H0 H : Hp) (ns : List Int) (m t : Int) : Prop where
  at' : DeckAt kc kt aD aC H ns m t
  same : ∀ a o, H0 a = some o → a ≠ aD → a ≠ aC → H a = some o
section
variable {kc kt : Str} {aD aC : Addr} {H0 H : Hp} {ns : List Int} {m t : Int}
theorem DrawSt.put (h : DrawSt kc kt aD aC H0 H ns m t) (k : Int) (hp : putK (deckK kc kt aC m t) (.inr kt) (.int k) = deckK kc kt aC m k) : DrawSt kc kt aD aC H0 (upd H aD (.dK (putK (deckK kc kt aC m t) (.inr kt) (.int k)))) ns m k := by
  have ne := deck_ne h.at'
  rw [hp]
  exact ⟨⟨upd_same, by rw [upd_ne ne.symm]; exact h.at'.c, h.at'.n⟩, fun a o e n1 n2 => by rw [upd_ne n1]; exact h.same a o e n1 n2⟩
theorem DrawSt.cells (h : DrawSt kc kt aD aC H0 H ns m t) {ks : List Int} (hk : ks.length ≤ 63) : DrawSt kc kt aD aC H0 (upd H aC (.lst (ks.map V.int))) ks m t := by
  have ne := deck_ne h.at'
  exact ⟨⟨by rw [upd_ne ne]; exact h.at'.d, upd_same, hk⟩, fun a o e n1 n2 => by rw [upd_ne n2]; exact h.same a o e n1 n2⟩
theorem DrawSt.new (h : DrawSt kc kt aD aC H0 H ns m t) {p : Addr} {o : HO} (n : H p = none) (n0 : H0 p = none) : DrawSt kc kt aD aC H0 (upd H p o) ns m t := by
  have n1 : aD ≠ p := fun e => by rw [← e, h.at'.d] at n; cases n
  have n2 : aC ≠ p := fun e => by rw [← e, h.at'.c] at n; cases n
  exact ⟨⟨by rw [upd_ne n1]; exact h.at'.d, by rw [upd_ne n2]; exact h.at'.c, h.at'.n⟩, fun a u e q1 q2 => by
    have : a ≠ p := fun z => by rw [z, n0] at e; cases e
    rw [upd_ne this]; exact h.same a u e q1 q2⟩
theorem DrawSt.none0 (h : DrawSt kc kt aD aC H0 H ns m t) {p : Addr} (n : H p = none) : H0 p = none := by
  cases e : H0 p with
  | none => rfl
  | some o =>
    have n1 : p ≠ aD := fun z => by rw [z, h.at'.d] at n; cases n
    have n2 : p ≠ aC := fun z => by rw [z, h.at'.c] at n; cases n
    have := h.same p o e n1 n2
    rw [n] at this; cases this
theorem DrawSt.get (h : DrawSt kc kt aD aC H0 H ns m t) {k : Key} {v : V} (e : valV (deckK kc kt aC m t) k = some v) : DGet H aD (kV k) (some v) := .inl ⟨_, k, .inl h.at'.d, rfl, e.symm⟩
theorem DrawSt.go {P : Program} {w : World} {F : Addr → Prop} {aS : Addr} (b : Bs (deckZ kc kt P w aD aC aS) F H0) (h : DrawSt kc kt aD aC H0 H ns m t) : Go (deckZ kc kt P w aD aC aS) F H0 F H := by
  have same : ∀ a o, H0 a = some o → ¬ (deckZ kc kt P w aD aC aS).Z a → H a = some o := fun a o e nz => h.same a o e (fun z => nz (.inl z)) fun z => nz (.inr z)
  refine ⟨same, fun _ h => h, fun _ h => .inl h, ⟨ns, m, t, h.at'⟩, fun a fa => ⟨(b.f a fa).1, ?_⟩⟩
  obtain ⟨nz, o, e⟩ := b.f a fa
  exact ⟨o, same a o e nz⟩
theorem DrawSt.sq {K : PySem.W.Frag} (h : DrawSt kc kt aD aC H0 H ns m t) : SqL K H aC (ns.map V.int) := .inl (.inl h.at'.c)
theorem DrawSt.dq {K : PySem.W.Frag} (h : DrawSt kc kt aD aC H0 H ns m t) : Dq K Any H (.ref aC) (.list (ns.map PyData.int)) := .lst ⟨h.at'.c, trivial⟩ (DqAll.ofInts ns)
end
theorem reps_cons {K : PySem.W.Frag} {C : Zn} {F : Addr → Prop} {H : Hp} {vs : List V} {d : DV} {ds : List DV} (h : Reps K C F H vs (d :: ds) []) : ∃ v us, vs = v :: us ∧ Rep K C F H v d [] ∧ Reps K C F H us ds [] := by
  generalize e : ([] : List Addr) = l at h
  cases h with
  | cons r t =>
    obtain ⟨rfl, rfl⟩ := List.append_eq_nil_iff.mp e.symm
    exact ⟨_, _, rfl, r, t⟩
theorem draw_args {K : PySem.W.Frag} {C : Zn} {F : Addr → Prop} {H : Hp} {vs : List V} {many : Int} (h : Reps K C F H vs [.tok 0, .sh (.int many)] []) : vs = [C.tokV 0, .int many] := by
  obtain ⟨v, us, rfl, r1, h1⟩ := reps_cons h
  obtain ⟨u, ws, rfl, r2, h2⟩ := reps_cons h1
  cases h2
  cases r1
  cases r2 with
  | sh q => cases q; rfl
theorem sDep_nil (d : D) : sDep d (.list []) := by
  unfold sDep
  have : (PyData.list []).depth = 1 := by simp [PyData.depth, PyData.depthAll]
  omega
/-! ### the law's own def -/
theorem pss_ex (kc kt : Str) {X : Cx} {rest : List Stmt} {t : DS} (h : ∀ aD aC aS F0 H0, PSSD (deckZ kc kt X.prog X.w aD aC aS) F0 H0 X rest t) : PSs X rest (fun D σ H => MonoS t → ∃ aD aC aS F0 H0, liftS X.K (deckZ kc kt X.prog X.w aD aC aS) F0 H0 t D σ H) :=
  ⟨fun pins s σ H D I q => by
    obtain ⟨aD, aC, aS, F0, H0, q⟩ := q (h 0 0 0 (fun _ => False) fun _ => none).mono
    exact (h aD aC aS F0 H0).run.run pins s σ H D I q⟩
/-- what the law's def is to do: with the script, comes to True -/
def spLaw (K : PySem.W.Frag) : Sp := fun vs H Q _ => ∃ (a : Addr) (ns : List Int), vs = [.ref a] ∧ SqL K H a (ns.map V.int) ∧ ns.length ≤ 63 ∧ ∀ H', Q (.bl true) H'
/-- the names behind deck = _law_deck(script) -/
def lawD (n : Nat) : DE := some (.tok 1) :: some (.tok 0) :: List.replicate n none
theorem law_start {kc kt : Str} {P : Program} {w : World} {K : PySem.W.Frag} {aD aC a : Addr} {H1 : Hp} {ns : List Int} {m t : Int} (d : DeckAt kc kt aD aC H1 ns m t) (n : Nat) : At K (deckZ kc kt P w aD aC a) (fun _ => False) H1 (some (.ref a) :: some (.ref aD) :: List.replicate n none) (lawD n) (fun _ => False) H1 := by
  have b : Bs (deckZ kc kt P w aD aC a) (fun _ => False) H1 := ⟨⟨ns, m, t, d⟩, fun _ h => h.elim⟩
  have e : Envs K (deckZ kc kt P w aD aC a) (fun _ => False) H1 (List.replicate n none) (List.replicate n none) [] := by
    induction n with
    | zero => exact .nil
    | succ n ih => rw [List.replicate_succ, List.replicate_succ]; exact .off ih
  exact ⟨b, .refl b, [], .on (as := []) (.tok 1) (.on (as := []) (.tok 0) e), List.nodup_nil, fun _ h => by cases h⟩
theorem law_rest {kc kt : Str} {X : Cx} {t : DS} {n : Nat} {aD aC a : Addr} {H1 : Hp} {ns : List Int} {m t0 : Int} {Q : VK} (mt : MonoS t) (d : DeckAt kc kt aD aC H1 ns m t0) (hQ : ∀ H', Q (.bl true) H') (p : t { nx := fun _ => False, rt := fun dv => dv = .sh (.bool true) } (lawD n)) :
    liftS X.K (deckZ kc kt X.prog X.w aD aC a) (fun _ => False) H1 t { nx := fun _ H' => Q .non H', rt := Q } (some (.ref a) :: some (.ref aD) :: List.replicate n none) H1 := by
  refine ⟨_, _, law_start d n, mt.ap p ⟨fun _ h => h.elim, fun dv h v F' H' g rr => ?_, fun _ h => h.elim, fun _ h => h.elim⟩⟩
  subst h
  obtain ⟨as, z, _⟩ := rr
  cases z with
  | sh z =>
    cases z
    exact hQ H'
end DL
set_option Elab.async false
set_option linter.all false
set_option maxRecDepth 100000
set_option maxHeartbeats 1000000
namespace DL
open PySem PySem.Spec L2
open PyProof.Rows hiding St
/-! ### readings computed: simp rules -/
/-- a list of one's own, of data -/
abbrev ownL (ds : List D) : DV := .own (ds.map DV.sh)
section
variable {δ : DE} {Q : R → Prop} {d e : D} {ds es : List D}
@[simp] theorem fz_own (ds : List D) : DV.fz (.own (ds.map DV.sh)) = some (.list ds) := by rw [DV.fz, fzs_sh]; rfl
@[simp] theorem fz_sh (d : D) : DV.fz (.sh d) = some d := by rw [DV.fz]
@[simp] theorem fz_kt (ds : List D) : DV.fz (.kt ds) = some (.tuple ds) := by rw [DV.fz]
@[simp] theorem fzs_own (ds : List D) : DV.fzs (ds.map DV.sh) = some ds := fzs_sh ds
@[simp] theorem rd_own (ds : List D) : (R.val (.own (ds.map DV.sh))).rd = some (.list ds) := fz_own ds
@[simp] theorem fd_own (ds : List D) : (R.val (.own (ds.map DV.sh))).fd = some (.list ds) := fz_own ds
@[simp] theorem sup_own (ds : List D) : (R.val (.own (ds.map DV.sh))).sup = some (.list ds) := fz_own ds
@[simp] theorem rd_kt (ds : List D) : (R.val (.kt ds)).rd = some (.tuple ds) := fz_kt ds
@[simp] theorem fd_kt (ds : List D) : (R.val (.kt ds)).fd = some (.tuple ds) := fz_kt ds
@[simp] theorem sup_kt (ds : List D) : (R.val (.kt ds)).sup = some (.tuple ds) := fz_kt ds
theorem sup_br (d : D) : (R.br d).sup = if els d then some d else none := rfl
@[simp] theorem noLst_int (i : Int) : noLst (.int i) = true := by rw [noLst]; all_goals simp
@[simp] theorem noLst_bool (i : Bool) : noLst (.bool i) = true := by rw [noLst]; all_goals simp
@[simp] theorem noLst_tuple (ds : List D) : noLst (.tuple ds) = noLsts ds := by rw [noLst]
@[simp] theorem noLst_list (ds : List D) : noLst (.list ds) = false := by rw [noLst]
@[simp] theorem noLsts_nil : noLsts [] = true := by rw [noLsts]
@[simp] theorem noLsts_cons (d : D) (ds : List D) : noLsts (d :: ds) = (noLst d && noLsts ds) := by rw [noLsts]
theorem noLsts_all : ∀ {ds : List D}, (∀ d ∈ ds, noLst d = true) → noLsts ds = true
  | [], _ => noLsts_nil
  | d :: ds, h => by rw [noLsts_cons, h d List.mem_cons_self, noLsts_all fun x m => h x (List.mem_cons_of_mem _ m)]; rfl
@[simp] theorem noLsts_ints (ns : List Int) : noLsts (ns.map PyData.int) = true := noLsts_all fun d m => by
  obtain ⟨i, _, rfl⟩ := List.mem_map.mp m
  exact noLst_int i
@[simp] theorem noLsts_bools (ns : List Bool) : noLsts (ns.map PyData.bool) = true := noLsts_all fun d m => by
  obtain ⟨i, _, rfl⟩ := List.mem_map.mp m
  exact noLst_bool i
@[simp] theorem els_list (ds : List D) : els (.list ds) = noLsts ds := rfl
@[simp] theorem els_tuple (ds : List D) : els (.tuple ds) = noLsts ds := rfl
/-- a slot's reading -/
def onV (o : Option (Option DV)) (Q : R → Prop) : Prop := match o with
  | some (some (.sh d)) => Q (.val (.sh d))
  | some (some (.tok n)) => Q (.val (.tok n))
  | some (some (.kt ds)) => Q (.val (.sh (.tuple ds)))
  | some (some (.own es)) => (match DV.fzs es with | some ds => Q (.br (.list ds)) | none => False)
  | _ => False
@[simp] theorem dVar_e (i : Nat) : dVar i δ Q = onV δ[i]? Q := rfl
@[simp] theorem onV_sh (d : D) : onV (some (some (.sh d))) Q = Q (.val (.sh d)) := rfl
@[simp] theorem onV_tok (d : Nat) : onV (some (some (.tok d))) Q = Q (.val (.tok d)) := rfl
@[simp] theorem onV_kt (ds : List D) : onV (some (some (.kt ds))) Q = Q (.val (.sh (.tuple ds))) := rfl
@[simp] theorem onV_own (ds : List D) : onV (some (some (.own (ds.map DV.sh)))) Q = Q (.br (.list ds)) := by
  show (match DV.fzs (ds.map DV.sh) with | some ds => Q (.br (.list ds)) | none => False) = _
  rw [fzs_sh]
@[simp] theorem onV_nil : onV (some (some (.own []))) Q = Q (.br (.list [])) := rfl
@[simp] theorem dC_e (d : D) : dC d δ Q = Q (.val (.sh d)) := rfl
@[simp] theorem dOp_e (f : D → D → (R → Prop) → Prop) (ta tb : DT) : dOp f ta tb δ Q = ta δ fun x => tb δ fun y => on2 f x y Q := rfl
@[simp] theorem dOpR_e (f : R → R → (R → Prop) → Prop) (ta tb : DT) : dOpR f ta tb δ Q = ta δ fun x => tb δ fun y => f x y Q := rfl
@[simp] theorem dUn_e (f : R → (R → Prop) → Prop) (ta : DT) : dUn f ta δ Q = ta δ fun x => f x Q := rfl
@[simp] theorem dCB_e (f : List R → (R → Prop) → Prop) (ta : DL') : dCB f ta δ Q = ta δ fun x => f x Q := rfl
@[simp] theorem dNil_e {Q : List R → Prop} : dNil δ Q = Q [] := rfl
@[simp] theorem dCons_e {Q : List R → Prop} (te : DT) (t : DL') : dCons te t δ Q = te δ fun r => t δ fun rs => Q (r :: rs) := rfl
@[simp] theorem dTest_e {Q : Bool → Prop} (t : DT) : dTest t δ Q = t δ fun x => onB x Q := rfl
@[simp] theorem dAnd_e {Q : Bool → Prop} (t u : DB) : dAnd t u δ Q = t δ fun k => if k = true then u δ Q else Q false := rfl
@[simp] theorem dOr_e {Q : Bool → Prop} (t u : DB) : dOr t u δ Q = t δ fun k => if k = true then Q true else u δ Q := rfl
@[simp] theorem dNot_e {Q : Bool → Prop} (t : DB) : dNot t δ Q = t δ fun k => Q (!k) := rfl
@[simp] theorem dYes_e {Q : Bool → Prop} : dYes δ Q = Q true := rfl
@[simp] theorem dIf_e (t : DB) (ta tb : DT) : dIf t ta tb δ Q = t δ fun k => if k = true then ta δ Q else tb δ Q := rfl
@[simp] theorem dAndV_e (ta tb : DT) : dAndV ta tb δ Q = ta δ fun x => onB x fun k => if k = true then tb δ Q else Q (.val (.sh (.bool false))) := rfl
@[simp] theorem dOrV_e (ta tb : DT) : dOrV ta tb δ Q = ta δ fun x => onB x fun k => if k = true then Q (.val (.sh (.bool true))) else tb δ Q := rfl
@[simp] theorem dNotV_e (ta : DT) : dNotV ta δ Q = ta δ fun x => onB x fun k => Q (.val (.sh (.bool (!k)))) := rfl
@[simp] theorem onB_e {Q : Bool → Prop} (k : Bool) : onB (.val (.sh (.bool k))) Q = Q k := rfl
@[simp] theorem onI_e {Q : Int → Prop} (k : Int) : onI (.val (.sh (.int k))) Q = Q k := rfl
@[simp] theorem on2_vv (f : D → D → (R → Prop) → Prop) (d e : D) : on2 f (.val (.sh d)) (.val (.sh e)) Q = f d e Q := by unfold on2; simp
@[simp] theorem on2_bv (f : D → D → (R → Prop) → Prop) (d e : D) : on2 f (.br d) (.val (.sh e)) Q = f d e Q := by unfold on2; simp
@[simp] theorem on2_vb (f : D → D → (R → Prop) → Prop) (d e : D) : on2 f (.val (.sh d)) (.br e) Q = f d e Q := by unfold on2; simp
@[simp] theorem on2_bb (f : D → D → (R → Prop) → Prop) (d e : D) : on2 f (.br d) (.br e) Q = f d e Q := by unfold on2; simp
@[simp] theorem on2_ov (f : D → D → (R → Prop) → Prop) (ds : List D) (e : D) : on2 f (.val (.own (ds.map DV.sh))) (.val (.sh e)) Q = f (.list ds) e Q := by unfold on2; simp
@[simp] theorem on2_oo (f : D → D → (R → Prop) → Prop) (ds es : List D) : on2 f (.val (.own (ds.map DV.sh))) (.val (.own (es.map DV.sh))) Q = f (.list ds) (.list es) Q := by unfold on2; simp
@[simp] theorem on2_bo (f : D → D → (R → Prop) → Prop) (d : D) (es : List D) : on2 f (.br d) (.val (.own (es.map DV.sh))) Q = f d (.list es) Q := by unfold on2; simp
@[simp] theorem on2_bn (f : D → D → (R → Prop) → Prop) (d : D) : on2 f (.br d) (.val (.own [])) Q = f d (.list []) Q := on2_bo f d []
@[simp] theorem on2_vo (f : D → D → (R → Prop) → Prop) (d : D) (es : List D) : on2 f (.val (.sh d)) (.val (.own (es.map DV.sh))) Q = f d (.list es) Q := by unfold on2; simp
@[simp] theorem fRel_e (side : D → D → Prop) (res : D → D → Bool) : fRel side res d e Q = (side d e ∧ Q (.val (.sh (.bool (res d e))))) := rfl
@[simp] theorem rEqv_int (i j : Int) : rEqv (.int i) (.int j) = decide (i = j) := rfl
@[simp] theorem rLtD_int (i j : Int) : rLtD (.int i) (.int j) = decide (i < j) := rfl
@[simp] theorem rLeD_int (i j : Int) : rLeD (.int i) (.int j) = decide (i ≤ j) := rfl
@[simp] theorem rEqv_bool (i j : Bool) : rEqv (.bool i) (.bool j) = (i == j) := by rw [rEqv_eq, PyData.eqv]
@[simp] theorem rIsD_bool (i j : Bool) : rIsD (.bool i) (.bool j) = decide (i = j) := rfl
@[simp] theorem sIs_bool (i j : Bool) : sIs (.bool i) (.bool j) = True := rfl
theorem depth_int (i : Int) : (PyData.int i).depth = 0 := by rw [PyData.depth]
@[simp] theorem sDep_int (i : Int) (e : D) : sDep (.int i) e ↔ True := by unfold sDep; rw [depth_int]; simp
@[simp] theorem sDep_int' (i : Int) (e : D) : sDep e (.int i) ↔ True := by unfold sDep; rw [depth_int]; simp
@[simp] theorem sDep_bool (i : Bool) (e : D) : sDep (.bool i) e ↔ True := by unfold sDep; rw [PyData.depth]; simp
@[simp] theorem sDep_list0 (e : D) : sDep e (.list []) ↔ True := ⟨fun _ => trivial, fun _ => sDep_nil e⟩
@[simp] theorem sDep_str (x y : Str) : sDep (.str x) (.str y) ↔ True := by unfold sDep; rw [PyData.depth]; simp
@[simp] theorem rEqv_str (x y : Str) : rEqv (.str x) (.str y) = decide (x = y) := rfl
@[simp] theorem sLt_int (i j : Int) : sLt (.int i) (.int j) ↔ True := by
  refine ⟨fun _ => trivial, fun _ => ⟨by simp [PySem.W.alike], (by intro h; cases h), ?_⟩⟩
  rw [depth_int]; simp
@[simp] theorem dChain_e (f g : D → D → (R → Prop) → Prop) (ta tb tc : DT) : dChain f g ta tb tc δ Q = ta δ fun x => tb δ fun y => on2 f x y fun z => onB z fun k => if k = true then tc δ fun w => on2 g y w Q else Q (.val (.sh (.bool false))) := rfl
@[simp] theorem fI_e (side : Int → Int → Prop) (g : Int → Int → Int) (i j : Int) : fI side g (.int i) (.int j) Q = (side i j ∧ Q (.val (.sh (.int (g i j))))) := rfl
@[simp] theorem sT_e (i j : Int) : sT i j = True := rfl
@[simp] theorem fU_e (g : Int → Int) (i : Int) : fU g (.val (.sh (.int i))) Q = Q (.val (.sh (.int (g i)))) := rfl
@[simp] theorem fAdd_ints (i j : Int) : fAdd (.val (.sh (.int i))) (.val (.sh (.int j))) Q = Q (.val (.sh (.int (i + j)))) := by unfold fAdd; simp
@[simp] theorem fAdd_tups (a b : List D) : fAdd (.val (.sh (.tuple a))) (.val (.sh (.tuple b))) Q = (a.length + b.length ≤ sizeLine ∧ Q (.val (.sh (.tuple (a ++ b))))) := by unfold fAdd; simp
@[simp] theorem fAdd_owns (a b : List D) : fAdd (.val (.own (a.map DV.sh))) (.val (.own (b.map DV.sh))) Q = (a.length + b.length ≤ sizeLine ∧ Q (.val (.own ((a ++ b).map DV.sh)))) := by unfold fAdd; simp
@[simp] theorem fMul_ints (i j : Int) : fMul (.val (.sh (.int i))) (.val (.sh (.int j))) Q = (CMul i j ∧ Q (.val (.sh (.int (i * j))))) := by unfold fMul; simp
/-- an item -/
def onIt (x : R) (o : Option D) (Q : R → Prop) : Prop := match o with
  | some d => Q (itemR x d)
  | none => False
@[simp] theorem fIx_vt (ds : List D) (i : Int) : fIx (.val (.sh (.tuple ds))) (.val (.sh (.int i))) Q = onIt (.val (.sh (.tuple ds))) (atI ds i) Q := by unfold fIx onIt; simp only [onI_e, R.rd_sh, R.rd_br]; cases atI ds i <;> rfl
@[simp] theorem fIx_vl (ds : List D) (i : Int) : fIx (.val (.sh (.list ds))) (.val (.sh (.int i))) Q = onIt (.val (.sh (.list ds))) (atI ds i) Q := by unfold fIx onIt; simp only [onI_e, R.rd_sh, R.rd_br]; cases atI ds i <;> rfl
@[simp] theorem fIx_bl (ds : List D) (i : Int) : fIx (.br (.list ds)) (.val (.sh (.int i))) Q = onIt (.br (.list ds)) (atI ds i) Q := by unfold fIx onIt; simp only [onI_e, R.rd_sh, R.rd_br]; cases atI ds i <;> rfl
@[simp] theorem fIx_bt (ds : List D) (i : Int) : fIx (.br (.tuple ds)) (.val (.sh (.int i))) Q = onIt (.br (.tuple ds)) (atI ds i) Q := by unfold fIx onIt; simp only [onI_e, R.rd_sh, R.rd_br]; cases atI ds i <;> rfl
@[simp] theorem onIt_v (x : DV) (d : D) : onIt (.val x) (some d) Q = Q (.val (.sh d)) := rfl
@[simp] theorem onIt_b (x d : D) : onIt (.br x) (some d) Q = Q (if noLst d then .val (.sh d) else .br d) := rfl
@[simp] theorem atI_0 {α : Type} (a : α) (l : List α) : atI (a :: l) 0 = some a := atI_nat (j := 0) rfl
@[simp] theorem atI_1 {α : Type} (a b : α) (l : List α) : atI (a :: b :: l) 1 = some b := atI_nat (j := 1) rfl
theorem atI_get' {α : Type} {l : List α} {j : Nat} (h : j < l.length) : atI l (j : Int) = some l[j] := atI_nat (List.getElem?_eq_getElem h)
@[simp] theorem on1_e (f : R → (R → Prop) → Prop) (x : R) : on1 f [x] Q = f x Q := rfl
@[simp] theorem fLen_vt (ds : List D) : fLen (.val (.sh (.tuple ds))) Q = Q (.val (.sh (.int ds.length))) := by unfold fLen; simp
@[simp] theorem fLen_vl (ds : List D) : fLen (.val (.sh (.list ds))) Q = Q (.val (.sh (.int ds.length))) := by unfold fLen; simp
@[simp] theorem fLen_bl (ds : List D) : fLen (.br (.list ds)) Q = Q (.val (.sh (.int ds.length))) := by unfold fLen; simp
@[simp] theorem fLen_o (ds : List D) : fLen (.val (.own (ds.map DV.sh))) Q = Q (.val (.sh (.int ds.length))) := by unfold fLen; simp
@[simp] theorem fList_vl (ds : List D) : fList (.val (.sh (.list ds))) Q = Q (.val (.own (ds.map DV.sh))) := by unfold fList; simp
@[simp] theorem fList_vt (ds : List D) : fList (.val (.sh (.tuple ds))) Q = Q (.val (.own (ds.map DV.sh))) := by unfold fList; simp
@[simp] theorem fList_o (ds : List D) : fList (.val (.own (ds.map DV.sh))) Q = Q (.val (.own (ds.map DV.sh))) := by unfold fList; simp
theorem fList_b {ds : List D} (h : noLsts ds = true) : fList (.br (.list ds)) Q = Q (.val (.own (ds.map DV.sh))) := by unfold fList; simp [sup_br, h]
@[simp] theorem fTuple_o (ds : List D) : fTuple (.val (.own (ds.map DV.sh))) Q = Q (.val (.sh (.tuple ds))) := by unfold fTuple; simp
@[simp] theorem fTuple_l (ds : List D) : fTuple (.val (.sh (.list ds))) Q = Q (.val (.sh (.tuple ds))) := by unfold fTuple; simp
@[simp] theorem fTuple_t (ds : List D) : fTuple (.val (.sh (.tuple ds))) Q = Q (.val (.sh (.tuple ds))) := by unfold fTuple; simp
theorem fTuple_b {ds : List D} (h : noLsts ds = true) : fTuple (.br (.list ds)) Q = Q (.val (.sh (.tuple ds))) := by unfold fTuple; simp [sup_br, h]
theorem fTupK_b {ds : List D} (h : noLsts ds = true) : fTupK (.br (.list ds)) Q = Q (.val (.kt ds)) := by unfold fTupK; simp [sup_br, h]
@[simp] theorem fInt_e (i : Int) : fInt (.val (.sh (.int i))) Q = Q (.val (.sh (.int i))) := rfl
theorem fBools_o {g : List Bool → Bool} (bs : List Bool) : fBools g (.val (.own ((bs.map PyData.bool).map DV.sh))) Q = Q (.val (.sh (.bool (g bs)))) := by unfold fBools; rw [rd_own]; simp only [boolsOf_map]
@[simp] theorem fIsi_e (T : String) (d : D) : fIsi T (.val (.sh d)) Q = Q (.val (.sh (.bool (tyIs T d)))) := by unfold fIsi; simp
/-! tuples, calls -/
@[simp] theorem dTup_e (t : DL') : dTup t δ Q = t δ fun rs => match fdL rs with
  | some ds => Q (.val (.sh (.tuple ds)))
  | none => False := rfl
@[simp] theorem dLst_e (t : DL') : dLst t δ Q = t δ fun rs => match fxL rs with
  | some ds => Q (.val (.own ds))
  | none => False := rfl
@[simp] theorem dCall_e (g : Sg) (t : DL') : dCall g t δ Q = t δ fun rs => match arL rs with
  | some ds => g ds fun dv => Q (.val dv)
  | none => False := rfl
@[simp] theorem dCallK_e (g : Sg) (p : List DV → List DV) (t : DL') : dCallK g p t δ Q = t δ fun rs => match arL rs with
  | some ds => g (p ds) fun dv => Q (.val dv)
  | none => False := rfl
@[simp] theorem fdL_nil : fdL [] = some [] := rfl
@[simp] theorem fdL_v (d : D) (rs : List R) : fdL (.val (.sh d) :: rs) = (fdL rs).map (d :: ·) := by
  rw [fdL, R.fd_sh]
  cases fdL rs <;> rfl
@[simp] theorem fdL_o (ds : List D) (rs : List R) : fdL (.val (.own (ds.map DV.sh)) :: rs) = (fdL rs).map (.list ds :: ·) := by
  rw [fdL, fd_own]
  cases fdL rs <;> rfl
@[simp] theorem fxL_nil : fxL [] = some [] := rfl
@[simp] theorem fxL_v (d : DV) (rs : List R) : fxL (.val d :: rs) = (fxL rs).map (d :: ·) := by
  rw [fxL, R.fx_val]
  cases fxL rs <;> rfl
@[simp] theorem arL_nil : arL [] = some [] := rfl
@[simp] theorem arL_v (d : D) (rs : List R) : arL (.val (.sh d) :: rs) = (arL rs).map (.sh d :: ·) := by
  rw [arL, ar_sh]
  cases arL rs <;> rfl
@[simp] theorem arL_t (n : Nat) (rs : List R) : arL (.val (.tok n) :: rs) = (arL rs).map (.tok n :: ·) := by
  rw [arL, ar_tok]
  cases arL rs <;> rfl
@[simp] theorem arL_o (ds : List D) (rs : List R) : arL (.val (.own (ds.map DV.sh)) :: rs) = (arL rs).map (.sh (.list ds) :: ·) := by
  have : (R.val (.own (ds.map DV.sh))).ar = some (.sh (.list ds)) := by
    show (R.fd _).map DV.sh = _
    rw [fd_own]; rfl
  rw [arL, this]
  cases arL rs <;> rfl
@[simp] theorem arL_k (ds : List D) (rs : List R) : arL (.val (.kt ds) :: rs) = (arL rs).map (.sh (.tuple ds) :: ·) := by
  have : (R.val (.kt ds)).ar = some (.sh (.tuple ds)) := by
    show (R.fd (.val (.kt ds))).map DV.sh = _
    rw [fd_kt]; rfl
  rw [arL, this]
  cases arL rs <;> rfl
end
/-! ### statements -/
section
variable {δ : DE} {E : DEnds}
@[simp] theorem dSeq2_e (t u : DS) : dSeq2 t u E δ = t { E with nx := u E } δ := rfl
@[simp] theorem dNext_e : dNext E δ = E.nx δ := rfl
@[simp] theorem dBrk_e : dBrk E δ = E.bk δ := rfl
@[simp] theorem dNever_e : dNever E δ = False := rfl
@[simp] theorem dIfS_e (c : DB) (t u : DS) : dIfS c t u E δ = c δ fun k => if k = true then t E δ else u E δ := rfl
@[simp] theorem dSet_e (i : Nat) (te : DT) : dSet i te E δ = te δ fun r => match r.fx with
  | some dv => i < δ.length ∧ E.nx (δ.set i (some dv))
  | none => False := rfl
@[simp] theorem dRet_e (te : DT) : dRet te E δ = te δ fun r => match r.fx with
  | some dv => E.rt dv
  | none => False := rfl
@[simp] theorem dRetV_e (i : Nat) : dRetV i E δ = match δ[i]? with
  | some (some dv) => E.rt dv
  | _ => False := rfl
@[simp] theorem dExpr_e (te : DT) : dExpr te E δ = te δ fun _ => E.nx δ := rfl
@[simp] theorem dPar_e (i j : Nat) (t : DL') : dPar i j t E δ = t δ fun rs => match fxL rs with
  | some [d1, d2] => i < δ.length ∧ j < δ.length ∧ E.nx ((δ.set i (some d1)).set j (some d2))
  | _ => False := rfl
@[simp] theorem dUnp_e (is : List Nat) (t : DL') : dUnp is t E δ = t δ fun rs => match fxL rs with
  | some ds => is.length = ds.length ∧ (∀ i ∈ is, i < δ.length) ∧ E.nx (setD δ is ds)
  | none => False := rfl
@[simp] theorem dFrz_e (i : Nat) (t : DS) : dFrz i t E δ = match δ[i]? with
  | some (some dv) => (match dv.fz with
    | some d => t E (δ.set i (some (.sh d)))
    | none => False)
  | _ => False := rfl
@[simp] theorem dFor_e (it : DI) (pat : DP) (body : DS) : dFor it pat body E δ = it δ fun ds => forRun pat body E ds δ := rfl
@[simp] theorem forRun_nil (pat : DP) (body : DS) : forRun pat body E [] δ = E.nx δ := rfl
@[simp] theorem forRun_cons (pat : DP) (body : DS) (d : D) (ds : List D) : forRun pat body E (d :: ds) δ = pat d δ fun δ' => body { nx := forRun pat body E ds, rt := E.rt, bk := E.nx, ct := forRun pat body E ds } δ' := rfl
@[simp] theorem dRange1_e {Q : List D → Prop} (t : DT) : dRange1 t δ Q = t δ fun x => onI x fun j => small j ∧ Q (rangeD 0 j) := rfl
@[simp] theorem dRange2_e {Q : List D → Prop} (ta tb : DT) : dRange2 ta tb δ Q = ta δ fun x => onI x fun i => tb δ fun y => onI y fun j => small i ∧ small j ∧ Q (rangeD i j) := rfl
@[simp] theorem dSeq_e {Q : List D → Prop} (t : DT) : dSeq t δ Q = t δ fun r => match r.fd with
  | some d => (match seqOf d with
    | some ds => ds.length ≤ sizeLine → Q ds
    | none => False)
  | none => False := rfl
@[simp] theorem dSeqQ_e {Q : List D → Prop} (t : DT) : dSeqQ t δ Q = t δ fun r => match r.sup with
  | some d => (match seqOf d with
    | some ds => ds.length ≤ sizeLine → Q ds
    | none => False)
  | none => False := rfl
@[simp] theorem seqOf_t (ds : List D) : seqOf (.tuple ds) = some ds := rfl
@[simp] theorem seqOf_l (ds : List D) : seqOf (.list ds) = some ds := rfl
@[simp] theorem gN_e {Q : DE → Prop} (i : Nat) (d : D) : gN i d δ Q = (i < δ.length ∧ Q (δ.set i (some (.sh d)))) := rfl
@[simp] theorem gT_e {Q : DE → Prop} (n : Nat) (gs : List D → DE → (DE → Prop) → Prop) (ds : List D) : gT n gs (.tuple ds) δ Q = (ds.length = n ∧ gs ds δ Q) := rfl
@[simp] theorem gsNil_e {Q : DE → Prop} : gsNil [] δ Q = Q δ := rfl
@[simp] theorem gsCons_e {Q : DE → Prop} (g : DP) (gs : List D → DE → (DE → Prop) → Prop) (d : D) (r : List D) : gsCons g gs (d :: r) δ Q = g d δ fun δ' => gs r δ' Q := rfl
@[simp] theorem dLc_e {Q : R → Prop} (it : DI) (pat : DP) (tst : DB) (elt : DT) (vs : List Nat) : dLc it pat tst elt vs δ Q = it δ fun ds => lcRun pat tst elt (wipeD δ vs) ds [] fun acc => Q (.val (.own acc)) := rfl
@[simp] theorem dLc2_e {Q : R → Prop} (it : DI) (pat : DP) (tst : DB) (it1 : DI) (pat1 : DP) (tst1 : DB) (elt : DT) (vs vs1 : List Nat) : dLc2 it pat tst it1 pat1 tst1 elt vs vs1 δ Q = it δ fun ds => lcRun2 pat tst it1 pat1 tst1 elt vs1 (wipeD δ vs) ds [] fun acc => Q (.val (.own acc)) := rfl
@[simp] theorem wipeD_nil : wipeD δ [] = δ := rfl
@[simp] theorem wipeD_cons (v : Nat) (vs : List Nat) : wipeD δ (v :: vs) = (wipeD δ vs).set v none := rfl
@[simp] theorem setD_nil (ds : List DV) : setD δ [] ds = δ := by cases ds <;> rfl
@[simp] theorem setD_cons (i : Nat) (is : List Nat) (v : DV) (vs : List DV) : setD δ (i :: is) (v :: vs) = setD (δ.set i (some v)) is vs := rfl
theorem small_nat {n : Nat} (h : n ≤ 1000000) : small (n : Int) := by unfold small; omega
theorem rangeD_nat (n : Nat) : rangeD 0 (n : Int) = (List.range n).map fun i : Nat => PyData.int i := by
  unfold rangeD
  simp
/-- the turns of a comprehension, each item's outcome known (or drawn) -/
theorem lcRun_rel {α : Type} {pat : DP} {tst : DB} {elt : DT} {Q : List DV → Prop} (f : α → D) (R : α → Option DV → Prop) : ∀ (xs : List α) (acc : List DV), acc.length + xs.length ≤ sizeLine →
    (∀ x ∈ xs, ∀ P : Option DV → Prop, (∀ o, R x o → P o) → pat (f x) δ fun δ' => tst δ' fun k => if k = true then elt δ' fun r => (match r.fx with | some dv => P (some dv) | none => False) else P none) →
    (∀ os : List (Option DV), Paired R xs os → Q (acc ++ os.filterMap id)) → lcRun pat tst elt δ (xs.map f) acc Q
  | [], acc, _, _, h => by
    have := h [] .nil
    simpa [lcRun] using this
  | x :: xs, acc, hz, st, h => by
    rw [List.length_cons] at hz
    refine st x List.mem_cons_self (fun o => match o with
      | some dv => acc.length < sizeLine ∧ lcRun pat tst elt δ (xs.map f) (acc ++ [dv]) Q
      | none => lcRun pat tst elt δ (xs.map f) acc Q) (fun o ro => ?_)
    cases o with
    | some dv =>
      refine ⟨by omega, lcRun_rel f R xs (acc ++ [dv]) (by rw [List.length_append, List.length_singleton]; omega) (fun y m => st y (List.mem_cons_of_mem _ m)) fun os p => ?_⟩
      have := h (some dv :: os) (.cons ro p)
      simpa using this
    | none =>
      refine lcRun_rel f R xs acc (by omega) (fun y m => st y (List.mem_cons_of_mem _ m)) fun os p => ?_
      have := h (none :: os) (.cons ro p)
      simpa using this
theorem lcRun_fn {α : Type} {pat : DP} {tst : DB} {elt : DT} {Q : List DV → Prop} (f : α → D) (g : α → Option DV) (xs : List α) (acc : List DV) (hz : acc.length + xs.length ≤ sizeLine)
    (st : ∀ x ∈ xs, ∀ P : Option DV → Prop, P (g x) → pat (f x) δ fun δ' => tst δ' fun k => if k = true then elt δ' fun r => (match r.fx with | some dv => P (some dv) | none => False) else P none)
    (h : Q (acc ++ xs.filterMap g)) : lcRun pat tst elt δ (xs.map f) acc Q := by
  refine lcRun_rel f (fun x o => o = g x) xs acc hz (fun x m P hP => st x m P (hP _ rfl)) fun os p => ?_
  have : os.filterMap id = xs.filterMap g := by
    clear st h hz
    induction p with
    | nil => rfl
    | cons r t ih =>
      subst r
      rw [List.filterMap_cons, List.filterMap_cons, ih]
      rfl
  rw [this]; exact h
/-- .. each item kept -/
theorem lcRun_map {α : Type} {pat : DP} {elt : DT} {Q : List DV → Prop} (f : α → D) (g : α → DV) (xs : List α) (hz : xs.length ≤ sizeLine)
    (st : ∀ x ∈ xs, ∀ P : DV → Prop, P (g x) → pat (f x) δ fun δ' => elt δ' fun r => (match r.fx with | some dv => P dv | none => False))
    (h : Q (xs.map g)) : lcRun pat dYes elt δ (xs.map f) [] Q := by
  refine lcRun_fn f (fun x => some (g x)) xs [] (by simpa using hz) (fun x m P hP => ?_) (by simpa using h)
  exact st x m (fun dv => P (some dv)) hP
/-- the list in a slot -/
def onO (o : Option (Option DV)) (k : List DV → Prop) : Prop := match o with
  | some (some (.own es)) => k es
  | _ => False
@[simp] theorem onOwn_e (i : Nat) (k : List DV → Prop) : onOwn δ i k = onO δ[i]? k := rfl
@[simp] theorem onO_e (es : List DV) (k : List DV → Prop) : onO (some (some (.own es))) k = k es := rfl
@[simp] theorem dAppend_e (i : Nat) (te : DT) : dAppend i te E δ = onOwn δ i fun es => es.length < sizeLine ∧ te δ fun r => match r.fx with
  | some dv => E.nx (δ.set i (some (.own (es ++ [dv]))))
  | none => False := rfl
@[simp] theorem dExtend_e (i : Nat) (te : DT) : dExtend i te E δ = onOwn δ i fun es => te δ fun r => match r with
  | .val (.own zs) => es.length + zs.length ≤ sizeLine ∧ E.nx (δ.set i (some (.own (es ++ zs))))
  | r => (match r.sup with
    | some (.list ds) => es.length + ds.length ≤ sizeLine ∧ E.nx (δ.set i (some (.own (es ++ ds.map DV.sh))))
    | _ => False) := rfl
@[simp] theorem dSetIx_e (i : Nat) (tx te : DT) : dSetIx i tx te E δ = te δ fun r => match r.fx with
  | some dv => onOwn δ i fun es => tx δ fun y => onI y fun n => match ixN es.length n with
    | some j => E.nx (δ.set i (some (.own (es.set j dv))))
    | none => False
  | none => False := rfl
@[simp] theorem dPop_e (i j : Nat) : dPop i j E δ = onOwn δ j fun es => lastSh es fun d => i < δ.length ∧ E.nx ((δ.set j (some (.own es.dropLast))).set i (some (.sh d))) := rfl
@[simp] theorem dAppPop_e (i j : Nat) (te : DT) : dAppPop i j te E δ = onOwn δ i fun fs => fs.length < sizeLine ∧ onOwn δ j fun es => te δ fun r => onI r fun n => (-(2 ^ 63) ≤ n ∧ n < 2 ^ 63) ∧ match seqIndex? n es.length with
  | some k => atSh es k fun d => E.nx ((δ.set j (some (.own (es.eraseIdx k)))).set i (some (.own (fs ++ [.sh d]))))
  | none => False := rfl
theorem set_own (ds : List D) (j : Nat) (d : D) : (ds.map DV.sh).set j (.sh d) = (ds.set j d).map DV.sh := by rw [List.map_set]
theorem app_own (ds : List D) (d : D) : ds.map DV.sh ++ [.sh d] = (ds ++ [d]).map DV.sh := by rw [List.map_append]; rfl
theorem app_owns (ds es : List D) : ds.map DV.sh ++ es.map DV.sh = (ds ++ es).map DV.sh := by rw [List.map_append]
@[simp] theorem ixN_n {n j : Nat} : ixN n (j : Int) = if j < n then some j else none := by
  unfold ixN
  rw [if_pos (by omega)]
  by_cases h : j < n
  · rw [if_pos h, if_pos (by omega)]; simp
  · rw [if_neg h, if_neg (by omega)]
@[simp] theorem dZip_e {Q : List D → Prop} (k : Bool) (t : DL') : dZip k t δ Q = t δ fun rs => match rs with
  | [x, y] => (match (if k then x.fd else x.sup), (if k then y.fd else y.sup) with
    | some (.tuple ds), some (.tuple es) => Q (zipD ds es)
    | some (.list ds), some (.list es) => Q (zipD ds es)
    | _, _ => False)
  | _ => False := rfl
@[simp] theorem dSlice_e {Q : R → Prop} (t : DT) (tl th : DO) : dSlice t tl th δ Q = t δ fun x => tl δ fun lo => th δ fun hi => fSl x lo hi Q := rfl
@[simp] theorem dPart_e {Q : Option Int → Prop} (t : DT) : dPart t δ Q = t δ fun r => onI r fun i => Q (some i) := rfl
@[simp] theorem dNoPart_e {Q : Option Int → Prop} : dNoPart δ Q = Q none := rfl
@[simp] theorem fSl_vt {Q : R → Prop} (ds : List D) (lo hi : Option Int) : fSl (.val (.sh (.tuple ds))) lo hi Q = Q (.val (.sh (.tuple (DL.cutD ds lo hi)))) := by unfold fSl; simp
@[simp] theorem fSl_vl {Q : R → Prop} (ds : List D) (lo hi : Option Int) : fSl (.val (.sh (.list ds))) lo hi Q = Q (.val (.own ((DL.cutD ds lo hi).map DV.sh))) := by unfold fSl; simp
@[simp] theorem dListRg1_e {Q : R → Prop} (t : DT) : dListRg1 t δ Q = t δ fun x => onI x fun n => RgOk 0 n ∧ Q (.val (.own ((rangeD 0 n).map DV.sh))) := rfl
@[simp] theorem dTupRg1_e {Q : R → Prop} (t : DT) : dTupRg1 t δ Q = t δ fun x => onI x fun n => RgOk 0 n ∧ Q (.val (.sh (.tuple (rangeD 0 n)))) := rfl
@[simp] theorem fII_e {Q : R → Prop} (g : Int → Int → Int) (i j : Int) : fII g [.val (.sh (.int i)), .val (.sh (.int j))] Q = Q (.val (.sh (.int (g i j)))) := rfl
@[simp] theorem fBits_e {Q : R → Prop} (i : Int) : fBits (.val (.sh (.int i))) Q = Q (.val (.sh (.int (Builtin.Int.intBits i : Nat)))) := rfl
@[simp] theorem fSorted_o {Q : R → Prop} (ds : List D) : fSorted (.val (.own (ds.map DV.sh))) Q = ((PySem.W.AllAlike ds ∧ PySem.W.Sortable ds ∧ ∀ d ∈ ds, d.depth ≤ 60) ∧ Q (.val (.own ((sortD ds).map DV.sh)))) := by unfold fSorted; simp
@[simp] theorem fSorted_t {Q : R → Prop} (ds : List D) : fSorted (.val (.sh (.tuple ds))) Q = ((PySem.W.AllAlike ds ∧ PySem.W.Sortable ds ∧ ∀ d ∈ ds, d.depth ≤ 60) ∧ Q (.val (.own ((sortD ds).map DV.sh)))) := by unfold fSorted; simp
@[simp] theorem fSorted_l {Q : R → Prop} (ds : List D) : fSorted (.val (.sh (.list ds))) Q = ((PySem.W.AllAlike ds ∧ PySem.W.Sortable ds ∧ ∀ d ∈ ds, d.depth ≤ 60) ∧ Q (.val (.own ((sortD ds).map DV.sh)))) := by unfold fSorted; simp
@[simp] theorem fRepr_v {Q : R → Prop} (d : D) : fRepr (.val (.sh d)) Q = (sShow d ∧ Q (.val (.sh (.str d.shown)))) := by unfold fRepr; simp
@[simp] theorem dSortDC_e {Q : R → Prop} (it : DI) (pat : DP) (tst : DB) (tk tv : DT) (vs : List Nat) : dSortDC it pat tst tk tv vs δ Q = it δ fun ds => dcRun pat tst tk tv (wipeD δ vs) ds [] fun acc =>
  (PySem.W.AllAlike (acc.map tupD) ∧ PySem.W.Sortable (acc.map tupD) ∧ acc.length ≤ sizeLine) ∧ Q (.val (.own ((sortD (acc.map tupD)).map DV.sh))) := rfl
@[simp] theorem dIndex_kt {Q : R → Prop} {i : Nat} {te : DT} {ns : List Int} (h : δ[i]? = some (some (.kt (ns.map PyData.int)))) : dIndex i te δ Q = te δ fun r => onI r fun n => n ∈ ns ∧ Q (.val (.sh (.int (ns.idxOf n : Nat)))) := by
  unfold dIndex
  rw [h]
  simp only [numsOf_map]
end
end DL
set_option Elab.async false
set_option linter.all false
set_option maxRecDepth 100000
set_option maxHeartbeats 1000000
namespace HL
open PySem PySem.Spec L2 DL
open PyProof.Rows hiding St
/-! ### a promise -/
/-- for all a that pre allows: from the arguments to what post allows -/
def pr {A : Type} (args : A → List DV) (pre : A → Prop) (post : A → DV → Prop) : Sg := fun ds Q => ∃ a, ds = args a ∧ pre a ∧ ∀ dv, post a dv → Q dv
theorem pr_mono {A : Type} {args : A → List DV} {pre : A → Prop} {post : A → DV → Prop} : MonoG (pr args pre post) := fun ds Q Q' m ⟨a, e, p, q⟩ => ⟨a, e, p, fun dv h => m _ (q dv h)⟩
theorem pr_len {A : Type} {args : A → List DV} {pre : A → Prop} {post : A → DV → Prop} {n : Nat} (h : ∀ a, (args a).length = n) (ds : List DV) (Q : DV → Prop) (q : pr args pre post ds Q) : ds.length = n := by
  obtain ⟨a, rfl, _⟩ := q
  exact h a
/-- a call of a promise with a known outcome -/
theorem pr_call {A : Type} {args : A → List DV} {pre : A → Prop} {post : A → DV → Prop} {ds : List DV} {Q : DV → Prop} (a : A) (e : ds = args a) (p : pre a) (q : ∀ dv, post a dv → Q dv) : pr args pre post ds Q := ⟨a, e, p, q⟩
/-! ### masks -/
theorem bor_nat (a b : Nat) : Builtin.bitOr (a : Int) (b : Int) = ((a ||| b : Nat) : Int) := by
  have h : ∀ n : Nat, ¬ (0 ≤ Builtin.bitNot (n : Int)) := fun n => by unfold Builtin.bitNot; omega
  have t : ∀ n : Nat, (Builtin.bitNot (Builtin.bitNot (n : Int))).toNat = n := fun n => by unfold Builtin.bitNot; omega
  unfold Builtin.bitOr
  rw [bitAnd_nn (h a) (h b), t, t]
  unfold Builtin.bitNot
  omega
theorem band_nat (a b : Nat) : Builtin.bitAnd (a : Int) (b : Int) = ((a &&& b : Nat) : Int) := by
  rw [bitAnd_pp (Int.natCast_nonneg a) (Int.natCast_nonneg b)]
  simp
theorem shr_nat (m a : Nat) : (m : Int) / 2 ^ (a : Int).toNat = ((m >>> a : Nat) : Int) := by
  rw [Nat.shiftRight_eq_div_pow]
  simp
/-- m >> a & 1 == 1 -/
theorem bit_is (m a : Nat) : decide (Builtin.bitAnd ((m : Int) / 2 ^ (a : Int).toNat) 1 = 1) = m.testBit a := by
  rw [shr_nat]
  have := band_nat (m >>> a) 1
  rw [show ((1 : Nat) : Int) = 1 from rfl] at this
  rw [this, Nat.testBit, Nat.and_comm]
  have h : 1 &&& (m >>> a) = 0 ∨ 1 &&& (m >>> a) = 1 := by
    rw [Nat.and_comm, Nat.and_one_is_mod]
    omega
  rcases h with h | h <;> rw [h] <;> simp
theorem testBit_two (x i : Nat) : (2 ^ x : Nat).testBit i = decide (x = i) := Nat.testBit_two_pow
/-! ### pairs, books, hills -/
abbrev Pr := Nat × Nat
def prD (p : Pr) : D := .tuple [.int p.1, .int p.2]
def bookD (n : Nat) (ps : List Pr) : D := .tuple [.int n, .tuple (ps.map prD)]
def lotD (xs : List Nat) : D := .tuple (xs.map fun x : Nat => .int x)
def natsD (f : Nat → Nat) (n : Nat) : List D := (List.range n).map fun x => .int (f x : Nat)
def plt (p q : Pr) : Prop := p.1 < q.1 ∨ (p.1 = q.1 ∧ p.2 < q.2)
instance (p q : Pr) : Decidable (plt p q) := by unfold plt; infer_instance
theorem plt_irrefl (p : Pr) : ¬ plt p p := by unfold plt; omega
theorem plt_trans {p q r : Pr} (h : plt p q) (h' : plt q r) : plt p r := by unfold plt at *; omega
theorem plt_total (p q : Pr) (h : p ≠ q) : plt p q ∨ plt q p := by
  unfold plt
  have : p.1 ≠ q.1 ∨ p.2 ≠ q.2 := by
    rcases Nat.decEq p.1 q.1 with e | e
    · exact .inl e
    · refine .inr fun e2 => h (Prod.ext e e2)
  omega
/-- a row in strict order is told by its members -/
theorem strict_ext {α : Type} {lt : α → α → Prop} (ir : ∀ a, ¬ lt a a) (tr : ∀ {a b c}, lt a b → lt b c → lt a c) : ∀ {l m : List α}, l.Pairwise lt → m.Pairwise lt → (∀ x, x ∈ l ↔ x ∈ m) → l = m
  | [], [], _, _, _ => rfl
  | [], b :: m, _, _, h => by have := (h b).mpr List.mem_cons_self; cases this
  | a :: l, [], _, _, h => by have := (h a).mp List.mem_cons_self; cases this
  | a :: l, b :: m, hl, hm, h => by
    have hl' := List.pairwise_cons.mp hl
    have hm' := List.pairwise_cons.mp hm
    have e : a = b := by
      rcases List.mem_cons.mp ((h a).mp List.mem_cons_self) with e | ha
      · exact e
      · rcases List.mem_cons.mp ((h b).mpr List.mem_cons_self) with e | hb
        · exact e.symm
        · exact absurd (tr (hl'.1 b hb) (hm'.1 a ha)) (ir a)
    subst e
    congr 1
    refine strict_ext ir tr hl'.2 hm'.2 fun x => ⟨fun hx => ?_, fun hx => ?_⟩
    · rcases List.mem_cons.mp ((h x).mp (List.mem_cons_of_mem _ hx)) with e | q
      · subst e; exact absurd (hl'.1 x hx) (ir x)
      · exact q
    · rcases List.mem_cons.mp ((h x).mpr (List.mem_cons_of_mem _ hx)) with e | q
      · subst e; exact absurd (hm'.1 x hx) (ir x)
      · exact q
/-- the pairs of n names that r tells, in order -/
def prs (n : Nat) (r : Nat → Nat → Bool) : List Pr := (List.range n).flatMap fun a => ((List.range n).filter fun b => decide (a ≠ b) && r a b).map fun b => (a, b)
theorem mem_prs {n : Nat} {r : Nat → Nat → Bool} {p : Pr} : p ∈ prs n r ↔ p.1 < n ∧ p.2 < n ∧ p.1 ≠ p.2 ∧ r p.1 p.2 = true := by
  obtain ⟨a, b⟩ := p
  unfold prs
  simp only [List.mem_flatMap, List.mem_map, List.mem_filter, List.mem_range, Bool.and_eq_true, decide_eq_true_eq, Prod.mk.injEq]
  constructor
  · rintro ⟨a', ha, b', ⟨hb, hn, hr⟩, rfl, rfl⟩
    exact ⟨ha, hb, hn, hr⟩
  · rintro ⟨ha, hb, hn, hr⟩
    exact ⟨a, ha, b, ⟨hb, hn, hr⟩, rfl, rfl⟩
theorem range_sorted (n : Nat) : (List.range n).Pairwise (· < ·) := List.pairwise_lt_range
theorem sorted_prs (n : Nat) (r : Nat → Nat → Bool) : (prs n r).Pairwise plt := by
  unfold prs
  rw [List.pairwise_flatMap]
  refine ⟨fun a _ => ?_, ?_⟩
  · rw [List.pairwise_map]
    exact ((range_sorted n).filter _).imp fun h => .inr ⟨rfl, h⟩
  · refine (range_sorted n).imp fun {a a'} h p hp q hq => ?_
    obtain ⟨b, _, rfl⟩ := List.mem_map.mp hp
    obtain ⟨b', _, rfl⟩ := List.mem_map.mp hq
    exact .inl h
theorem prs_ext {n : Nat} {r : Nat → Nat → Bool} {ps : List Pr} (h : ps.Pairwise plt) (m : ∀ p, p ∈ ps ↔ p ∈ prs n r) : ps = prs n r := strict_ext plt_irrefl plt_trans h (sorted_prs n r) m
theorem prs_congr {n : Nat} {r s : Nat → Nat → Bool} (h : ∀ a b, a < n → b < n → a ≠ b → r a b = s a b) : prs n r = prs n s :=
  prs_ext (sorted_prs n r) fun p => by
    rw [mem_prs, mem_prs]
    constructor
    · rintro ⟨h1, h2, h3, h4⟩; exact ⟨h1, h2, h3, h _ _ h1 h2 h3 ▸ h4⟩
    · rintro ⟨h1, h2, h3, h4⟩; exact ⟨h1, h2, h3, (h _ _ h1 h2 h3).symm ▸ h4⟩
/-- a book -/
structure Good (n : Nat) (ps : List Pr) : Prop where
  lo : 1 ≤ n
  hi : n ≤ 10
  ok : ∀ p ∈ ps, p.1 < n ∧ p.2 < n ∧ p.1 ≠ p.2
  st : ps.Pairwise plt
theorem good_prs {n : Nat} {r : Nat → Nat → Bool} (lo : 1 ≤ n) (hi : n ≤ 10) : Good n (prs n r) := ⟨lo, hi, fun p m => by
  obtain ⟨h1, h2, h3, _⟩ := mem_prs.mp m
  exact ⟨h1, h2, h3⟩, sorted_prs n r⟩
/-- a hill: a book that is its own closing -/
structure Hill (n : Nat) (ps : List Pr) : Prop where
  good : Good n ps
  tr : ∀ a b c, (a, b) ∈ ps → (b, c) ∈ ps → a ≠ c → (a, c) ∈ ps
/-- there is a row of pairs from a to b -/
inductive Rch (ps : List Pr) (a : Nat) : Nat → Prop
  | refl : Rch ps a a
  | step {b c : Nat} : Rch ps a b → (b, c) ∈ ps → Rch ps a c
theorem Rch.trans {ps : List Pr} {a b c : Nat} (h : Rch ps a b) (h' : Rch ps b c) : Rch ps a c := by
  induction h' with
  | refl => exact h
  | step _ m ih => exact .step ih m
theorem Rch.mono {ps qs : List Pr} (k : ∀ p, p ∈ ps → p ∈ qs) {a b : Nat} (h : Rch ps a b) : Rch qs a b := by
  induction h with
  | refl => exact .refl
  | step _ m ih => exact .step ih (k _ m)
open Classical in
noncomputable def reach (ps : List Pr) (a b : Nat) : Bool := decide (Rch ps a b)
open Classical in
theorem reach_iff {ps : List Pr} {a b : Nat} : reach ps a b = true ↔ Rch ps a b := by unfold reach; exact decide_eq_true_iff
/-- the closing -/
noncomputable def clo (n : Nat) (ps : List Pr) : List Pr := prs n (reach ps)
theorem Hill.rch {n : Nat} {ps : List Pr} (h : Hill n ps) {a b : Nat} (r : Rch ps a b) (ne : a ≠ b) : (a, b) ∈ ps := by
  induction r with
  | refl => exact absurd rfl ne
  | @step b c r m ih =>
    by_cases e : a = b
    · rw [e]; exact m
    · exact h.tr a b c (ih e) m ne
theorem hill_clo {n : Nat} {ps : List Pr} (lo : 1 ≤ n) (hi : n ≤ 10) : Hill n (clo n ps) := ⟨good_prs lo hi, fun a b c h1 h2 ne => by
  obtain ⟨x1, x2, x3, x4⟩ := mem_prs.mp h1
  obtain ⟨y1, y2, y3, y4⟩ := mem_prs.mp h2
  exact mem_prs.mpr ⟨x1, y2, ne, reach_iff.mpr ((reach_iff.mp x4).trans (reach_iff.mp y4))⟩⟩
theorem Hill.clo {n : Nat} {ps : List Pr} (h : Hill n ps) : HL.clo n ps = ps := by
  refine (prs_ext h.good.st fun p => ?_).symm
  rw [mem_prs]
  constructor
  · intro m
    obtain ⟨h1, h2, h3⟩ := h.good.ok p m
    exact ⟨h1, h2, h3, reach_iff.mpr (.step .refl m)⟩
  · rintro ⟨_, _, ne, r⟩
    exact h.rch (reach_iff.mp r) ne
theorem noLst_prD (p : Pr) : noLst (prD p) = true := by unfold prD; simp
theorem noLsts_prs (ps : List Pr) : noLsts (ps.map prD) = true := noLsts_all fun d m => by
  obtain ⟨p, _, rfl⟩ := List.mem_map.mp m
  exact noLst_prD p
end HL
set_option Elab.async false
set_option linter.all false
set_option maxRecDepth 100000
set_option maxHeartbeats 1000000
namespace HL
open PySem PySem.Spec L2 DL
open PyProof.Rows hiding St
/-! ### rows of masks -/
def upN (f : Nat → Nat) (j v : Nat) : Nat → Nat := fun x => if x = j then v else f x
theorem natsD_len (f : Nat → Nat) (n : Nat) : (natsD f n).length = n := by unfold natsD; simp
theorem natsD_get {f : Nat → Nat} {n b : Nat} (h : b < n) : (natsD f n)[b]? = some (.int (f b : Nat)) := by unfold natsD; simp [h]
theorem natsD_at {f : Nat → Nat} {n b : Nat} (h : b < n) : atI (natsD f n) (b : Int) = some (.int (f b : Nat)) := atI_nat (natsD_get h)
theorem natsD_set {f : Nat → Nat} {n b v : Nat} (h : b < n) : (natsD f n).set b (.int (v : Nat)) = natsD (upN f b v) n := by
  unfold natsD upN
  refine List.ext_getElem (by simp) fun i h1 h2 => ?_
  simp only [List.length_map, List.length_range] at h2
  rw [List.getElem_set]
  by_cases e : b = i
  · subst e; simp
  · rw [if_neg e]
    simp [Ne.symm e]
theorem natsD_own {f : Nat → Nat} {n b v : Nat} (h : b < n) : ((natsD f n).map DV.sh).set b (.sh (.int (v : Nat))) = (natsD (upN f b v) n).map DV.sh := by rw [set_own, natsD_set h]
theorem book_len {n : Nat} {ps : List Pr} (G : Good n ps) : ps.length ≤ 100 := by
  have key : ∀ (m : Nat) (ps : List Pr), ps.Pairwise plt → (∀ p ∈ ps, p.1 * 10 + p.2 < m ∧ p.2 < 10) → ps.length ≤ m := by
    intro m
    induction m with
    | zero =>
      intro ps _ h
      cases ps with
      | nil => simp
      | cons p _ => have := (h p List.mem_cons_self).1; omega
    | succ m ih =>
      intro ps st h
      have st' : (ps.filter fun p => decide (p.1 * 10 + p.2 < m)).Pairwise plt := st.filter _
      have l1 := ih _ st' (fun p hp => by
        have := List.mem_filter.mp hp
        exact ⟨by simpa using this.2, (h p this.1).2⟩)
      have l2 : (ps.filter fun p => !decide (p.1 * 10 + p.2 < m)).length ≤ 1 := by
        have st2 : (ps.filter fun p => !decide (p.1 * 10 + p.2 < m)).Pairwise plt := st.filter _
        cases e : ps.filter fun p => !decide (p.1 * 10 + p.2 < m) with
        | nil => simp
        | cons p r =>
          cases r with
          | nil => simp
          | cons q r =>
            rw [e] at st2
            have hp : p ∈ ps.filter fun p => !decide (p.1 * 10 + p.2 < m) := by rw [e]; simp
            have hq : q ∈ ps.filter fun p => !decide (p.1 * 10 + p.2 < m) := by rw [e]; simp
            have a1 := List.mem_filter.mp hp
            have a2 := List.mem_filter.mp hq
            have b1 := h p a1.1
            have b2 := h q a2.1
            have c := (List.pairwise_cons.mp st2).1 q (by simp)
            simp at a1 a2
            unfold plt at c
            omega
      have l3 : ps.length = (ps.filter fun p => decide (p.1 * 10 + p.2 < m)).length + (ps.filter fun p => !decide (p.1 * 10 + p.2 < m)).length := by
        clear ih st st' l1 l2 h
        induction ps with
        | nil => rfl
        | cons p ps ih =>
          rw [List.filter_cons, List.filter_cons, List.length_cons]
          by_cases z : p.1 * 10 + p.2 < m
          · simp [z] at ih ⊢; omega
          · simp [z] at ih ⊢; omega
      omega
  have h := G.ok
  have := G.hi
  exact key 100 ps G.st fun p hp => by have := h p hp; omega
theorem pow_cast (x : Nat) : (2 : Int) ^ x = ((2 ^ x : Nat) : Int) := by simp
theorem small_n {n : Nat} (h : n ≤ 1000) : small (n : Int) := small_nat (by omega)
def g_lows : Sg := pr (fun x : Nat × List Pr => [.sh (bookD x.1 x.2)]) (fun x => Good x.1 x.2) (fun x dv => ∃ f : Nat → Nat, dv = ownL (natsD f x.1) ∧ ∀ b a, b < x.1 → ((f b).testBit a = true ↔ a = b ∨ (a, b) ∈ x.2))
def n_lows : List Str := ["hill", "found", "a", "b", "x"]
def t_lows : DS := dSeq2 (dSet 1 (dLc (dRange1 (dOpR fIx (dVar 0) (dC (.int 0)))) (gN 4) (dYes) (dOp fShl (dC (.int 1)) (dVar 4)) [4])) (dSeq2 (dFor (dSeq (dOpR fIx (dVar 0) (dC (.int 1)))) (gT 2 (gsCons (gN 2) (gsCons (gN 3) (gsNil)))) (dSetIx 1 (dVar 3) (dOp fOr (dOpR fIx (dVar 1) (dVar 3)) (dOp fShl (dC (.int 1)) (dVar 2))))) (dRetV 1))
theorem p_lows (ds : List DV) (Q : DV → Prop) (h : g_lows ds Q) : t_lows { nx := fun _ => Q (.sh .none), rt := Q } (startD n_lows ds) := by
  obtain ⟨⟨n, ps⟩, rfl, G, q⟩ := h
  have hi : n ≤ 10 := G.hi
  simp [t_lows, startD, n_lows, bookD]
  refine ⟨small_n (by omega), ?_⟩
  rw [rangeD_nat]
  refine lcRun_map (fun i : Nat => PyData.int i) (fun x => .sh (.int ((2 ^ x : Nat)))) _ (by rw [List.length_range]; exact Nat.le_trans hi (by decide)) (fun x m P hP => ?_) fun _ => ?_
  · simp at m
    simp
    refine ⟨by omega, ?_⟩
    simpa using hP
  · have e : (List.range n).map (fun x => DV.sh (.int ((2 ^ x : Nat)))) = (natsD (fun x => 2 ^ x) n).map DV.sh := by unfold natsD; rw [List.map_map]; rfl
    rw [e]
    have key : ∀ (rs qs : List Pr) (f : Nat → Nat) (x y : Option DV), ps = qs ++ rs → (∀ b a, b < n → ((f b).testBit a = true ↔ a = b ∨ (a, b) ∈ qs)) →
        forRun (gT 2 (gsCons (gN 2) (gsCons (gN 3) gsNil))) (dSetIx 1 (dVar 3) (dOp fOr (dOpR fIx (dVar 1) (dVar 3)) (dOp fShl (dC (PyData.int 1)) (dVar 2)))) { nx := dRetV 1 { nx := fun x => Q (DV.sh PyData.none), rt := Q }, rt := Q } (List.map prD rs)
          [some (DV.sh (PyData.tuple [PyData.int ↑n, PyData.tuple (List.map prD ps)])), some (DV.own ((natsD f n).map DV.sh)), x, y, none] := by
      intro rs
      induction rs with
      | nil =>
        intro qs f x y e hf
        rw [List.append_nil] at e
        subst e
        simp
        exact q _ ⟨f, rfl, hf⟩
      | cons p rs ih =>
        intro qs f x y e hf
        have hp := G.ok p (by rw [e]; simp)
        simp at hp
        have hi' := hi
        simp [prD, natsD_at hp.2.1, natsD_len, hp.2.1]
        refine ⟨by omega, ?_⟩
        rw [pow_cast, bor_nat, natsD_own hp.2.1]
        refine ih (qs ++ [p]) _ _ _ (by simp [e]) fun b a hb => ?_
        obtain ⟨p1, p2⟩ := p
        by_cases eb : b = p2
        · subst eb
          simp only [if_pos, upN]
          rw [Nat.testBit_or, Bool.or_eq_true, hf b a hb, testBit_two]
          simp
          constructor
          · rintro ((h | h) | h)
            · exact .inl h
            · exact .inr (.inl h)
            · exact .inr (.inr h.symm)
          · rintro (h | h | h)
            · exact .inl (.inl h)
            · exact .inl (.inr h)
            · exact .inr h.symm
        · simp only [upN, if_neg eb]
          rw [hf b a hb]
          simp [eb]
    exact key ps [] _ _ _ rfl fun b a hb => by simp [Nat.testBit_two_pow]; exact ⟨fun h => h.symm, fun h => h.symm⟩
def g_highs : Sg := pr (fun x : Nat × List Pr => [.sh (bookD x.1 x.2)]) (fun x => Good x.1 x.2) (fun x dv => ∃ f : Nat → Nat, dv = ownL (natsD f x.1) ∧ ∀ b a, b < x.1 → ((f b).testBit a = true ↔ a = b ∨ (b, a) ∈ x.2))
def n_highs : List Str := ["hill", "found", "a", "b", "x"]
def t_highs : DS := dSeq2 (dSet 1 (dLc (dRange1 (dOpR fIx (dVar 0) (dC (.int 0)))) (gN 4) (dYes) (dOp fShl (dC (.int 1)) (dVar 4)) [4])) (dSeq2 (dFor (dSeq (dOpR fIx (dVar 0) (dC (.int 1)))) (gT 2 (gsCons (gN 2) (gsCons (gN 3) (gsNil)))) (dSetIx 1 (dVar 2) (dOp fOr (dOpR fIx (dVar 1) (dVar 2)) (dOp fShl (dC (.int 1)) (dVar 3))))) (dRetV 1))
theorem p_highs (ds : List DV) (Q : DV → Prop) (h : g_highs ds Q) : t_highs { nx := fun _ => Q (.sh .none), rt := Q } (startD n_highs ds) := by
  obtain ⟨⟨n, ps⟩, rfl, G, q⟩ := h
  have hi : n ≤ 10 := G.hi
  simp [t_highs, startD, n_highs, bookD]
  refine ⟨small_n (by omega), ?_⟩
  rw [rangeD_nat]
  refine lcRun_map (fun i : Nat => PyData.int i) (fun x => .sh (.int ((2 ^ x : Nat)))) _ (by rw [List.length_range]; exact Nat.le_trans hi (by decide)) (fun x m P hP => ?_) fun _ => ?_
  · simp at m
    simp
    refine ⟨by omega, ?_⟩
    simpa using hP
  · have e : (List.range n).map (fun x => DV.sh (.int ((2 ^ x : Nat)))) = (natsD (fun x => 2 ^ x) n).map DV.sh := by unfold natsD; rw [List.map_map]; rfl
    rw [e]
    have key : ∀ (rs qs : List Pr) (f : Nat → Nat) (x y : Option DV), ps = qs ++ rs → (∀ b a, b < n → ((f b).testBit a = true ↔ a = b ∨ (b, a) ∈ qs)) →
        forRun (gT 2 (gsCons (gN 2) (gsCons (gN 3) gsNil))) (dSetIx 1 (dVar 2) (dOp fOr (dOpR fIx (dVar 1) (dVar 2)) (dOp fShl (dC (PyData.int 1)) (dVar 3)))) { nx := dRetV 1 { nx := fun x => Q (DV.sh PyData.none), rt := Q }, rt := Q } (List.map prD rs)
          [some (DV.sh (PyData.tuple [PyData.int ↑n, PyData.tuple (List.map prD ps)])), some (DV.own ((natsD f n).map DV.sh)), x, y, none] := by
      intro rs
      induction rs with
      | nil =>
        intro qs f x y e hf
        rw [List.append_nil] at e
        subst e
        simp
        exact q _ ⟨f, rfl, hf⟩
      | cons p rs ih =>
        intro qs f x y e hf
        have hp := G.ok p (by rw [e]; simp)
        simp at hp
        have hi' := hi
        simp [prD, natsD_at hp.1, natsD_len, hp.1]
        refine ⟨by omega, ?_⟩
        rw [pow_cast, bor_nat, natsD_own hp.1]
        refine ih (qs ++ [p]) _ _ _ (by simp [e]) fun b a hb => ?_
        obtain ⟨p1, p2⟩ := p
        by_cases eb : b = p1
        · subst eb
          simp only [if_pos, upN]
          rw [Nat.testBit_or, Bool.or_eq_true, hf b a hb, testBit_two]
          simp
          constructor
          · rintro ((h | h) | h)
            · exact .inl h
            · exact .inr (.inl h)
            · exact .inr (.inr h.symm)
          · rintro (h | h | h)
            · exact .inl (.inl h)
            · exact .inl (.inr h)
            · exact .inr h.symm
        · simp only [upN, if_neg eb]
          rw [hf b a hb]
          simp [eb]
    exact key ps [] _ _ _ rfl fun b a hb => by simp [Nat.testBit_two_pow]; exact ⟨fun h => h.symm, fun h => h.symm⟩
/-- a loop, by an invariant: N is what is left to do -/
theorem forRun_ix {α : Type} {pat : DP} {body : DS} {E : DEnds} (f : α → D) (xs : List α) (I : Nat → DE → Prop) (step : ∀ i x δ, xs[i]? = some x → I i δ → ∀ N : DE → Prop, (∀ δ', I (i + 1) δ' → N δ') → pat (f x) δ fun δ' => body { nx := N, rt := E.rt, bk := E.nx, ct := N } δ')
    (fin : ∀ δ, I xs.length δ → E.nx δ) {δ : DE} (h : I 0 δ) : forRun pat body E (xs.map f) δ := by
  have key : ∀ (k i : Nat) (δ : DE), xs.length - i = k → i ≤ xs.length → I i δ → forRun pat body E ((xs.drop i).map f) δ := by
    intro k
    induction k with
    | zero =>
      intro i δ e hi h
      have : i = xs.length := by omega
      subst this
      rw [List.drop_length]
      exact fin δ h
    | succ k ih =>
      intro i δ e hi h
      have hl : i < xs.length := by omega
      rw [List.drop_eq_getElem_cons hl, List.map_cons]
      exact step i xs[i] δ (List.getElem?_eq_getElem hl) h _ fun δ' h' => ih (i + 1) δ' (by omega) hl h'
  exact key _ 0 δ rfl (Nat.zero_le _) h
theorem forRun_nat {pat : DP} {body : DS} {E : DEnds} (n : Nat) (I : Nat → DE → Prop) (step : ∀ i δ, i < n → I i δ → ∀ N : DE → Prop, (∀ δ', I (i + 1) δ' → N δ') → pat (.int (i : Nat)) δ fun δ' => body { nx := N, rt := E.rt, bk := E.nx, ct := N } δ')
    (fin : ∀ δ, I n δ → E.nx δ) {δ : DE} (h : I 0 δ) : forRun pat body E ((List.range n).map fun i : Nat => PyData.int i) δ := by
  refine forRun_ix (fun i : Nat => PyData.int i) (List.range n) I (fun i x δ e hI N hN => ?_) (fun δ h => fin δ (by simpa using h)) h
  have hi := (List.getElem?_eq_some_iff.mp e).1
  rw [List.length_range] at hi
  rw [List.getElem?_range hi] at e
  cases e
  exact step i δ hi hI N hN
/-- a comprehension with two clauses, each item's outcome known -/
theorem lcRun2_fn {α β : Type} {pat pat1 : DP} {tst tst1 : DB} {it1 : DI} {elt : DT} {vs1 : List Nat} {δ : DE} {Q : List DV → Prop} (f : α → D) (ys : α → List β) (g : α → β → Option DV) : ∀ (xs : List α) (acc : List DV), acc.length + 1000 * xs.length ≤ 1000000 → (∀ x ∈ xs, (ys x).length ≤ 1000) →
    (∀ x ∈ xs, ∀ (acc : List DV) (P : List DV → Prop), acc.length + (ys x).length ≤ sizeLine → P (acc ++ (ys x).filterMap (g x)) → pat (f x) δ fun δ' => tst δ' fun k => if k = true then it1 δ' fun es => lcRun pat1 tst1 elt (wipeD δ' vs1) es acc P else P acc) →
    Q (acc ++ xs.flatMap fun x => (ys x).filterMap (g x)) → lcRun2 pat tst it1 pat1 tst1 elt vs1 δ (xs.map f) acc Q
  | [], acc, _, _, _, h => by simpa [lcRun2] using h
  | x :: xs, acc, hz, hy, st, h => by
    rw [List.length_cons] at hz
    have h1 := hy x List.mem_cons_self
    have h2 : 1000000 ≤ sizeLine := by decide
    refine st x List.mem_cons_self acc (fun acc' => lcRun2 pat tst it1 pat1 tst1 elt vs1 δ (xs.map f) acc' Q) (by omega) ?_
    refine lcRun2_fn f ys g xs _ ?_ (fun y m => hy y (List.mem_cons_of_mem _ m)) (fun y m => st y (List.mem_cons_of_mem _ m)) ?_
    · have := List.length_filterMap_le (g x) (ys x)
      rw [List.length_append]
      omega
    · simpa using h
def g_hill_of_lows : Sg := pr (fun x : Nat × (Nat → Nat) => [.sh (.list (natsD x.2 x.1))]) (fun x => x.1 ≤ 10) (fun x dv => dv = .sh (bookD x.1 (prs x.1 fun a b => (x.2 b).testBit a)))
def n_hill_of_lows : List Str := ["found", "n", "pairs", "a", "b"]
def t_hill_of_lows : DS := dSeq2 (dSet 1 (dCB (on1 fLen) (dCons (dVar 0) (dNil)))) (dSeq2 (dSet 2 (dLc2 (dRange1 (dVar 1)) (gN 3) (dYes) (dRange1 (dVar 1)) (gN 4) (dAnd (dTest (dOp (fRel sDep fun d e => !rEqv d e) (dVar 3) (dVar 4))) (dTest (dOp (fRel sDep rEqv) (dOp fAnd (dOp fShr (dOpR fIx (dVar 0) (dVar 4)) (dVar 3)) (dC (.int 1))) (dC (.int 1))))) (dTup (dCons (dVar 3) (dCons (dVar 4) (dNil)))) [3, 4] [4])) (dRet (dTup (dCons (dVar 1) (dCons (dCB (on1 fTuple) (dCons (dVar 2) (dNil))) (dNil))))))
theorem flatMap_eq {α β : Type} {f g : α → List β} : ∀ {l : List α}, (∀ a ∈ l, f a = g a) → l.flatMap f = l.flatMap g
  | [], _ => rfl
  | a :: l, h => by rw [List.flatMap_cons, List.flatMap_cons, h a List.mem_cons_self, flatMap_eq fun b m => h b (List.mem_cons_of_mem _ m)]
theorem filterMap_if {α β : Type} (p : α → Bool) (f : α → β) : ∀ l : List α, (l.filterMap fun x => if p x = true then some (f x) else none) = (l.filter p).map f
  | [] => rfl
  | x :: l => by
    rw [List.filterMap_cons, List.filter_cons, filterMap_if p f l]
    by_cases h : p x = true <;> simp [h]
theorem prs_flat (n : Nat) (r : Nat → Nat → Bool) : (List.range n).flatMap (fun a => (List.range n).filterMap fun b => if (decide (a ≠ b) && r a b) = true then some (DV.sh (prD (a, b))) else none) = ((prs n r).map prD).map DV.sh := by
  unfold prs
  rw [List.map_flatMap, List.map_flatMap]
  refine flatMap_eq fun a _ => ?_
  rw [filterMap_if (fun b => decide (a ≠ b) && r a b) (fun b => DV.sh (prD (a, b))), List.map_map, List.map_map]
  rfl
theorem bit_iff (m a : Nat) : Builtin.bitAnd ((m : Int) / 2 ^ a) 1 = 1 ↔ m.testBit a = true := by
  have := bit_is m a
  rw [show (a : Int).toNat = a by simp] at this
  rw [← this, decide_eq_true_iff]
theorem p_hill_of_lows (ds : List DV) (Q : DV → Prop) (h : g_hill_of_lows ds Q) : t_hill_of_lows { nx := fun _ => Q (.sh .none), rt := Q } (startD n_hill_of_lows ds) := by
  obtain ⟨⟨n, f⟩, rfl, hn, q⟩ := h
  simp at hn
  simp [t_hill_of_lows, startD, n_hill_of_lows, natsD_len]
  refine ⟨small_n (by omega), ?_⟩
  rw [rangeD_nat]
  refine lcRun2_fn (fun i : Nat => PyData.int i) (fun _ => List.range n) (fun a b => if (decide (a ≠ b) && (f b).testBit a) = true then some (DV.sh (prD (a, b))) else none) _ _ (by simp; omega) (fun x m => by simp; omega) (fun x m acc P hz hP => ?_) ?_
  · simp at m
    simp
    refine ⟨small_n (by omega), ?_⟩
    rw [rangeD_nat]
    refine lcRun_fn (fun i : Nat => PyData.int i) _ _ _ hz (fun y my P' hP' => ?_) hP
    simp at my
    simp [natsD_at my]
    by_cases e : x = y
    · subst e
      simp at hP' ⊢
      exact hP'
    · have e' : ¬ ((x : Int) = y) := by omega
      by_cases b : (f y).testBit x = true
      · simp [e, e', b, (bit_iff _ _).mpr b] at hP' ⊢
        exact hP'
      · have b' : ¬ Builtin.bitAnd ((f y : Int) / 2 ^ x) 1 = 1 := fun z => b ((bit_iff _ _).mp z)
        simp [e, e', b, b'] at hP' ⊢
        exact hP'
  · simp only [List.nil_append]
    rw [prs_flat n fun a b => (f b).testBit a, onV_own, fTuple_b (noLsts_prs _)]
    simp
    exact q _ rfl
/-! the closing's rows -/
def wStep (k : Nat) (f : Nat → Nat) (b : Nat) : Nat := if (f b).testBit k = true then f b ||| f k else f b
structure WInv (n : Nat) (ps : List Pr) (k : Nat) (f : Nat → Nat) : Prop where
  sound : ∀ b, b < n → ∀ a, (f b).testBit a = true → Rch ps a b
  base : ∀ b, b < n → ∀ a, a = b ∨ (a, b) ∈ ps → (f b).testBit a = true
  clos : ∀ j, j < k → ∀ b, b < n → ∀ a, (f j).testBit a = true → (f b).testBit j = true → (f b).testBit a = true
theorem wStep_bit (k : Nat) (f : Nat → Nat) (a b : Nat) : (wStep k f b).testBit a = true ↔ (f b).testBit a = true ∨ ((f k).testBit a = true ∧ (f b).testBit k = true) := by
  unfold wStep
  by_cases h : (f b).testBit k = true
  · rw [if_pos h, Nat.testBit_or, Bool.or_eq_true]
    simp [h]
  · rw [if_neg h]
    simp [h]
theorem WInv.step {n k : Nat} {ps : List Pr} {f : Nat → Nat} (w : WInv n ps k f) (hk : k < n) : WInv n ps (k + 1) (wStep k f) := by
  refine ⟨fun b hb a h => ?_, fun b hb a h => (wStep_bit k f a b).mpr (.inl (w.base b hb a h)), fun j hj b hb a h1 h2 => ?_⟩
  · rcases (wStep_bit k f a b).mp h with h | ⟨h1, h2⟩
    · exact w.sound b hb a h
    · exact (w.sound k hk a h1).trans (w.sound b hb k h2)
  · rw [wStep_bit] at h1 h2 ⊢
    rcases Nat.lt_or_ge j k with l | l
    · have cj := w.clos j l
      rcases h1 with h1 | ⟨h1, h1'⟩
      · rcases h2 with h2 | ⟨h2, h2'⟩
        · exact .inl (cj b hb a h1 h2)
        · exact .inr ⟨cj k hk a h1 h2, h2'⟩
      · rcases h2 with h2 | ⟨h2, h2'⟩
        · exact .inr ⟨h1, cj b hb k h1' h2⟩
        · exact .inr ⟨h1, h2'⟩
    · have e : j = k := by omega
      subst e
      have h1' : (f j).testBit a = true := h1.elim id fun z => z.1
      have h2' : (f b).testBit j = true := h2.elim id fun z => z.2
      exact .inr ⟨h1', h2'⟩
theorem WInv.congr {n k : Nat} {ps : List Pr} {f g : Nat → Nat} (w : WInv n ps k f) (h : ∀ b, b < n → g b = f b) (hk : k ≤ n := by omega) : WInv n ps k g :=
  ⟨fun b hb a q => w.sound b hb a (h b hb ▸ q), fun b hb a q => (h b hb).symm ▸ w.base b hb a q, fun j hj b hb a q1 q2 => by
    rw [h b hb] at q2 ⊢
    rw [h j (by omega)] at q1
    exact w.clos j hj b hb a q1 q2⟩
theorem WInv.done {n : Nat} {ps : List Pr} {f : Nat → Nat} (w : WInv n ps n f) (G : Good n ps) {a b : Nat} (ha : a < n) (hb : b < n) : (f b).testBit a = reach ps a b := by
  rw [Bool.eq_iff_iff, reach_iff]
  refine ⟨w.sound b hb a, fun r => ?_⟩
  have key : b < n → (f b).testBit a = true := by
    induction r with
    | refl => exact fun hb => w.base _ hb _ (.inl rfl)
    | @step b c r m ih =>
      intro hc
      have hb := (G.ok _ m).1
      exact w.clos b hb c hc a (ih hb hb) (w.base c hc b (.inr m))
  exact key hb
def g_closing_of : Sg := pr (fun x : Nat × List Pr => [.sh (bookD x.1 x.2)]) (fun x => Good x.1 x.2) (fun x dv => dv = .sh (bookD x.1 (clo x.1 x.2)))
def n_closing_of : List Str := ["book", "found", "middle", "b"]
def t_closing_of : DS := dSeq2 (dSet 1 (dCall g_lows (dCons (dVar 0) (dNil)))) (dSeq2 (dFor (dRange1 (dOpR fIx (dVar 0) (dC (.int 0)))) (gN 2) (dFor (dRange1 (dOpR fIx (dVar 0) (dC (.int 0)))) (gN 3) (dIfS (dTest (dOp (fRel sDep rEqv) (dOp fAnd (dOp fShr (dOpR fIx (dVar 1) (dVar 3)) (dVar 2)) (dC (.int 1))) (dC (.int 1)))) (dSetIx 1 (dVar 3) (dOp fOr (dOpR fIx (dVar 1) (dVar 3)) (dOpR fIx (dVar 1) (dVar 2)))) (dNext)))) (dFrz 1 (dRet (dCall g_hill_of_lows (dCons (dVar 1) (dNil))))))
theorem p_closing_of (ds : List DV) (Q : DV → Prop) (h : g_closing_of ds Q) : t_closing_of { nx := fun _ => Q (.sh .none), rt := Q } (startD n_closing_of ds) := by
  obtain ⟨⟨n, ps⟩, rfl, G, q⟩ := h
  have hi : n ≤ 10 := G.hi
  simp [t_closing_of, startD, n_closing_of]
  refine pr_call (n, ps) rfl G ?_
  rintro dv ⟨f, rfl, hf⟩
  simp [bookD]
  refine ⟨small_n (by omega), ?_⟩
  rw [rangeD_nat]
  refine forRun_nat n (fun k δ => ∃ (f : Nat → Nat) (x y : Option DV), δ = [some (DV.sh (PyData.tuple [PyData.int ↑n, PyData.tuple (List.map prD ps)])), some (ownL (natsD f n)), x, y] ∧ WInv n ps k f) (fun k δ hk hI N hN => ?_) (fun δ hI => ?_) ⟨f, none, none, rfl, ?_⟩
  · obtain ⟨f, x, y, rfl, wi⟩ := hI
    simp
    refine ⟨small_n (by omega), ?_⟩
    rw [rangeD_nat]
    refine forRun_nat n (fun i δ => ∃ (g : Nat → Nat) (y : Option DV), δ = [some (DV.sh (PyData.tuple [PyData.int ↑n, PyData.tuple (List.map prD ps)])), some (ownL (natsD g n)), some (.sh (.int (k : Nat))), y] ∧ (∀ b, b < n → g b = if b < i then wStep k f b else f b)) (fun i δ hi hJ M hM => ?_) (fun δ hJ => ?_) ⟨f, y, rfl, fun b hb => by simp⟩
    · obtain ⟨g, y, rfl, hg⟩ := hJ
      simp [natsD_at hi, natsD_at hk, natsD_len, hi]
      have gi : g i = f i := by rw [hg i hi]; simp
      have gk : g k = f k := by
        rw [hg k hk]
        split
        · unfold wStep
          split
          · simp
          · rfl
        · rfl
      by_cases b : (g i).testBit k = true
      · simp [(bit_iff _ _).mpr b]
        rw [bor_nat, natsD_own hi]
        refine hM _ ⟨_, _, rfl, fun b' hb' => ?_⟩
        unfold upN
        by_cases e : b' = i
        · subst e
          rw [if_pos rfl, if_pos (by omega), gi, gk]
          unfold wStep
          rw [if_pos (by rw [← gi]; exact b)]
        · rw [if_neg e, hg b' hb']
          by_cases l : b' < i
          · rw [if_pos l, if_pos (by omega)]
          · rw [if_neg l, if_neg (by omega)]
      · have b' : ¬ Builtin.bitAnd ((g i : Int) / 2 ^ k) 1 = 1 := fun z => b ((bit_iff _ _).mp z)
        simp [b']
        refine hM _ ⟨_, _, rfl, fun b' hb' => ?_⟩
        rw [hg b' hb']
        by_cases e : b' = i
        · subst e
          rw [if_neg (by omega), if_pos (by omega)]
          unfold wStep
          rw [if_neg (by rw [← gi]; exact b)]
        · by_cases l : b' < i
          · rw [if_pos l, if_pos (by omega)]
          · rw [if_neg l, if_neg (by omega)]
    · obtain ⟨g, y, rfl, hg⟩ := hJ
      exact hN _ ⟨g, _, _, rfl, (wi.step hk).congr fun b hb => by rw [hg b hb, if_pos hb]⟩
  · obtain ⟨f, x, y, rfl, wi⟩ := hI
    simp
    refine pr_call (n, f) rfl hi ?_
    rintro dv rfl
    refine q _ ?_
    unfold clo
    rw [prs_congr fun a b ha hb ne => wi.done G ha hb]
  · exact ⟨fun b hb a h => by
      rcases (hf b a hb).mp h with rfl | h
      · exact .refl
      · exact .step .refl h, fun b hb a h => (hf b a hb).mpr h, fun j hj => absurd hj (Nat.not_lt_zero _)⟩
end HL
set_option Elab.async false
set_option linter.all false
set_option maxRecDepth 100000
set_option maxHeartbeats 1000000
namespace HL
open PySem PySem.Spec L2 DL
open PyProof.Rows hiding St
/-! ### depth, equality, order of the data -/
theorem depthAll_le {m : Nat} : ∀ {ds : List D}, (∀ d ∈ ds, d.depth ≤ m) → PyData.depthAll ds ≤ m
  | [], _ => by rw [PyData.depthAll]; omega
  | d :: ds, h => by
    rw [PyData.depthAll]
    have h1 := h d List.mem_cons_self
    have h2 := depthAll_le fun x q => h x (List.mem_cons_of_mem d q)
    omega
theorem depth_tup {m : Nat} {ds : List D} (h : ∀ d ∈ ds, d.depth ≤ m) : (PyData.tuple ds).depth ≤ m + 1 := by
  rw [PyData.depth]
  have := depthAll_le h
  omega
theorem depth_prD (p : Pr) : (prD p).depth ≤ 1 := depth_tup (m := 0) (by simp [depth_int])
theorem depth_prs (ps : List Pr) : PyData.depthAll (ps.map prD) ≤ 1 := depthAll_le fun d m => by
  obtain ⟨p, _, rfl⟩ := List.mem_map.mp m
  exact depth_prD p
theorem depth_book (n : Nat) (ps : List Pr) : (bookD n ps).depth ≤ 3 := depth_tup (m := 2) (by
  intro d m
  simp at m
  rcases m with rfl | rfl
  · rw [depth_int]; omega
  · refine depth_tup (m := 1) fun d m => ?_
    obtain ⟨p, _, rfl⟩ := List.mem_map.mp m
    exact depth_prD p)
theorem sDep_le {d e : D} {m : Nat} (h : d.depth ≤ m) (hm : m ≤ 60 := by decide) : sDep d e := by unfold sDep; omega
@[simp] theorem sDep_book (n : Nat) (ps : List Pr) (e : D) : sDep (bookD n ps) e ↔ True := ⟨fun _ => trivial, fun _ => sDep_le (depth_book n ps)⟩
theorem eqvAll_map {α : Type} [DecidableEq α] {f : α → D} (h : ∀ a b, PyData.eqv (f a) (f b) = decide (a = b)) : ∀ l m : List α, PyData.eqvAll (l.map f) (m.map f) = decide (l = m)
  | [], [] => by rw [List.map_nil, PyData.eqvAll]; simp
  | [], _ :: _ => by rw [List.map_nil, List.map_cons, PyData.eqvAll]; simp
  | _ :: _, [] => by rw [List.map_nil, List.map_cons, PyData.eqvAll]; simp
  | a :: l, b :: m => by
    rw [List.map_cons, List.map_cons, PyData.eqvAll, h, eqvAll_map h l m]
    rw [Bool.eq_iff_iff]
    simp
theorem eqv_prD (p q : Pr) : PyData.eqv (prD p) (prD q) = decide (p = q) := by
  unfold prD
  rw [PyData.eqv, PyData.eqvAll, PyData.eqvAll, PyData.eqvAll, PyData.eqv, PyData.eqv, Bool.eq_iff_iff]
  obtain ⟨a, b⟩ := p
  obtain ⟨c, d⟩ := q
  simp
  omega
theorem rEqv_book (n : Nat) (ps qs : List Pr) : rEqv (bookD n ps) (bookD n qs) = decide (ps = qs) := by
  rw [rEqv_eq]
  unfold bookD
  rw [PyData.eqv, PyData.eqvAll, PyData.eqvAll, PyData.eqvAll, PyData.eqv, PyData.eqv, eqvAll_map eqv_prD]
  simp
theorem sLt_prD (p q : Pr) : sLt (prD p) (prD q) := by
  refine ⟨by unfold prD; simp [PySem.W.alike, PySem.W.alikeAll], (by unfold prD; intro h; cases h), ?_⟩
  have := depth_prD p
  omega
theorem rLtD_prD (p q : Pr) : rLtD (prD p) (prD q) = decide (plt p q) := by
  rw [rLtD_eq]
  unfold prD
  rw [PySem.W.dataLt_ii, Bool.eq_iff_iff, decide_eq_true_iff, decide_eq_true_iff]
  show _ ↔ (p.1 < q.1 ∨ (p.1 = q.1 ∧ p.2 < q.2))
  omega
theorem alike_prs (l : List Pr) : PySem.W.AllAlike (l.map prD) := fun d m d' m' => by
  obtain ⟨p, _, rfl⟩ := List.mem_map.mp m
  obtain ⟨q, _, rfl⟩ := List.mem_map.mp m'
  exact (sLt_prD p q).1
theorem sortable_prs (l : List Pr) : PySem.W.Sortable (l.map prD) := .inl fun d m => by
  obtain ⟨p, _, rfl⟩ := List.mem_map.mp m
  exact ⟨_, _, rfl⟩
theorem strict_nodup {α : Type} {lt : α → α → Prop} (ir : ∀ a, ¬ lt a a) {m : List α} (hm : m.Pairwise lt) : m.Nodup :=
  List.Pairwise.imp (S := fun a b => a ≠ b) (fun {a b} h e => by subst e; exact ir _ h) hm
/-- what is sorted: a row in strict order with the same members -/
theorem sort_strict {α : Type} {f : α → D} {lt : α → α → Prop} (dec : ∀ a b, PySem.W.dataLt (f a) (f b) = true ↔ lt a b) (ir : ∀ a, ¬ lt a a) (tr : ∀ {a b c}, lt a b → lt b c → lt a c) (tot : ∀ a b, a ≠ b → lt a b ∨ lt b a)
    {l m : List α} (p : l.Perm m) (hm : m.Pairwise lt) : sortD (l.map f) = m.map f := by
  have le : ∀ a b, (!PySem.W.dataLt (f b) (f a)) = true ↔ ¬ lt b a := fun a b => by
    rw [Bool.not_eq_true', ← Bool.not_eq_true, dec]
  have e1 : sortD (l.map f) = (l.mergeSort fun a b => !PySem.W.dataLt (f b) (f a)).map f := by
    unfold sortD
    show (l.map f).mergeSort (fun a b => !PySem.W.dataLt b a) = _
    exact (List.map_mergeSort (r := fun a b => !PySem.W.dataLt (f b) (f a)) (s := fun a b => !PySem.W.dataLt b a) (f := f) (l := l) (fun a _ b _ => rfl)).symm
  rw [e1]
  congr 1
  have s1 := List.pairwise_mergeSort (le := fun a b => !PySem.W.dataLt (f b) (f a)) (by
    intro a b c h1 h2
    rw [le] at h1 h2 ⊢
    intro h3
    by_cases e : b = c
    · subst e; exact h1 h3
    · rcases tot b c e with h | h
      · exact h1 (tr h h3)
      · exact h2 h) (by
    intro a b
    rw [Bool.or_eq_true, le, le]
    by_cases h : lt b a
    · exact .inr fun z => ir _ (tr z h)
    · exact .inl h) l
  have pm : (l.mergeSort fun a b => !PySem.W.dataLt (f b) (f a)).Perm m := (List.mergeSort_perm _ _).trans p
  have nd : (l.mergeSort fun a b => !PySem.W.dataLt (f b) (f a)).Nodup := (pm.nodup_iff).mpr (strict_nodup ir hm)
  refine strict_ext ir tr ?_ hm fun x => pm.mem_iff
  refine (s1.and nd).imp fun {a b} h => ?_
  have h1 := (le a b).mp h.1
  rcases tot a b h.2 with z | z
  · exact z
  · exact absurd z h1
theorem sort_prs {l m : List Pr} (p : l.Perm m) (hm : m.Pairwise plt) : sortD (l.map prD) = m.map prD :=
  sort_strict (fun a b => by rw [← rLtD_eq, rLtD_prD, decide_eq_true_iff]) plt_irrefl plt_trans plt_total p hm
theorem perm_of_mem {α : Type} {lt : α → α → Prop} (ir : ∀ a, ¬ lt a a) {l m : List α} (nd : l.Nodup) (hm : m.Pairwise lt) (h : ∀ x, x ∈ l ↔ x ∈ m) : l.Perm m := by
  have nm : m.Nodup := strict_nodup ir hm
  classical
  exact (List.perm_ext_iff_of_nodup nd nm).mpr h
end HL
set_option Elab.async false
set_option linter.all false
set_option maxRecDepth 100000
set_option maxHeartbeats 1000000
namespace HL
open PySem PySem.Spec L2 DL
open PyProof.Rows hiding St
def g_is_integer : Sg := pr (fun i : Int => [.sh (.int i)]) (fun _ => True) (fun _ dv => dv = .sh (.bool true))
def n_is_integer : List Str := ["thing"]
def t_is_integer : DS := dRet (dAndV (dUn (fIsi "int") (dVar 0)) (dNotV (dUn (fIsi "bool") (dVar 0))))
theorem p_is_integer (ds : List DV) (Q : DV → Prop) (h : g_is_integer ds Q) : t_is_integer { nx := fun _ => Q (.sh .none), rt := Q } (startD n_is_integer ds) := by
  obtain ⟨i, rfl, _, q⟩ := h
  simp [t_is_integer, startD, n_is_integer, tyIs]
  exact q _ rfl
def g_is_between : Sg := pr (fun x : Int × Int × Int => [.sh (.int x.1), .sh (.int x.2.1), .sh (.int x.2.2)]) (fun _ => True) (fun x dv => dv = .sh (.bool (decide (x.2.1 ≤ x.1 ∧ x.1 ≤ x.2.2))))
def n_is_between : List Str := ["thing", "least", "most"]
def t_is_between : DS := dRet (dAndV (dCall g_is_integer (dCons (dVar 0) (dNil))) (dChain (fRel sLt rLeD) (fRel sLt rLeD) (dVar 1) (dVar 0) (dVar 2)))
theorem p_is_between (ds : List DV) (Q : DV → Prop) (h : g_is_between ds Q) : t_is_between { nx := fun _ => Q (.sh .none), rt := Q } (startD n_is_between ds) := by
  obtain ⟨⟨i, lo, hi⟩, rfl, _, q⟩ := h
  simp [t_is_between, startD, n_is_between]
  refine ⟨_, rfl, trivial, ?_⟩
  rintro dv rfl
  simp
  have := q _ rfl
  simp at this
  by_cases h1 : lo ≤ i <;> simp [h1] at this ⊢ <;> exact this
def g_is_pair_of : Sg := pr (fun x : Nat × Pr => [.sh (.int x.1), .sh (prD x.2)]) (fun x => 1 ≤ x.1) (fun x dv => dv = .sh (.bool (decide (x.2.1 < x.1 ∧ x.2.2 < x.1 ∧ x.2.1 ≠ x.2.2))))
def n_is_pair_of : List Str := ["n", "thing"]
def t_is_pair_of : DS := dSeq2 (dIfS (dOr (dNot (dTest (dUn (fIsi "tuple") (dVar 1)))) (dTest (dOp (fRel sDep fun d e => !rEqv d e) (dCB (on1 fLen) (dCons (dVar 1) (dNil))) (dC (.int 2))))) (dRet (dC (.bool false))) (dNext)) (dRet (dAndV (dCall g_is_between (dCons (dOpR fIx (dVar 1) (dC (.int 0))) (dCons (dC (.int 0)) (dCons (dOp fSub (dVar 0) (dC (.int 1))) (dNil))))) (dAndV (dCall g_is_between (dCons (dOpR fIx (dVar 1) (dC (.int 1))) (dCons (dC (.int 0)) (dCons (dOp fSub (dVar 0) (dC (.int 1))) (dNil))))) (dOp (fRel sDep fun d e => !rEqv d e) (dOpR fIx (dVar 1) (dC (.int 0))) (dOpR fIx (dVar 1) (dC (.int 1)))))))
theorem p_is_pair_of (ds : List DV) (Q : DV → Prop) (h : g_is_pair_of ds Q) : t_is_pair_of { nx := fun _ => Q (.sh .none), rt := Q } (startD n_is_pair_of ds) := by
  obtain ⟨⟨n, a, b⟩, rfl, hn, q⟩ := h
  simp at hn
  have q := q _ rfl
  simp [t_is_pair_of, startD, n_is_pair_of, tyIs, prD, PyData.isTuple]
  refine pr_call ((a : Int), 0, (n : Int) - 1) rfl trivial ?_
  rintro dv rfl
  simp
  have e1 : ((a : Int) ≤ n - 1) ↔ a < n := by omega
  have e2 : ((b : Int) ≤ n - 1) ↔ b < n := by omega
  simp [e1]
  by_cases h1 : a < n
  · simp [h1] at q ⊢
    refine pr_call ((b : Int), 0, (n : Int) - 1) rfl trivial ?_
    rintro dv rfl
    simp [e2]
    by_cases h2 : b < n
    · simp [h2] at q ⊢
      have e3 : ((a : Int) = b) ↔ a = b := by omega
      simp [e3]
      exact q
    · simp [h2] at q ⊢
      exact q
  · simp [h1] at q ⊢
    exact q
def g_is_book_value : Sg := pr (fun x : Nat × List Pr => [.sh (bookD x.1 x.2)]) (fun x => Good x.1 x.2) (fun x dv => dv = .sh (.bool true))
def n_is_book_value : List Str := ["thing", "pair", "one", "other"]
def t_is_book_value : DS := dSeq2 (dIfS (dOr (dNot (dTest (dUn (fIsi "tuple") (dVar 0)))) (dOr (dTest (dOp (fRel sDep fun d e => !rEqv d e) (dCB (on1 fLen) (dCons (dVar 0) (dNil))) (dC (.int 2)))) (dNot (dTest (dCall g_is_between (dCons (dOpR fIx (dVar 0) (dC (.int 0))) (dCons (dC (.int 1)) (dCons (dC (.int 10)) (dNil))))))))) (dRet (dC (.bool false))) (dNext)) (dSeq2 (dIfS (dOr (dNot (dTest (dUn (fIsi "tuple") (dOpR fIx (dVar 0) (dC (.int 1)))))) (dNot (dTest (dCB (on1 (fBools fun bs => bs.all id)) (dCons (dLc (dSeqQ (dOpR fIx (dVar 0) (dC (.int 1)))) (gN 1) (dYes) (dCall g_is_pair_of (dCons (dOpR fIx (dVar 0) (dC (.int 0))) (dCons (dVar 1) (dNil)))) [1]) (dNil)))))) (dRet (dC (.bool false))) (dNext)) (dRet (dCB (on1 (fBools fun bs => bs.all id)) (dCons (dLc (dZip false (dCons (dOpR fIx (dVar 0) (dC (.int 1))) (dCons (dSlice (dOpR fIx (dVar 0) (dC (.int 1))) (dPart (dC (.int 1))) (dNoPart)) (dNil)))) (gT 2 (gsCons (gN 2) (gsCons (gN 3) (gsNil)))) (dYes) (dOp (fRel sLt rLtD) (dVar 2) (dVar 3)) [2, 3]) (dNil)))))
theorem zip_tail {lt : Pr → Pr → Prop} : ∀ {ps : List Pr}, ps.Pairwise lt → ∀ x ∈ zipD (ps.map prD) (ps.map prD).tail, ∃ p q, lt p q ∧ x = .tuple [prD p, prD q]
  | [], _, x, h => by simp [zipD] at h
  | [p], _, x, h => by simp [zipD] at h
  | p :: q :: ps, s, x, h => by
    have s' := List.pairwise_cons.mp s
    simp [zipD] at h
    rcases h with rfl | h
    · exact ⟨p, q, s'.1 q (by simp), rfl⟩
    · exact zip_tail s'.2 x (by simpa using h)
theorem cut1 (ds : List D) : DL.cutD ds (some 1) none = ds.drop 1 := by
  cases ds with
  | nil => unfold DL.cutD HT.sIx; simp
  | cons d ds => rw [tail1 ⟨0, 0, 0, 0⟩ d ds]; rfl
theorem lcRun_same {pat : DP} {elt : DT} {δ : DE} {Q : List DV → Prop} (dv : DV) (xs : List D) (hz : xs.length ≤ sizeLine) (st : ∀ x ∈ xs, ∀ P : DV → Prop, P dv → pat x δ fun δ' => elt δ' fun r => (match r.fx with | some dv => P dv | none => False))
    (h : Q (List.replicate xs.length dv)) : lcRun pat dYes elt δ xs [] Q := by
  have := lcRun_map (pat := pat) (elt := elt) (δ := δ) (Q := Q) (fun x : D => x) (fun _ => dv) xs hz st (by rw [List.map_const']; exact h)
  rw [List.map_id'] at this
  exact this
theorem all_true (n : Nat) {Q : R → Prop} (q : Q (.val (.sh (.bool true)))) : fBools (fun bs => bs.all id) (.val (.own (List.replicate n (.sh (.bool true))))) Q := by
  have e : List.replicate n (DV.sh (.bool true)) = ((List.replicate n true).map PyData.bool).map DV.sh := by simp
  rw [e, fBools_o]
  simpa using q
theorem p_is_book_value (ds : List DV) (Q : DV → Prop) (h : g_is_book_value ds Q) : t_is_book_value { nx := fun _ => Q (.sh .none), rt := Q } (startD n_is_book_value ds) := by
  obtain ⟨⟨n, ps⟩, rfl, G, q⟩ := h
  have hl := book_len G
  have hs : (100 : Nat) ≤ sizeLine := by decide
  have l := G.lo
  have u := G.hi
  simp at l u
  simp [t_is_book_value, startD, n_is_book_value, tyIs, bookD, PyData.isTuple]
  refine pr_call ((n : Int), 1, 10) rfl trivial ?_
  rintro dv rfl
  have e : decide ((1 : Int) ≤ n ∧ (n : Int) ≤ 10) = true := by simp; omega
  simp [e]
  intro _
  refine lcRun_same (.sh (.bool true)) _ (by simp; simp at hl; omega) (fun x m P hP => ?_) ?_
  · obtain ⟨p, hp, rfl⟩ := List.mem_map.mp m
    simp
    refine pr_call (n, p) rfl l ?_
    rintro dv rfl
    have := G.ok p hp
    simp at this
    simp [this]
    exact hP
  · refine all_true _ ?_
    simp
    rw [cut1]
    simp
    have hz : (zipD (List.map prD ps) (List.map prD ps).tail).length ≤ sizeLine := by
      rw [zipD_len]
      simp
      simp at hl
      omega
    refine lcRun_same (.sh (.bool true)) _ hz (fun x m P hP => ?_) ?_
    · obtain ⟨p, r, hpr, rfl⟩ := zip_tail G.st x m
      simp
      refine ⟨sLt_prD p r, ?_⟩
      rw [rLtD_prD, decide_eq_true hpr]
      exact hP
    · refine all_true _ ?_
      exact q _ rfl
def g_is_hill_value : Sg := pr (fun x : Nat × List Pr => [.sh (bookD x.1 x.2)]) (fun x => Good x.1 x.2) (fun x dv => dv = .sh (.bool (decide (clo x.1 x.2 = x.2))))
def n_is_hill_value : List Str := ["thing"]
def t_is_hill_value : DS := dRet (dAndV (dCall g_is_book_value (dCons (dVar 0) (dNil))) (dOp (fRel sDep rEqv) (dCall g_closing_of (dCons (dVar 0) (dNil))) (dVar 0)))
theorem p_is_hill_value (ds : List DV) (Q : DV → Prop) (h : g_is_hill_value ds Q) : t_is_hill_value { nx := fun _ => Q (.sh .none), rt := Q } (startD n_is_hill_value ds) := by
  obtain ⟨⟨n, ps⟩, rfl, G, q⟩ := h
  simp [t_is_hill_value, startD, n_is_hill_value]
  refine pr_call (n, ps) rfl G ?_
  rintro dv rfl
  simp
  refine pr_call (n, ps) rfl G ?_
  rintro dv rfl
  simp [rEqv_book]
  exact q _ rfl
def g_need_hill : Sg := pr (fun x : Nat × List Pr => [.sh (bookD x.1 x.2)]) (fun x => Hill x.1 x.2) (fun _ dv => dv = .sh .none)
def n_need_hill : List Str := ["hill"]
def t_need_hill : DS := dIfS (dNot (dTest (dCall g_is_hill_value (dCons (dVar 0) (dNil))))) (dNever) (dNext)
theorem p_need_hill (ds : List DV) (Q : DV → Prop) (h : g_need_hill ds Q) : t_need_hill { nx := fun _ => Q (.sh .none), rt := Q } (startD n_need_hill ds) := by
  obtain ⟨⟨n, ps⟩, rfl, G, q⟩ := h
  simp [t_need_hill, startD, n_need_hill]
  refine pr_call (n, ps) rfl G.good ?_
  rintro dv rfl
  have e : clo n ps = ps := G.clo
  simp [e]
  exact q _ rfl
def g_is_hill : Sg := pr (fun x : Nat × List Pr => [.sh (bookD x.1 x.2)]) (fun x => Good x.1 x.2) (fun x dv => dv = .sh (.bool (decide (clo x.1 x.2 = x.2))))
def n_is_hill : List Str := ["thing"]
def t_is_hill : DS := dRet (dCall g_is_hill_value (dCons (dVar 0) (dNil)))
theorem p_is_hill (ds : List DV) (Q : DV → Prop) (h : g_is_hill ds Q) : t_is_hill { nx := fun _ => Q (.sh .none), rt := Q } (startD n_is_hill ds) := by
  obtain ⟨⟨n, ps⟩, rfl, G, q⟩ := h
  simp [t_is_hill, startD, n_is_hill]
  refine pr_call (n, ps) rfl G ?_
  rintro dv rfl
  exact q _ rfl
/-! ### lots -/
def bitsOf (m : Nat) : List Nat := (List.range 10).filter fun x => m.testBit x
theorem mem_bits {m x : Nat} (h : m < 1024) : x ∈ bitsOf m ↔ m.testBit x = true := by
  unfold bitsOf
  rw [List.mem_filter, List.mem_range]
  refine ⟨fun z => z.2, fun z => ⟨?_, z⟩⟩
  by_cases l : x < 10
  · exact l
  · have : m < 2 ^ x := Nat.lt_of_lt_of_le (show m < 2 ^ 10 from h) (Nat.pow_le_pow_right (by omega) (show 10 ≤ x by omega))
    rw [Nat.testBit_lt_two_pow this] at z
    cases z
theorem bits_sorted (m : Nat) : (bitsOf m).Pairwise (· < ·) := (range_sorted 10).filter _
theorem intBits_nat (m : Nat) (h : m < 1024) : Builtin.Int.intBits (m : Int) ≤ 10 ∧ m < 2 ^ (Builtin.Int.intBits (m : Int)) := by
  unfold Builtin.Int.intBits
  by_cases e : m = 0
  · subst e; simp
  · have : ((m : Int) == 0) = false := by simp; omega
    rw [this]
    simp
    refine ⟨?_, Nat.lt_log2_self⟩
    have := (Nat.log2_lt e).mpr (show m < 2 ^ 10 from h)
    omega
def g_lot_of : Sg := pr (fun m : Nat => [.sh (.int m)]) (fun m => m < 1024) (fun m dv => dv = .sh (lotD (bitsOf m)))
def n_lot_of : List Str := ["mask", "x"]
def t_lot_of : DS := dRet (dCB (on1 fTuple) (dCons (dLc (dRange1 (dUn fBits (dVar 0))) (gN 1) (dTest (dOp (fRel sDep rEqv) (dOp fAnd (dOp fShr (dVar 0) (dVar 1)) (dC (.int 1))) (dC (.int 1)))) (dVar 1) [1]) (dNil)))
theorem p_lot_of (ds : List DV) (Q : DV → Prop) (h : g_lot_of ds Q) : t_lot_of { nx := fun _ => Q (.sh .none), rt := Q } (startD n_lot_of ds) := by
  obtain ⟨m, rfl, hm, q⟩ := h
  obtain ⟨b1, b2⟩ := intBits_nat m hm
  simp [t_lot_of, startD, n_lot_of]
  refine ⟨small_n (by omega), ?_⟩
  rw [rangeD_nat]
  refine lcRun_fn (fun i : Nat => PyData.int i) (fun x => if m.testBit x = true then some (DV.sh (.int (x : Nat))) else none) _ _ (by rw [List.length_range]; simp; exact Nat.le_trans b1 (by decide)) (fun x mx P hP => ?_) ?_
  · simp at mx
    simp
    by_cases b : m.testBit x = true
    · simp [b, (bit_iff _ _).mpr b] at hP ⊢
      exact hP
    · have b' : ¬ Builtin.bitAnd ((m : Int) / 2 ^ x) 1 = 1 := fun z => b ((bit_iff _ _).mp z)
      simp [b, b'] at hP ⊢
      exact hP
  · simp only [List.nil_append]
    rw [filterMap_if (fun x => m.testBit x) (fun x => DV.sh (.int (x : Nat)))]
    have e : ((List.range (Builtin.Int.intBits (m : Int))).filter fun x => m.testBit x) = bitsOf m := by
      refine strict_ext (lt := (· < ·)) Nat.lt_irrefl Nat.lt_trans ((range_sorted _).filter _) (bits_sorted m) fun x => ?_
      rw [mem_bits hm, List.mem_filter, List.mem_range]
      refine ⟨fun z => z.2, fun z => ⟨?_, z⟩⟩
      by_cases l : x < Builtin.Int.intBits (m : Int)
      · exact l
      · have : m < 2 ^ x := Nat.lt_of_lt_of_le b2 (Nat.pow_le_pow_right (by omega) (by omega))
        rw [Nat.testBit_lt_two_pow this] at z
        cases z
    rw [e]
    have e2 : (bitsOf m).map (fun x => DV.sh (.int (x : Nat))) = ((bitsOf m).map fun x : Nat => PyData.int x).map DV.sh := by rw [List.map_map]; rfl
    rw [e2, fTuple_o]
    exact q _ rfl
theorem or_lt {a b : Nat} (h : a < 1024) (h' : b < 1024) : a ||| b < 1024 := Nat.or_lt_two_pow (n := 10) h h'
end HL
set_option Elab.async false
set_option linter.all false
set_option maxRecDepth 100000
set_option maxHeartbeats 1000000
namespace HL
open PySem PySem.Spec L2 DL
open PyProof.Rows hiding St
theorem lt_of_bits {m : Nat} (h : ∀ i, m.testBit i = true → i < 10) : m < 1024 := by
  refine Nat.lt_pow_two_of_testBit (n := 10) m fun i hi => ?_
  cases e : m.testBit i with
  | false => rfl
  | true => have := h i e; omega
/-- a lot of n names -/
structure Lot (n : Nat) (xs : List Nat) : Prop where
  st : xs.Pairwise (· < ·)
  ok : ∀ x ∈ xs, x < n
theorem nat_strict {l m : List Nat} (h1 : l.Pairwise (· < ·)) (h2 : m.Pairwise (· < ·)) (h : ∀ x, x ∈ l ↔ x ∈ m) : l = m := strict_ext (lt := (· < ·)) Nat.lt_irrefl Nat.lt_trans h1 h2 h
theorem Lot.eq {n : Nat} {xs : List Nat} (h : Lot n xs) : xs = (List.range n).filter fun x => decide (x ∈ xs) := nat_strict h.st ((range_sorted n).filter _) fun x => by
  rw [List.mem_filter, List.mem_range]
  simp
  exact h.ok x
theorem Lot.len {n : Nat} {xs : List Nat} (h : Lot n xs) : xs.length ≤ n := by
  rw [h.eq]
  exact Nat.le_trans (List.length_filter_le _ _) (by simp)
/-- at or below -/
def le (ps : List Pr) (a b : Nat) : Bool := decide (a = b) || decide ((a, b) ∈ ps)
theorem le_iff {ps : List Pr} {a b : Nat} : le ps a b = true ↔ a = b ∨ (a, b) ∈ ps := by unfold le; simp
/-! ### mirrors, led hills -/
theorem sort_mem {n : Nat} {r : Nat → Nat → Bool} {l : List Pr} (nd : l.Nodup) (h : ∀ p, p ∈ l ↔ p ∈ prs n r) : sortD (l.map prD) = (prs n r).map prD :=
  sort_prs (perm_of_mem plt_irrefl nd (sorted_prs n r) h) (sorted_prs n r)
theorem sort_ok (l : List Pr) : PySem.W.AllAlike (l.map prD) ∧ PySem.W.Sortable (l.map prD) ∧ ∀ d ∈ l.map prD, d.depth ≤ 60 := ⟨alike_prs l, sortable_prs l, fun d m => by
  obtain ⟨p, _, rfl⟩ := List.mem_map.mp m
  have := depth_prD p
  omega⟩
theorem own_prs (l : List Pr) : l.map (fun p => DV.sh (prD p)) = (l.map prD).map DV.sh := by rw [List.map_map]; rfl
def mirR (ps : List Pr) (a b : Nat) : Bool := decide ((b, a) ∈ ps)
def g_mirror : Sg := pr (fun x : Nat × List Pr => [.sh (bookD x.1 x.2)]) (fun x => Hill x.1 x.2) (fun x dv => dv = .sh (bookD x.1 (prs x.1 (mirR x.2))))
def n_mirror : List Str := ["hill", "a", "b"]
def t_mirror : DS := dSeq2 (dExpr (dCall g_need_hill (dCons (dVar 0) (dNil)))) (dRet (dTup (dCons (dOpR fIx (dVar 0) (dC (.int 0))) (dCons (dCB (on1 fTuple) (dCons (dCB (on1 fSorted) (dCons (dLc (dSeqQ (dOpR fIx (dVar 0) (dC (.int 1)))) (gT 2 (gsCons (gN 1) (gsCons (gN 2) (gsNil)))) (dYes) (dTup (dCons (dVar 2) (dCons (dVar 1) (dNil)))) [1, 2]) (dNil))) (dNil))) (dNil)))))
theorem map_nodup {α β : Type} {f : α → β} (inj : ∀ a b, f a = f b → a = b) {l : List α} (h : l.Nodup) : (l.map f).Nodup := by
  unfold List.Nodup
  rw [List.pairwise_map]
  exact List.Pairwise.imp (fun {a b} q e => q (inj a b e)) h
theorem mir_mem {n : Nat} {ps : List Pr} (G : Good n ps) (p : Pr) : p ∈ ps.map (fun p : Pr => ((p.2, p.1) : Pr)) ↔ p ∈ prs n (mirR ps) := by
  rw [List.mem_map, mem_prs]
  unfold mirR
  constructor
  · rintro ⟨q, hq, rfl⟩
    have := G.ok q hq
    exact ⟨this.2.1, this.1, fun e => this.2.2 e.symm, by simpa using hq⟩
  · rintro ⟨_, _, _, h⟩
    exact ⟨(p.2, p.1), by simpa using h, rfl⟩
/-- tuple(sorted([.. for a, b in hill[1]])) -/
theorem p_mirror (ds : List DV) (Q : DV → Prop) (h : g_mirror ds Q) : t_mirror { nx := fun _ => Q (.sh .none), rt := Q } (startD n_mirror ds) := by
  obtain ⟨⟨n, ps⟩, rfl, G, q⟩ := h
  have hl := book_len G.good
  simp at hl
  have hs : (100 : Nat) ≤ sizeLine := by decide
  simp [t_mirror, startD, n_mirror]
  refine pr_call (n, ps) rfl G ?_
  rintro dv rfl
  simp [bookD]
  intro _
  refine lcRun_map prD (fun p => DV.sh (prD (p.2, p.1))) ps (by omega) (fun p m P hP => ?_) ?_
  · simp [prD] at hP ⊢
    exact hP
  · have e : ps.map (fun p => DV.sh (prD (p.2, p.1))) = ((ps.map (fun p : Pr => ((p.2, p.1) : Pr))).map prD).map DV.sh := by rw [List.map_map, List.map_map]; rfl
    rw [e, fSorted_o]
    refine ⟨sort_ok _, ?_⟩
    rw [sort_mem (map_nodup (fun a b e => by
      have := Prod.mk.inj e
      exact Prod.ext this.2 this.1) (strict_nodup plt_irrefl G.good.st)) (mir_mem G.good)]
    simp [-List.map_map]
    exact q _ rfl
end HL
set_option Elab.async false
set_option linter.all false
set_option maxRecDepth 100000
set_option maxHeartbeats 1000000
namespace HL
open PySem PySem.Spec L2 DL
open PyProof.Rows hiding St
/-! ### renamings -/
theorem sort_nats {l m : List Nat} (p : l.Perm m) (hm : m.Pairwise (· < ·)) : sortD (l.map fun x : Nat => PyData.int x) = m.map fun x : Nat => PyData.int x :=
  sort_strict (f := fun x : Nat => PyData.int x) (lt := (· < ·)) (fun a b => by rw [PySem.W.dataLt_int]; simp) Nat.lt_irrefl Nat.lt_trans (fun a b h => by omega) p hm
theorem nats_ok (l : List Nat) : PySem.W.AllAlike (l.map fun x : Nat => PyData.int x) ∧ PySem.W.Sortable (l.map fun x : Nat => PyData.int x) ∧ ∀ d ∈ l.map fun x : Nat => PyData.int x, d.depth ≤ 60 := by
  refine ⟨fun d m d' m' => ?_, .inr fun d m => ?_, fun d m => ?_⟩
  · obtain ⟨p, _, rfl⟩ := List.mem_map.mp m
    obtain ⟨q, _, rfl⟩ := List.mem_map.mp m'
    simp [PySem.W.alike]
  · obtain ⟨p, _, rfl⟩ := List.mem_map.mp m
    exact ⟨(by intro h; cases h), (by intro xs h; cases h)⟩
  · obtain ⟨p, _, rfl⟩ := List.mem_map.mp m
    rw [depth_int]; omega
theorem rgOk_n {n : Nat} (h : n ≤ 1000) : RgOk 0 (n : Int) := by unfold RgOk; simp; omega
theorem sDep_nats (l : List Nat) (e : D) : sDep (.list (l.map fun x : Nat => PyData.int x)) e := by
  have : (PyData.list (l.map fun x : Nat => PyData.int x)).depth ≤ 1 := by
    rw [PyData.depth]
    have := depthAll_le (m := 0) (ds := l.map fun x : Nat => PyData.int x) fun d m => by
      obtain ⟨p, _, rfl⟩ := List.mem_map.mp m
      rw [depth_int]; omega
    omega
  exact sDep_le this
theorem rEqv_nats (l m : List Nat) : rEqv (.list (l.map fun x : Nat => PyData.int x)) (.list (m.map fun x : Nat => PyData.int x)) = decide (l = m) := by
  rw [rEqv_eq, PyData.eqv]
  exact eqvAll_map (f := fun x : Nat => PyData.int x) (fun a b => by rw [PyData.eqv, Bool.eq_iff_iff]; simp; omega) l m
def g_is_renaming : Sg := pr (fun x : Nat × List Nat => [.sh (.int x.1), .sh (lotD x.2)]) (fun x => x.1 ≤ 10 ∧ x.2.Perm (List.range x.1)) (fun _ dv => dv = .sh (.bool true))
def n_is_renaming : List Str := ["n", "thing", "item"]
def t_is_renaming : DS := dSeq2 (dIfS (dOr (dNot (dTest (dUn (fIsi "tuple") (dVar 1)))) (dOr (dTest (dOp (fRel sDep fun d e => !rEqv d e) (dCB (on1 fLen) (dCons (dVar 1) (dNil))) (dVar 0))) (dNot (dTest (dCB (on1 (fBools fun bs => bs.all id)) (dCons (dLc (dSeqQ (dVar 1)) (gN 2) (dYes) (dCall g_is_integer (dCons (dVar 2) (dNil))) [2]) (dNil))))))) (dRet (dC (.bool false))) (dNext)) (dRet (dOp (fRel sDep rEqv) (dCB (on1 fSorted) (dCons (dVar 1) (dNil))) (dListRg1 (dVar 0))))
theorem p_is_renaming (ds : List DV) (Q : DV → Prop) (h : g_is_renaming ds Q) : t_is_renaming { nx := fun _ => Q (.sh .none), rt := Q } (startD n_is_renaming ds) := by
  obtain ⟨⟨n, xs⟩, rfl, ⟨hn, P⟩, q⟩ := h
  have hl : xs.length = n := by have := P.length_eq; simpa using this
  simp at hn
  have hs : (100 : Nat) ≤ sizeLine := by decide
  simp [t_is_renaming, startD, n_is_renaming, tyIs, lotD, PyData.isTuple, hl]
  intro _
  refine lcRun_same (.sh (.bool true)) _ (by simp; omega) (fun x m P hP => ?_) ?_
  · obtain ⟨p, hp, rfl⟩ := List.mem_map.mp m
    simp
    refine pr_call (p : Int) rfl trivial ?_
    rintro dv rfl
    exact hP
  · refine all_true _ ?_
    simp [-List.map_map]
    refine ⟨⟨(nats_ok xs).1, (nats_ok xs).2.1, fun a _ => by rw [depth_int]; omega⟩, rgOk_n (by omega), ?_⟩
    rw [rangeD_nat, sort_nats P (range_sorted n)]
    refine ⟨sDep_nats _ _, ?_⟩
    rw [rEqv_nats]
    simp
    exact q _ rfl
def ledR (ps : List Pr) (xs : List Nat) (a b : Nat) : Bool := ps.any fun p => decide (xs[p.1]? = some a) && decide (xs[p.2]? = some b)
theorem ledR_iff {ps : List Pr} {xs : List Nat} {a b : Nat} : ledR ps xs a b = true ↔ ∃ p ∈ ps, xs[p.1]? = some a ∧ xs[p.2]? = some b := by unfold ledR; simp [List.any_eq_true]
/-- xs a renaming of n names -/
structure Ren (n : Nat) (xs : List Nat) : Prop where
  perm : xs.Perm (List.range n)
theorem Ren.len {n : Nat} {xs : List Nat} (h : Ren n xs) : xs.length = n := by have := h.perm.length_eq; simpa using this
theorem Ren.nodup {n : Nat} {xs : List Nat} (h : Ren n xs) : xs.Nodup := (h.perm.nodup_iff).mpr List.nodup_range
theorem Ren.lt {n : Nat} {xs : List Nat} (h : Ren n xs) {i x : Nat} (e : xs[i]? = some x) : x < n := by
  have := (h.perm.mem_iff (a := x)).mp (List.mem_of_getElem? e)
  simpa using this
theorem Ren.at {n : Nat} {xs : List Nat} (h : Ren n xs) {i : Nat} (hi : i < n) : ∃ x, xs[i]? = some x := ⟨_, List.getElem?_eq_getElem (by rw [h.len]; exact hi)⟩
theorem Ren.inj {n : Nat} {xs : List Nat} (h : Ren n xs) {i j x : Nat} (e : xs[i]? = some x) (e' : xs[j]? = some x) : i = j := by
  have l1 := (List.getElem?_eq_some_iff.mp e).1
  exact (List.getElem?_inj l1 h.nodup).mp (e.trans e'.symm)
theorem Ren.has {n : Nat} {xs : List Nat} (h : Ren n xs) {x : Nat} (hx : x < n) : ∃ i, i < n ∧ xs[i]? = some x := by
  have := (h.perm.mem_iff (a := x)).mpr (by simpa using hx)
  obtain ⟨i, hi, e⟩ := List.mem_iff_getElem.mp this
  exact ⟨i, by rw [← h.len]; exact hi, by rw [List.getElem?_eq_getElem hi, e]⟩
/-- the led pairs, one by one -/
def ledL (ps : List Pr) (xs : List Nat) : List Pr := ps.map fun p => (xs[p.1]?.getD 0, xs[p.2]?.getD 0)
theorem led_mem {n : Nat} {ps : List Pr} {xs : List Nat} (G : Good n ps) (r : Ren n xs) (p : Pr) : p ∈ ledL ps xs ↔ p ∈ prs n (ledR ps xs) := by
  unfold ledL
  rw [List.mem_map, mem_prs, ledR_iff]
  constructor
  · rintro ⟨q, hq, rfl⟩
    obtain ⟨g1, g2, g3⟩ := G.ok q hq
    obtain ⟨x, ex⟩ := r.at g1
    obtain ⟨y, ey⟩ := r.at g2
    rw [ex, ey]
    exact ⟨r.lt ex, r.lt ey, fun e => g3 (by have e : x = y := e; subst e; exact r.inj ex ey), q, hq, ex, ey⟩
  · rintro ⟨_, _, _, q, hq, ex, ey⟩
    exact ⟨q, hq, by rw [ex, ey]; rfl⟩
theorem led_nodup {n : Nat} {ps : List Pr} {xs : List Nat} (G : Good n ps) (r : Ren n xs) : (ledL ps xs).Nodup := by
  unfold ledL List.Nodup
  rw [List.pairwise_map]
  refine List.Pairwise.imp_of_mem (fun {a b} ha hb q e => ?_) (strict_nodup plt_irrefl G.st)
  obtain ⟨a1, a2, _⟩ := G.ok a ha
  obtain ⟨b1, b2, _⟩ := G.ok b hb
  obtain ⟨x1, e1⟩ := r.at a1
  obtain ⟨x2, e2⟩ := r.at a2
  obtain ⟨y1, f1⟩ := r.at b1
  obtain ⟨y2, f2⟩ := r.at b2
  rw [e1, e2, f1, f2] at e
  have e := Prod.mk.inj e
  have h1 : x1 = y1 := e.1
  have h2 : x2 = y2 := e.2
  subst h1
  subst h2
  exact q (Prod.ext (r.inj e1 f1) (r.inj e2 f2))
theorem lotD_at {xs : List Nat} {i x : Nat} (e : xs[i]? = some x) : atI (xs.map fun x : Nat => PyData.int x) (i : Int) = some (.int (x : Nat)) := atI_nat (by rw [List.getElem?_map, e]; rfl)
def led (n : Nat) (ps : List Pr) (xs : List Nat) : List Pr := prs n (ledR ps xs)
theorem led_run {n : Nat} {ps : List Pr} {xs : List Nat} {Q : R → Prop} (G : Good n ps) (r : Ren n xs) (q : Q (.val (.own (((led n ps xs).map prD).map DV.sh)))) : fSorted (.val (.own (((ledL ps xs).map prD).map DV.sh))) Q := by
  rw [fSorted_o]
  refine ⟨sort_ok _, ?_⟩
  rw [sort_mem (led_nodup G r) (led_mem G r)]
  exact q
def g_led_hill : Sg := pr (fun x : Nat × List Pr × List Nat => [.sh (bookD x.1 x.2.1), .sh (lotD x.2.2)]) (fun x => Hill x.1 x.2.1 ∧ Ren x.1 x.2.2) (fun x dv => dv = .sh (bookD x.1 (led x.1 x.2.1 x.2.2)))
def n_led_hill : List Str := ["hill", "names", "a", "b"]
def t_led_hill : DS := dSeq2 (dExpr (dCall g_need_hill (dCons (dVar 0) (dNil)))) (dSeq2 (dIfS (dNot (dTest (dCall g_is_renaming (dCons (dOpR fIx (dVar 0) (dC (.int 0))) (dCons (dVar 1) (dNil)))))) (dNever) (dNext)) (dRet (dTup (dCons (dOpR fIx (dVar 0) (dC (.int 0))) (dCons (dCB (on1 fTuple) (dCons (dCB (on1 fSorted) (dCons (dLc (dSeqQ (dOpR fIx (dVar 0) (dC (.int 1)))) (gT 2 (gsCons (gN 2) (gsCons (gN 3) (gsNil)))) (dYes) (dTup (dCons (dOpR fIx (dVar 1) (dVar 2)) (dCons (dOpR fIx (dVar 1) (dVar 3)) (dNil)))) [2, 3]) (dNil))) (dNil))) (dNil))))))
theorem p_led_hill (ds : List DV) (Q : DV → Prop) (h : g_led_hill ds Q) : t_led_hill { nx := fun _ => Q (.sh .none), rt := Q } (startD n_led_hill ds) := by
  obtain ⟨⟨n, ps, xs⟩, rfl, ⟨G, r⟩, q⟩ := h
  have hl := book_len G.good
  simp at hl
  have hs : (100 : Nat) ≤ sizeLine := by decide
  simp [t_led_hill, startD, n_led_hill]
  refine pr_call (n, ps) rfl G ?_
  rintro dv rfl
  simp [bookD]
  refine pr_call (n, xs) rfl ⟨G.good.hi, r.perm⟩ ?_
  rintro dv rfl
  simp [lotD]
  intro _
  refine lcRun_map prD (fun p => DV.sh (prD (xs[p.1]?.getD 0, xs[p.2]?.getD 0))) ps (by omega) (fun p m P hP => ?_) ?_
  · obtain ⟨g1, g2, g3⟩ := G.good.ok p m
    obtain ⟨x, ex⟩ := r.at g1
    obtain ⟨y, ey⟩ := r.at g2
    simp only [ex, ey] at hP
    simp [prD, lotD_at ex, lotD_at ey] at hP ⊢
    exact hP
  · have e : ps.map (fun p => DV.sh (prD (xs[p.1]?.getD 0, xs[p.2]?.getD 0))) = ((ledL ps xs).map prD).map DV.sh := by unfold ledL; rw [List.map_map, List.map_map]; rfl
    rw [e]
    refine led_run G.good r ?_
    simp [-List.map_map]
    exact q _ rfl
/-! ### hills beside one another -/
end HL
set_option Elab.async false
set_option linter.all false
set_option maxRecDepth 100000
set_option maxHeartbeats 1000000
namespace HL
open PySem PySem.Spec L2 DL
open PyProof.Rows hiding St
/-! ### products -/
def code (m : Nat) (p : Pr) : Nat := p.1 * m + p.2
theorem flatMap_len {α β : Type} {k : Nat} {f : α → List β} (h : ∀ a, (f a).length ≤ k) : ∀ l : List α, (l.flatMap f).length ≤ l.length * k
  | [] => by simp
  | a :: l => by
    rw [List.flatMap_cons, List.length_append, List.length_cons, Nat.add_mul]
    have := flatMap_len h l
    have := h a
    omega
end HL
set_option Elab.async false
set_option linter.all false
set_option maxRecDepth 100000
set_option maxHeartbeats 1000000
namespace HL
open PySem PySem.Spec L2 DL
open PyProof.Rows hiding St
/-! ### rows of lots in order -/
def ltL (a b : List Nat) : Prop := (a.map fun x : Nat => (x : Int)) < (b.map fun x : Nat => (x : Int))
theorem lotD_ints (a : List Nat) : lotD a = .tuple ((a.map fun x : Nat => (x : Int)).map PyData.int) := by unfold lotD; rw [List.map_map]; rfl
theorem lotD_lt (a b : List Nat) : PySem.W.dataLt (lotD a) (lotD b) = true ↔ ltL a b := by
  rw [lotD_ints, lotD_ints, PySem.W.dataLt_tuple]
  have := PySem.W.dataLt_ints (a.map fun x : Nat => (x : Int)) (b.map fun x : Nat => (x : Int))
  unfold PySem.W.rowLt at this
  rw [this, decide_eq_true_iff]
  exact Iff.rfl
theorem ltL_irrefl (a : List Nat) : ¬ ltL a a := List.lt_irrefl _
theorem ltL_trans {a b c : List Nat} (h : ltL a b) (h' : ltL b c) : ltL a c := List.lt_trans h h'
theorem cast_inj {a b : List Nat} (h : (a.map fun x : Nat => (x : Int)) = b.map fun x : Nat => (x : Int)) : a = b := by
  induction a generalizing b with
  | nil => cases b with
    | nil => rfl
    | cons _ _ => simp at h
  | cons x a ih =>
    cases b with
    | nil => simp at h
    | cons y b =>
      simp at h
      have h1 : x = y := by omega
      rw [h1, ih h.2]
theorem ltL_total (a b : List Nat) (h : a ≠ b) : ltL a b ∨ ltL b a := by
  by_cases h1 : ltL a b
  · exact .inl h1
  · by_cases h2 : ltL b a
    · exact .inr h2
    · exact absurd (cast_inj (List.le_antisymm (List.not_lt.mp h2) (List.not_lt.mp h1))) h
theorem lotD_inj {a b : List Nat} (h : lotD a = lotD b) : a = b := by
  rw [lotD_ints, lotD_ints] at h
  injection h with h
  have : (a.map fun x : Nat => (x : Int)) = b.map fun x : Nat => (x : Int) := by
    have k : ∀ l m : List Int, l.map PyData.int = m.map PyData.int → l = m := fun l m e => by
      induction l generalizing m with
      | nil => cases m with
        | nil => rfl
        | cons _ _ => simp at e
      | cons x l ih =>
        cases m with
        | nil => simp at e
        | cons y m =>
          simp at e
          rw [e.1, ih _ e.2]
    exact k _ _ h
  exact cast_inj this
/-- the sorted row of lots that are told once -/
theorem sort_lots {M : List (List Nat)} (nd : M.Nodup) : ∃ L : List (List Nat), L.Pairwise ltL ∧ (∀ l, l ∈ L ↔ l ∈ M) ∧ sortD (M.map lotD) = L.map lotD := by
  classical
  have le : ∀ a b, (!PySem.W.dataLt (lotD b) (lotD a)) = true ↔ ¬ ltL b a := fun a b => by
    rw [Bool.not_eq_true', ← Bool.not_eq_true, lotD_lt]
  have s1 := List.pairwise_mergeSort (le := fun a b => !PySem.W.dataLt (lotD b) (lotD a)) (by
    intro a b c h1 h2
    rw [le] at h1 h2 ⊢
    intro h3
    by_cases e : b = c
    · subst e; exact h1 h3
    · rcases ltL_total b c e with h | h
      · exact h1 (ltL_trans h h3)
      · exact h2 h) (by
    intro a b
    rw [Bool.or_eq_true, le, le]
    by_cases h : ltL b a
    · exact .inr fun z => ltL_irrefl _ (ltL_trans z h)
    · exact .inl h) M
  have pm := List.mergeSort_perm M fun a b => !PySem.W.dataLt (lotD b) (lotD a)
  have nd2 := (pm.nodup_iff).mpr nd
  have st : (M.mergeSort fun a b => !PySem.W.dataLt (lotD b) (lotD a)).Pairwise ltL := (s1.and nd2).imp fun {a b} h => by
    rcases ltL_total a b h.2 with z | z
    · exact z
    · exact absurd z ((le a b).mp h.1)
  exact ⟨_, st, fun l => pm.mem_iff, sort_strict lotD_lt ltL_irrefl ltL_trans ltL_total pm.symm st⟩
/-! ### ponds -/
def keyN (l : List Nat) : List Key := l.map fun x : Nat => Sum.inl (x : Int)
theorem tupD_keyN (l : List Nat) : tupD (keyN l) = lotD l := by unfold tupD keyN lotD; rw [List.map_map]; rfl
theorem keyN_inj {a b : List Nat} (h : keyN a = keyN b) : a = b := lotD_inj (by rw [← tupD_keyN, ← tupD_keyN, h])
theorem onKey_lot {l : List Nat} {Q : List Key → Prop} : onKey (.val (.sh (lotD l))) Q = Q (keyN l) := by
  unfold onKey
  rw [R.fd_sh, lotD_ints]
  show (match keysOf ((l.map fun x : Nat => (x : Int)).map PyData.int) with
    | some k => Q k
    | none => False) = _
  rw [keysOf_ints, List.map_map]
  rfl
theorem putL_len (acc : List (List Key)) (k : List Key) : (putL acc k).length ≤ acc.length + 1 := by
  unfold putL
  split
  · omega
  · rw [List.length_append, List.length_singleton]; exact Nat.le_refl _
theorem dcRun_map {α : Type} {pat : DP} {tk tv : DT} {δ : DE} {Q : List (List Key) → Prop} (f : α → D) (k : α → List Key) : ∀ (xs : List α) (acc : List (List Key)), acc.length + xs.length ≤ sizeLine →
    (∀ x ∈ xs, ∀ P : List Key → Prop, P (k x) → pat (f x) δ fun δ' => tk δ' fun r => onKey r fun kk => tv δ' fun _ => P kk) →
    Q (xs.foldl (fun acc x => putL acc (k x)) acc) → dcRun pat dYes tk tv δ (xs.map f) acc Q
  | [], acc, _, _, h => h
  | x :: xs, acc, hz, st, h => by
    rw [List.length_cons] at hz
    refine st x List.mem_cons_self (fun kk => acc.length < sizeLine ∧ dcRun pat dYes tk tv δ (xs.map f) (putL acc kk) Q) ⟨by omega, ?_⟩
    refine dcRun_map f k xs _ ?_ (fun y m => st y (List.mem_cons_of_mem _ m)) h
    have := putL_len acc (k x)
    omega
theorem fold_put {α : Type} (g : α → List Nat) : ∀ (xs : List α) (M : List (List Nat)), M.Nodup → ∃ M' : List (List Nat), xs.foldl (fun acc x => putL acc (keyN (g x))) (M.map keyN) = M'.map keyN ∧ M'.Nodup ∧ (∀ l, l ∈ M' ↔ l ∈ M ∨ ∃ x ∈ xs, l = g x) ∧ M'.length ≤ M.length + xs.length
  | [], M, nd => ⟨M, rfl, nd, fun l => by simp, by simp⟩
  | x :: xs, M, nd => by
    rw [List.foldl_cons]
    by_cases h : g x ∈ M
    · have e : putL (M.map keyN) (keyN (g x)) = M.map keyN := by
        unfold putL
        rw [if_pos]
        rw [List.any_eq_true]
        exact ⟨keyN (g x), List.mem_map.mpr ⟨_, h, rfl⟩, by simp⟩
      rw [e]
      obtain ⟨M', h1, h2, h3, h4⟩ := fold_put g xs M nd
      refine ⟨M', h1, h2, fun l => ?_, by rw [List.length_cons]; omega⟩
      rw [h3]
      constructor
      · rintro (z | ⟨y, hy, rfl⟩)
        · exact .inl z
        · exact .inr ⟨y, List.mem_cons_of_mem _ hy, rfl⟩
      · rintro (z | ⟨y, hy, rfl⟩)
        · exact .inl z
        · rcases List.mem_cons.mp hy with rfl | hy
          · exact .inl h
          · exact .inr ⟨y, hy, rfl⟩
    · have e : putL (M.map keyN) (keyN (g x)) = (M ++ [g x]).map keyN := by
        unfold putL
        rw [if_neg, List.map_append]
        · rfl
        · intro z
          obtain ⟨q, m, e⟩ := List.any_eq_true.mp z
          obtain ⟨l, hl, rfl⟩ := List.mem_map.mp m
          have := keyN_inj (of_decide_eq_true e)
          exact h (this ▸ hl)
      rw [e]
      have nd' : (M ++ [g x]).Nodup := List.nodup_append.mpr ⟨nd, by simp, fun a m b m' q => by
        rw [List.mem_singleton.mp m'] at q
        exact h (q ▸ m)⟩
      obtain ⟨M', h1, h2, h3, h4⟩ := fold_put g xs (M ++ [g x]) nd'
      refine ⟨M', h1, h2, fun l => ?_, by rw [List.length_append, List.length_singleton] at h4; rw [List.length_cons]; omega⟩
      rw [h3, List.mem_append, List.mem_singleton]
      constructor
      · rintro ((z | rfl) | ⟨y, hy, rfl⟩)
        · exact .inl z
        · exact .inr ⟨x, List.mem_cons_self, rfl⟩
        · exact .inr ⟨y, List.mem_cons_of_mem _ hy, rfl⟩
      · rintro (z | ⟨y, hy, rfl⟩)
        · exact .inl (.inl z)
        · rcases List.mem_cons.mp hy with rfl | hy
          · exact .inl (.inr rfl)
          · exact .inr ⟨y, hy, rfl⟩
def pondL (n : Nat) (ps : List Pr) (x : Nat) : List Nat := (List.range n).filter fun y => le ps y x && le ps x y
def IsPonds (n : Nat) (ps : List Pr) (L : List (List Nat)) : Prop := L.Pairwise ltL ∧ ∀ l, l ∈ L ↔ ∃ x, x < n ∧ l = pondL n ps x
def g_ponds : Sg := pr (fun x : Nat × List Pr => [.sh (bookD x.1 x.2)]) (fun x => Hill x.1 x.2) (fun x dv => ∃ L, dv = .sh (.tuple (L.map lotD)) ∧ IsPonds x.1 x.2 L)
def n_ponds : List Str := ["hill", "below", "above", "x"]
def t_ponds : DS := dSeq2 (dExpr (dCall g_need_hill (dCons (dVar 0) (dNil)))) (dSeq2 (dUnp [1, 2] (dCons (dCall g_lows (dCons (dVar 0) (dNil))) (dCons (dCall g_highs (dCons (dVar 0) (dNil))) (dNil)))) (dRet (dCB (on1 fTuple) (dCons (dSortDC (dRange1 (dOpR fIx (dVar 0) (dC (.int 0)))) (gN 3) (dYes) (dCall g_lot_of (dCons (dOp fAnd (dOpR fIx (dVar 1) (dVar 3)) (dOpR fIx (dVar 2) (dVar 3))) (dNil))) (dC (.bool true)) [3]) (dNil)))))
theorem lots_ok {M : List (List Nat)} (h : ∀ l ∈ M, l ≠ []) : PySem.W.AllAlike (M.map lotD) ∧ PySem.W.Sortable (M.map lotD) := by
  refine ⟨fun d m d' m' => ?_, .inl fun d m => ?_⟩
  · obtain ⟨p, _, rfl⟩ := List.mem_map.mp m
    obtain ⟨q, _, rfl⟩ := List.mem_map.mp m'
    rw [lotD_ints, lotD_ints]
    exact PySem.W.alike_ints _ _
  · obtain ⟨p, hp, rfl⟩ := List.mem_map.mp m
    cases p with
    | nil => exact absurd rfl (h _ hp)
    | cons x p => exact ⟨_, _, rfl⟩
theorem p_ponds (ds : List DV) (Q : DV → Prop) (h : g_ponds ds Q) : t_ponds { nx := fun _ => Q (.sh .none), rt := Q } (startD n_ponds ds) := by
  obtain ⟨⟨n, ps⟩, rfl, G, q⟩ := h
  have u := G.good.hi
  simp at u
  have hs : (1000 : Nat) ≤ sizeLine := by decide
  simp [t_ponds, startD, n_ponds]
  refine pr_call (n, ps) rfl G ?_
  rintro dv rfl
  refine pr_call (n, ps) rfl G.good ?_
  rintro dv ⟨f, rfl, hf⟩
  refine pr_call (n, ps) rfl G.good ?_
  rintro dv ⟨g, rfl, hg⟩
  simp [bookD]
  refine ⟨small_n (by omega), ?_⟩
  rw [rangeD_nat]
  have bits : ∀ x, x < n → f x &&& g x < 1024 ∧ bitsOf (f x &&& g x) = pondL n ps x := fun x hx => by
    have hb : ∀ i, (f x &&& g x).testBit i = true ↔ le ps i x = true ∧ le ps x i = true := fun i => by
      rw [Nat.testBit_and, Bool.and_eq_true, hf x i hx, hg x i hx, le_iff, le_iff]
      constructor
      · rintro ⟨h1, h2⟩; exact ⟨h1, h2.elim (fun e => .inl e.symm) .inr⟩
      · rintro ⟨h1, h2⟩; exact ⟨h1, h2.elim (fun e => .inl e.symm) .inr⟩
    have lt : ∀ i, le ps i x = true → i < n := fun i h => by
      rcases le_iff.mp h with rfl | h
      · exact hx
      · exact (G.good.ok _ h).1
    have h1 : f x &&& g x < 1024 := lt_of_bits fun i hi => by
      have := lt i ((hb i).mp hi).1
      omega
    refine ⟨h1, nat_strict (bits_sorted _) ((range_sorted n).filter _) fun i => ?_⟩
    rw [mem_bits h1, hb]
    unfold pondL
    rw [List.mem_filter, List.mem_range, Bool.and_eq_true]
    exact ⟨fun z => ⟨lt i z.1, z⟩, fun z => z.2⟩
  refine dcRun_map (fun i : Nat => PyData.int i) (fun x => keyN (pondL n ps x)) (List.range n) [] (by simp; omega) (fun x m P hP => ?_) ?_
  · simp at m
    simp [natsD_at m]
    rw [band_nat]
    refine pr_call (f x &&& g x) rfl (bits x m).1 ?_
    rintro dv rfl
    rw [(bits x m).2, onKey_lot]
    exact hP
  · obtain ⟨M, e, nd, hM, hlen⟩ := fold_put (pondL n ps) (List.range n) [] List.nodup_nil
    rw [List.map_nil] at e
    rw [e]
    have e2 : (M.map keyN).map tupD = M.map lotD := by
      rw [List.map_map]
      exact List.map_congr_left fun l _ => tupD_keyN l
    rw [e2]
    have ne : ∀ l ∈ M, l ≠ [] := fun l m z => by
      rcases (hM l).mp m with h | ⟨x, hx, rfl⟩
      · cases h
      · have : x ∈ pondL n ps x := by
          unfold pondL
          rw [List.mem_filter]
          exact ⟨hx, by simp [le]⟩
        rw [z] at this
        cases this
    obtain ⟨L, s1, s2, s3⟩ := sort_lots nd
    rw [s3]
    refine ⟨⟨(lots_ok ne).1, (lots_ok ne).2, ?_⟩, ?_⟩
    · rw [List.length_map]
      rw [List.length_nil, List.length_range] at hlen
      omega
    · refine q _ ⟨L, rfl, s1, fun l => ?_⟩
      rw [s2, hM]
      simp
end HL
set_option Elab.async false
set_option linter.all false
set_option maxRecDepth 100000
set_option maxHeartbeats 1000000
namespace HL
open PySem PySem.Spec L2 DL
open PyProof.Rows hiding St
abbrev g__law_draw : Sg := gDraw
theorem draw_call {many : Int} {ds : List DV} {Q : DV → Prop} (e : ds = [.tok 0, .sh (.int many)]) (h : 0 < many ∧ many < 1073741824) (q : ∀ r : Int, 0 ≤ r → r < many → Q (.sh (.int r))) : g__law_draw ds Q := ⟨many, e, h, q⟩
theorem draw_nat {many : Nat} {ds : List DV} {Q : DV → Prop} (e : ds = [.tok 0, .sh (.int many)]) (h : 0 < many ∧ many < 1073741824) (q : ∀ r : Nat, r < many → Q (.sh (.int r))) : g__law_draw ds Q :=
  draw_call (many := (many : Int)) e (by omega) fun r h0 h1 => by
    obtain ⟨k, rfl⟩ : ∃ k : Nat, r = k := ⟨r.toNat, by omega⟩
    exact q k (by omega)
/-- a list or a tuple -/
def seqD (t : Bool) (ds : List D) : D := if t = true then .list ds else .tuple ds
def g__law_pick : Sg := pr (fun x : Bool × List D => [.tok 0, .sh (seqD x.1 x.2)]) (fun x => x.2 ≠ [] ∧ x.2.length < 1000000) (fun x dv => ∃ d ∈ x.2, dv = .sh d)
def n__law_pick : List Str := ["deck", "some"]
def t__law_pick : DS := dRet (dOpR fIx (dVar 1) (dCall g__law_draw (dCons (dVar 0) (dCons (dCB (on1 fLen) (dCons (dVar 1) (dNil))) (dNil)))))
theorem p__law_pick (ds : List DV) (Q : DV → Prop) (h : g__law_pick ds Q) : t__law_pick { nx := fun _ => Q (.sh .none), rt := Q } (startD n__law_pick ds) := by
  obtain ⟨⟨t, l⟩, rfl, ⟨h0, h1⟩, q⟩ := h
  have h2 : 0 < l.length := by
    cases l with
    | nil => exact absurd rfl h0
    | cons _ _ => simp
  have h1 : l.length < 1000000 := h1
  cases t with
  | false =>
    simp [t__law_pick, startD, n__law_pick, seqD]
    refine draw_nat rfl ⟨h2, by omega⟩ fun r hr => ?_
    simp
    rw [atI_get' hr]
    exact q _ ⟨_, List.getElem_mem hr, rfl⟩
  | true =>
    simp [t__law_pick, startD, n__law_pick, seqD]
    refine draw_nat rfl ⟨h2, by omega⟩ fun r hr => ?_
    simp
    rw [atI_get' hr]
    exact q _ ⟨_, List.getElem_mem hr, rfl⟩
def g__law_led : Sg := pr (fun x : Nat × List Pr × List Nat => [.sh (bookD x.1 x.2.1), .sh (lotD x.2.2)]) (fun x => Good x.1 x.2.1 ∧ Ren x.1 x.2.2) (fun x dv => dv = .sh (bookD x.1 (led x.1 x.2.1 x.2.2)))
def n__law_led : List Str := ["hill", "order", "a", "b"]
def t__law_led : DS := dRet (dTup (dCons (dOpR fIx (dVar 0) (dC (.int 0))) (dCons (dCB (on1 fTuple) (dCons (dCB (on1 fSorted) (dCons (dLc (dSeqQ (dOpR fIx (dVar 0) (dC (.int 1)))) (gT 2 (gsCons (gN 2) (gsCons (gN 3) (gsNil)))) (dYes) (dTup (dCons (dOpR fIx (dVar 1) (dVar 2)) (dCons (dOpR fIx (dVar 1) (dVar 3)) (dNil)))) [2, 3]) (dNil))) (dNil))) (dNil))))
theorem p__law_led (ds : List DV) (Q : DV → Prop) (h : g__law_led ds Q) : t__law_led { nx := fun _ => Q (.sh .none), rt := Q } (startD n__law_led ds) := by
  obtain ⟨⟨n, ps, xs⟩, rfl, ⟨G, r⟩, q⟩ := h
  have hl := book_len G
  simp at hl
  have hs : (100 : Nat) ≤ sizeLine := by decide
  simp [t__law_led, startD, n__law_led, bookD, lotD]
  intro _
  refine lcRun_map prD (fun p => DV.sh (prD (xs[p.1]?.getD 0, xs[p.2]?.getD 0))) ps (by omega) (fun p m P hP => ?_) ?_
  · obtain ⟨g1, g2, g3⟩ := G.ok p m
    obtain ⟨x, ex⟩ := r.at g1
    obtain ⟨y, ey⟩ := r.at g2
    simp only [ex, ey] at hP
    simp [prD, lotD_at ex, lotD_at ey] at hP ⊢
    exact hP
  · have e : ps.map (fun p => DV.sh (prD (xs[p.1]?.getD 0, xs[p.2]?.getD 0))) = ((ledL ps xs).map prD).map DV.sh := by unfold ledL; rw [List.map_map, List.map_map]; rfl
    rw [e]
    refine led_run G r ?_
    simp [-List.map_map]
    exact q _ rfl
def g__law_order : Sg := pr (fun n : Nat => [.tok 0, .sh (.int n)]) (fun n => n ≤ 10) (fun n dv => ∃ xs : List Nat, dv = .kt (xs.map fun x : Nat => .int x) ∧ Ren n xs)
def n__law_order : List Str := ["deck", "n", "left", "found", "turn"]
def t__law_order : DS := dSeq2 (dPar 2 3 (dCons (dListRg1 (dVar 1)) (dCons (dLst (dNil)) (dNil)))) (dSeq2 (dFor (dRange1 (dVar 1)) (gN 4) (dAppPop 3 2 (dCall g__law_draw (dCons (dVar 0) (dCons (dCB (on1 fLen) (dCons (dVar 2) (dNil))) (dNil)))))) (dRet (dCB (on1 fTupK) (dCons (dVar 3) (dNil)))))
theorem eraseIdx_perm {α : Type} : ∀ {l : List α} {k : Nat} {x : α}, l[k]? = some x → l.Perm (x :: l.eraseIdx k)
  | [], _, _, h => by cases h
  | a :: l, 0, x, h => by
    cases h
    exact .refl _
  | a :: l, k + 1, x, h => by
    have := eraseIdx_perm (l := l) (k := k) (x := x) (by simpa using h)
    rw [List.eraseIdx_cons_succ]
    exact (List.Perm.cons a this).trans (List.Perm.swap x a _)
theorem map_erase {α β : Type} (f : α → β) : ∀ (l : List α) (k : Nat), (l.map f).eraseIdx k = (l.eraseIdx k).map f
  | [], _ => rfl
  | a :: l, 0 => rfl
  | a :: l, k + 1 => by
    rw [List.map_cons, List.eraseIdx_cons_succ, List.eraseIdx_cons_succ, List.map_cons, map_erase f l k]
theorem noLsts_natl (l : List Nat) : noLsts (l.map fun x : Nat => PyData.int x) = true := noLsts_all fun d m => by
  obtain ⟨i, _, rfl⟩ := List.mem_map.mp m
  exact noLst_int _
theorem p__law_order (ds : List DV) (Q : DV → Prop) (h : g__law_order ds Q) : t__law_order { nx := fun _ => Q (.sh .none), rt := Q } (startD n__law_order ds) := by
  obtain ⟨n, rfl, hn, q⟩ := h
  have hs : (100 : Nat) ≤ sizeLine := by decide
  simp [t__law_order, startD, n__law_order]
  refine ⟨rgOk_n (by omega), small_n (by omega), ?_⟩
  rw [rangeD_nat]
  refine forRun_nat n (fun i δ => ∃ (l xs : List Nat) (y : Option DV), δ = [some (.tok 0), some (.sh (.int (n : Nat))), some (ownL (l.map fun x : Nat => PyData.int x)), some (ownL (xs.map fun x : Nat => PyData.int x)), y] ∧ (xs ++ l).Perm (List.range n) ∧ xs.length = i) (fun i δ hi hI N hN => ?_) (fun δ hI => ?_) ⟨List.range n, [], none, rfl, by simp, rfl⟩
  · obtain ⟨l, xs, y, rfl, hp, hx⟩ := hI
    have hlen : l.length = n - i := by have := hp.length_eq; simp at this; omega
    simp [-List.map_map]
    refine ⟨by omega, ?_⟩
    refine draw_nat (many := l.length) rfl (by omega) fun r hr => ?_
    simp [-List.map_map]
    refine ⟨by omega, ?_⟩
    have e : seqIndex? (r : Int) l.length = some r := by
      have := (ixN_seq (n := l.length) (i := (r : Int)) (j := r) (by simp [hr])).1
      exact this
    rw [e]
    have e2 : l[r]? = some l[r] := List.getElem?_eq_getElem hr
    simp [atSh, e2]
    have h := hN _ ⟨l.eraseIdx r, xs ++ [l[r]], some (.sh (.int (i : Nat))), rfl, ?_, by simp [hx]⟩
    · rw [map_erase]
      simpa [ownL] using h
    · have p1 := (List.Perm.append_left xs (eraseIdx_perm e2)).symm
      refine List.Perm.trans ?_ hp
      refine List.Perm.trans ?_ p1
      simp
  · obtain ⟨l, xs, y, rfl, hp, hx⟩ := hI
    have hlen : l = [] := by
      have := hp.length_eq
      simp at this
      exact List.eq_nil_of_length_eq_zero (by omega)
    subst hlen
    rw [List.append_nil] at hp
    simp [-List.map_map]
    rw [fTupK_b (noLsts_natl xs)]
    exact q _ ⟨xs, rfl, ⟨hp⟩⟩
end HL
set_option Elab.async false
set_option linter.all false
set_option maxRecDepth 100000
set_option maxHeartbeats 1000000
namespace HL
open PySem PySem.Spec L2 DL
open PyProof.Rows hiding St
/-! ### what is reached from each name -/
/-- by one pair at least -/
def Rch1 (ps : List Pr) (a x : Nat) : Prop := ∃ c, (a, c) ∈ ps ∧ Rch ps c x
open Classical in
noncomputable def rch1 (ps : List Pr) (a x : Nat) : Bool := decide (Rch1 ps a x)
open Classical in
theorem rch1_iff {ps : List Pr} {a x : Nat} : rch1 ps a x = true ↔ Rch1 ps a x := by unfold rch1; exact decide_eq_true_iff
theorem rch_head {ps : List Pr} {a b : Nat} (r : Rch ps a b) : a = b ∨ Rch1 ps a b := by
  induction r with
  | refl => exact .inl rfl
  | @step b c r m ih =>
    rcases ih with rfl | ⟨d, h1, h2⟩
    · exact .inr ⟨c, m, .refl⟩
    · exact .inr ⟨d, h1, .step h2 m⟩
theorem Rch1.rch {ps : List Pr} {a b : Nat} (h : Rch1 ps a b) : Rch ps a b := by
  obtain ⟨c, h1, h2⟩ := h
  exact Rch.trans (.step .refl h1) h2
theorem rch1_reach {ps : List Pr} {a b : Nat} (ne : a ≠ b) : rch1 ps a b = reach ps a b := by
  rw [Bool.eq_iff_iff, rch1_iff, reach_iff]
  exact ⟨Rch1.rch, fun r => (rch_head r).resolve_left ne⟩
def stepsL (ps : List Pr) (a : Nat) : List Nat := (ps.filter fun p => decide (p.1 = a)).map (·.2)
theorem mem_steps {ps : List Pr} {a c : Nat} : c ∈ stepsL ps a ↔ (a, c) ∈ ps := by
  unfold stepsL
  rw [List.mem_map]
  constructor
  · rintro ⟨p, h, rfl⟩
    obtain ⟨h1, h2⟩ := List.mem_filter.mp h
    have : p.1 = a := of_decide_eq_true h2
    rw [← this]; exact h1
  · intro h
    exact ⟨(a, c), List.mem_filter.mpr ⟨h, by simp⟩, rfl⟩
/-- the search's state: what is met, what is to be done; t turns are done -/
structure DInv (n : Nat) (ps : List Pr) (a t : Nat) (met : Nat → Bool) (todo : List Nat) : Prop where
  ok : ∀ x ∈ todo, x < n
  sound : ∀ x, met x = true → Rch1 ps a x
  soundT : ∀ x ∈ todo, Rch1 ps a x
  first : ∀ c, (a, c) ∈ ps → met c = true ∨ c ∈ todo
  next : ∀ x c, met x = true → (x, c) ∈ ps → met c = true ∨ c ∈ todo
  pot : t + todo.length + (ps.filter fun p => !met p.1).length ≤ (stepsL ps a).length + ps.length
def upB (m : Nat → Bool) (k : Nat) : Nat → Bool := fun x => if x = k then true else m x
theorem DInv.start {n : Nat} {ps : List Pr} {a : Nat} (h : ∀ p ∈ ps, p.2 < n) : DInv n ps a 0 (fun _ => false) (stepsL ps a) :=
  ⟨fun x m => h _ (mem_steps.mp m), fun x h => (by cases h), fun x m => ⟨x, mem_steps.mp m, .refl⟩, fun c m => .inr (mem_steps.mpr m), fun x c h => (by cases h), by
    have := List.length_filter_le (fun p : Pr => !false) ps
    omega⟩
theorem DInv.skip {n : Nat} {ps : List Pr} {a t x : Nat} {met : Nat → Bool} {todo : List Nat} (h : DInv n ps a t met (todo ++ [x])) (m : met x = true) : DInv n ps a (t + 1) met todo := by
  refine ⟨fun y hy => h.ok y (List.mem_append_left _ hy), h.sound, fun y hy => h.soundT y (List.mem_append_left _ hy), fun c hc => ?_, fun y c hy hc => ?_, ?_⟩
  · rcases h.first c hc with z | z
    · exact .inl z
    · rcases List.mem_append.mp z with z | z
      · exact .inr z
      · rw [List.mem_singleton.mp z]; exact .inl m
  · rcases h.next y c hy hc with z | z
    · exact .inl z
    · rcases List.mem_append.mp z with z | z
      · exact .inr z
      · rw [List.mem_singleton.mp z]; exact .inl m
  · have := h.pot
    rw [List.length_append, List.length_singleton] at this
    omega
theorem split_unmet (ps : List Pr) (met : Nat → Bool) {x : Nat} (m : met x = false) : (ps.filter fun p => !met p.1).length = (ps.filter fun p => !upB met x p.1).length + (ps.filter fun p => decide (p.1 = x)).length := by
  induction ps with
  | nil => rfl
  | cons p ps ih =>
    rw [List.filter_cons, List.filter_cons, List.filter_cons]
    unfold upB at ih ⊢
    by_cases e : p.1 = x
    · simp [e, m] at ih ⊢
      omega
    · by_cases k : met p.1 = true
      · simp [e, k] at ih ⊢
        omega
      · simp [e, k] at ih ⊢
        omega
theorem DInv.meet {n : Nat} {ps : List Pr} {a t x : Nat} {met : Nat → Bool} {todo : List Nat} (hp : ∀ p ∈ ps, p.2 < n) (h : DInv n ps a t met (todo ++ [x])) (m : met x = false) : DInv n ps a (t + 1) (upB met x) (todo ++ stepsL ps x) := by
  have rx : Rch1 ps a x := h.soundT x (by simp)
  refine ⟨fun y hy => ?_, fun y hy => ?_, fun y hy => ?_, fun c hc => ?_, fun y c hy hc => ?_, ?_⟩
  · rcases List.mem_append.mp hy with z | z
    · exact h.ok y (List.mem_append_left _ z)
    · exact hp _ (mem_steps.mp z)
  · unfold upB at hy
    by_cases e : y = x
    · subst e; exact rx
    · rw [if_neg e] at hy
      exact h.sound y hy
  · rcases List.mem_append.mp hy with z | z
    · exact h.soundT y (List.mem_append_left _ z)
    · obtain ⟨c, h1, h2⟩ := rx
      exact ⟨c, h1, .step h2 (mem_steps.mp z)⟩
  · by_cases e : c = x
    · exact .inl (by unfold upB; rw [if_pos e])
    · rcases h.first c hc with z | z
      · exact .inl (by unfold upB; rw [if_neg e]; exact z)
      · rcases List.mem_append.mp z with z | z
        · exact .inr (List.mem_append_left _ z)
        · exact absurd (List.mem_singleton.mp z) e
  · by_cases e : c = x
    · exact .inl (by unfold upB; rw [if_pos e])
    · unfold upB at hy
      by_cases ey : y = x
      · subst ey
        exact .inr (List.mem_append_right _ (mem_steps.mpr hc))
      · rw [if_neg ey] at hy
        rcases h.next y c hy hc with z | z
        · exact .inl (by unfold upB; rw [if_neg e]; exact z)
        · rcases List.mem_append.mp z with z | z
          · exact .inr (List.mem_append_left _ z)
          · exact absurd (List.mem_singleton.mp z) e
  · have h1 := h.pot
    have h2 := split_unmet ps met m
    have h3 : (stepsL ps x).length = (ps.filter fun p => decide (p.1 = x)).length := by unfold stepsL; rw [List.length_map]
    rw [List.length_append, List.length_singleton] at h1
    rw [List.length_append]
    omega
theorem DInv.done {n : Nat} {ps : List Pr} {a t : Nat} {met : Nat → Bool} (h : DInv n ps a t met []) (x : Nat) : met x = rch1 ps a x := by
  rw [Bool.eq_iff_iff, rch1_iff]
  refine ⟨h.sound x, fun ⟨c, h1, h2⟩ => ?_⟩
  have key : ∀ y, Rch ps c y → met y = true := fun y r => by
    induction r with
    | refl => exact (h.first c h1).resolve_right (by simp)
    | step _ m ih => exact (h.next _ _ ih m).resolve_right (by simp)
  exact key x h2
def boolsD (n : Nat) (m : Nat → Bool) : List D := (List.range n).map fun x => .bool (m x)
theorem boolsD_len (n : Nat) (m : Nat → Bool) : (boolsD n m).length = n := by unfold boolsD; simp
theorem boolsD_at {n : Nat} {m : Nat → Bool} {b : Nat} (h : b < n) : atI (boolsD n m) (b : Int) = some (.bool (m b)) := atI_nat (by unfold boolsD; simp [h])
theorem boolsD_own {n : Nat} {m : Nat → Bool} {b : Nat} (h : b < n) : ((boolsD n m).map DV.sh).set b (.sh (.bool true)) = (boolsD n (upB m b)).map DV.sh := by
  rw [set_own]
  congr 1
  unfold boolsD upB
  refine List.ext_getElem (by simp) fun i h1 h2 => ?_
  rw [List.getElem_set]
  by_cases e : b = i
  · subst e; simp
  · rw [if_neg e]
    simp [Ne.symm e]
theorem fzs_owns {α : Type} (F : α → List D) : ∀ l : List α, DV.fzs (l.map fun a => DV.own ((F a).map DV.sh)) = some (l.map fun a => .list (F a))
  | [] => rfl
  | a :: l => by rw [List.map_cons, DV.fzs, fz_own, fzs_owns F l]; rfl
theorem onV_owns {α : Type} {Q : R → Prop} (F : α → List D) (l : List α) : onV (some (some (.own (l.map fun a => DV.own ((F a).map DV.sh))))) Q = Q (.br (.list (l.map fun a => .list (F a)))) := by
  show (match DV.fzs (l.map fun a => DV.own ((F a).map DV.sh)) with | some ds => Q (.br (.list ds)) | none => False) = _
  rw [fzs_owns]
def natL (l : List Nat) : List D := l.map fun x : Nat => .int x
theorem noLsts_natL (l : List Nat) : noLsts (natL l) = true := noLsts_natl l
theorem natL_len (l : List Nat) : (natL l).length = l.length := by unfold natL; simp
theorem natL_app (l m : List Nat) : natL (l ++ m) = natL l ++ natL m := by unfold natL; rw [List.map_append]
theorem lastSh_natL (l : List Nat) (x : Nat) (k : D → Prop) : lastSh ((natL (l ++ [x])).map DV.sh) k = k (.int x) := by
  unfold lastSh
  have : ((natL (l ++ [x])).map DV.sh)[((natL (l ++ [x])).map DV.sh).length - 1]? = some (.sh (.int x)) := by
    rw [natL_app, List.map_append]
    simp [natL]
  rw [this]
theorem drop_natL (l : List Nat) (x : Nat) : ((natL (l ++ [x])).map DV.sh).dropLast = (natL l).map DV.sh := by
  rw [natL_app, List.map_append]
  simp [natL]
theorem rEqv_nil : rEqv (.list (natL [])) (.list []) = true := by rfl
theorem rEqv_app (l : List Nat) (x : Nat) : rEqv (.list (natL (l ++ [x]))) (.list []) = false := by
  cases l <;> rfl
theorem fMul_rep {d : D} {n : Nat} (h : n ≤ 1000) {Q : R → Prop} (q : Q (.val (.own ((List.replicate n d).map DV.sh)))) : fMul (.val (.own [.sh d])) (.val (.sh (.int (n : Nat)))) Q := by
  have e : (R.val (.own [DV.sh d])).sup = some (.list [d]) := sup_own [d]
  unfold fMul
  rw [e]
  simp only [R.sup_sh]
  have hs : (1000 : Nat) ≤ sizeLine := by decide
  refine ⟨⟨by omega, by omega, by simp; omega⟩, ?_⟩
  have e2 : (List.replicate (n : Int).toNat [d]).flatten = List.replicate n d := by
    simp only [Int.toNat_natCast]
    clear q h e
    induction n with
    | zero => rfl
    | succ n ih => rw [List.replicate_succ, List.flatten_cons, ih]; rfl
  rw [e2]
  exact q
theorem bools_false (n : Nat) : List.replicate n (PyData.bool false) = boolsD n fun _ => false := by
  unfold boolsD
  rw [List.map_const']
  simp
def stepsD (n : Nat) (ps : List Pr) : DV := .own ((List.range n).map fun a => DV.own ((natL (stepsL ps a)).map DV.sh))
def reachD (n : Nat) (r : Nat → Nat → Bool) : List D := (List.range n).map fun a => .list (boolsD n (r a))
def g__law_reached : Sg := pr (fun x : Nat × Bool × List Pr => [.sh (.int x.1), .sh (if x.2.1 then .tuple (x.2.2.map prD) else .list (x.2.2.map prD))]) (fun x => x.1 ≤ 10 ∧ (∀ p ∈ x.2.2, p.1 < x.1 ∧ p.2 < x.1) ∧ ∀ a, (stepsL x.2.2 a).length + x.2.2.length < 120) (fun x dv => dv = ownL (reachD x.1 (rch1 x.2.2)))
def n__law_reached : List Str := ["n", "pairs", "steps", "found", "at", "met", "todo", "turn", "near", "a", "b"]
def t__law_reached : DS := dSeq2 (dSet 2 (dLc (dRange1 (dVar 0)) (gN 4) (dYes) (dLc (dSeqQ (dVar 1)) (gT 2 (gsCons (gN 9) (gsCons (gN 10) (gsNil)))) (dTest (dOp (fRel sDep rEqv) (dVar 9) (dVar 4))) (dVar 10) [9, 10]) [4])) (dSeq2 (dSet 3 (dLst (dNil))) (dSeq2 (dFor (dRange1 (dVar 0)) (gN 4) (dSeq2 (dPar 5 6 (dCons (dOpR fMul (dLst (dCons (dC (.bool false)) (dNil))) (dVar 0)) (dCons (dCB (on1 fList) (dCons (dOpR fIx (dVar 2) (dVar 4)) (dNil))) (dNil)))) (dSeq2 (dFor (dRange1 (dC (.int 120))) (gN 7) (dSeq2 (dIfS (dTest (dOp (fRel sDep rEqv) (dVar 6) (dLst (dNil)))) (dBrk) (dNext)) (dSeq2 (dPop 8 6) (dIfS (dNot (dTest (dOpR fIx (dVar 5) (dVar 8)))) (dSeq2 (dSetIx 5 (dVar 8) (dC (.bool true))) (dExtend 6 (dOpR fIx (dVar 2) (dVar 8)))) (dNext))))) (dFrz 5 (dAppend 3 (dVar 5)))))) (dRetV 3)))
theorem p__law_reached (ds : List DV) (Q : DV → Prop) (h : g__law_reached ds Q) : t__law_reached { nx := fun _ => Q (.sh .none), rt := Q } (startD n__law_reached ds) := by
  obtain ⟨⟨n, tb, ps⟩, rfl, ⟨hn, hp, hpot⟩, q⟩ := h
  simp at hn hp hpot
  have hl : ps.length < 120 := by have := hpot 0; omega
  have hs : (1000 : Nat) ≤ sizeLine := by decide
  obtain ⟨pd, epd⟩ : ∃ pd : D, pd = (if tb = true then PyData.tuple (ps.map prD) else .list (ps.map prD)) := ⟨_, rfl⟩
  have hsup : R.sup (.val (.sh pd)) = some pd ∧ seqOf pd = some (ps.map prD) := by
    refine ⟨R.sup_sh _, ?_⟩
    rw [epd]
    cases tb <;> rfl
  simp [t__law_reached, startD, n__law_reached]
  rw [← epd]
  refine ⟨small_n (by omega), ?_⟩
  rw [rangeD_nat]
  refine lcRun_map (fun i : Nat => PyData.int i) (fun a => DV.own ((natL (stepsL ps a)).map DV.sh)) _ (by simp; omega) (fun x m P hP => ?_) ?_
  · simp [hsup.2]
    intro _
    refine lcRun_fn prD (fun p => if decide (p.1 = x) = true then some (DV.sh (.int (p.2 : Nat))) else none) ps [] (by simp; omega) (fun p m P' hP' => ?_) ?_
    · simp [prD]
      by_cases e : p.1 = x
      · have e' : ((p.1 : Int) = x) := by omega
        simp [e] at hP' ⊢
        exact hP'
      · have e' : ¬ ((p.1 : Int) = x) := by omega
        simp [e] at hP'
        simp [e']
        exact hP'
    · simp only [List.nil_append]
      rw [filterMap_if (fun p : Pr => decide (p.1 = x)) (fun p : Pr => DV.sh (.int (p.2 : Nat)))]
      have e : (ps.filter fun p => decide (p.1 = x)).map (fun p : Pr => DV.sh (.int (p.2 : Nat))) = (natL (stepsL ps x)).map DV.sh := by unfold natL stepsL; rw [List.map_map, List.map_map]; rfl
      rw [e]
      exact hP
  · refine ⟨small_n (by omega), ?_⟩
    refine forRun_nat n (fun i δ => ∃ x4 x5 x6 x7 x8, δ = [some (DV.sh (PyData.int ↑n)), some (DV.sh pd), some (stepsD n ps), some (ownL ((List.range i).map fun a => .list (boolsD n (rch1 ps a)))), x4, x5, x6, x7, x8, none, none]) (fun a δ ha hI N hN => ?_) (fun δ hI => ?_) ⟨none, none, none, none, none, rfl⟩
    · obtain ⟨x4, x5, x6, x7, x8, rfl⟩ := hI
      simp [stepsD, onV_owns, -List.map_map]
      refine fMul_rep (by omega) ?_
      rw [bools_false]
      have ats : atI ((List.range n).map fun a => PyData.list (natL (stepsL ps a))) (a : Int) = some (.list (natL (stepsL ps a))) := atI_nat (by simp [ha])
      simp [onV_owns, ats, -List.map_map]
      rw [fList_b (noLsts_natL _)]
      simp [-List.map_map]
      have e120 : rangeD 0 120 = (List.range 120).map fun i : Nat => PyData.int i := rangeD_nat 120
      refine ⟨by unfold small; omega, ?_⟩
      rw [e120]
      have done : ∀ (t : Nat) (met : Nat → Bool) (x6 x7 x8 : Option DV), DInv n ps a t met [] → a < sizeLine ∧ N [some (DV.sh (PyData.int ↑n)), some (DV.sh pd), some (stepsD n ps), some (DV.own (List.map DV.sh ((List.range a).map fun a => .list (boolsD n (rch1 ps a))) ++ [DV.sh (.list (boolsD n met))])), some (.sh (.int (a : Nat))), some (.sh (.list (boolsD n met))), x6, x7, x8, none, none] := by
        intro t met x6 x7 x8 inv
        refine ⟨by omega, ?_⟩
        have e : boolsD n met = boolsD n (rch1 ps a) := by
          unfold boolsD
          exact List.map_congr_left fun x _ => by rw [inv.done x]
        have h := hN _ ⟨some (.sh (.int (a : Nat))), some (.sh (.list (boolsD n (rch1 ps a)))), x6, x7, x8, rfl⟩
        rw [List.range_succ, List.map_append] at h
        rw [e, app_own]
        exact h
      refine forRun_nat 120 (fun t δ => ∃ met todo x7 x8, δ = [some (DV.sh (PyData.int ↑n)), some (DV.sh pd), some (stepsD n ps), some (ownL ((List.range a).map fun a => .list (boolsD n (rch1 ps a)))), some (.sh (.int (a : Nat))), some (ownL (boolsD n met)), some (ownL (natL todo)), x7, x8, none, none] ∧ DInv n ps a t met todo)
        (fun t δ ht hJ M hM => ?_) (fun δ hJ => ?_) ⟨fun _ => false, stepsL ps a, x7, x8, rfl, .start fun p m => (hp p.1 p.2 m).2⟩
      · obtain ⟨met, todo, x7, x8, rfl, inv⟩ := hJ
        rcases List.eq_nil_or_concat todo with rfl | ⟨l, x, rfl⟩
        · simp [rEqv_nil, -List.map_map]
          exact done t met _ _ _ inv
        · rw [List.concat_eq_append] at inv ⊢
          have hx := inv.ok x (by simp)
          simp [rEqv_app, lastSh_natL, drop_natL, -List.map_map]
          simp [boolsD_at hx, -List.map_map]
          by_cases m : met x = true
          · simp [m, -List.map_map]
            exact hM _ ⟨met, l, _, _, rfl, inv.skip m⟩
          · have m' : met x = false := by simpa using m
            simp [m', boolsD_len, hx, stepsD, onV_owns, -List.map_map]
            have atx : atI ((List.range n).map fun a => PyData.list (natL (stepsL ps a))) (x : Int) = some (.list (natL (stepsL ps x))) := atI_nat (by simp [hx])
            simp [atx, natL_len, sup_br, noLsts_natL, -List.map_map]
            have b1 := inv.pot
            have b2 := hpot a
            have b3 := hpot x
            rw [List.length_append, List.length_singleton] at b1
            refine ⟨by omega, ?_⟩
            have h := hM _ ⟨upB met x, l ++ stepsL ps x, some (.sh (.int (t : Nat))), some (.sh (.int (x : Nat))), rfl, inv.meet (fun p m => (hp p.1 p.2 m).2) m'⟩
            rw [natL_app] at h
            unfold ownL at h
            rw [List.map_append, ← boolsD_own hx] at h
            exact h
      · obtain ⟨met, todo, x7, x8, rfl, inv⟩ := hJ
        have := inv.pot
        have := hpot a
        omega
    · obtain ⟨x4, x5, x6, x7, x8, rfl⟩ := hI
      simp [-List.map_map]
      exact q _ rfl
def g__law_closed : Sg := pr (fun x : Nat × List Pr => [.sh (.int x.1), .sh (.list (x.2.map prD))]) (fun x => x.1 ≤ 10 ∧ (∀ p ∈ x.2, p.1 < x.1 ∧ p.2 < x.1) ∧ x.2.length < 60) (fun x dv => dv = .sh (bookD x.1 (clo x.1 x.2)))
def n__law_closed : List Str := ["n", "pairs", "met", "found", "a", "b"]
def t__law_closed : DS := dSeq2 (dUnp [2, 3] (dCons (dCall g__law_reached (dCons (dVar 0) (dCons (dVar 1) (dNil)))) (dCons (dLst (dNil)) (dNil)))) (dSeq2 (dFor (dRange1 (dVar 0)) (gN 4) (dExtend 3 (dLc (dRange1 (dVar 0)) (gN 5) (dAnd (dTest (dOp (fRel sDep fun d e => !rEqv d e) (dVar 5) (dVar 4))) (dTest (dOpR fIx (dOpR fIx (dVar 2) (dVar 4)) (dVar 5)))) (dTup (dCons (dVar 4) (dCons (dVar 5) (dNil)))) [5]))) (dRet (dTup (dCons (dVar 0) (dCons (dCB (on1 fTuple) (dCons (dVar 3) (dNil))) (dNil))))))
theorem reachD_at {n : Nat} {r : Nat → Nat → Bool} {a : Nat} (h : a < n) : atI (reachD n r) (a : Int) = some (.list (boolsD n (r a))) := atI_nat (by unfold reachD; simp [h])
theorem steps_len (ps : List Pr) (a : Nat) : (stepsL ps a).length ≤ ps.length := by
  unfold stepsL
  rw [List.length_map]
  exact List.length_filter_le _ _
theorem p__law_closed (ds : List DV) (Q : DV → Prop) (h : g__law_closed ds Q) : t__law_closed { nx := fun _ => Q (.sh .none), rt := Q } (startD n__law_closed ds) := by
  obtain ⟨⟨n, ps⟩, rfl, ⟨hn, hp, hl⟩, q⟩ := h
  simp at hn hp hl
  have hs : (1000 : Nat) ≤ sizeLine := by decide
  simp [t__law_closed, startD, n__law_closed]
  refine pr_call (n, false, ps) rfl ⟨hn, fun p m => hp p.1 p.2 m, fun a => ?_⟩ ?_
  · have := steps_len ps a
    simp
    omega
  · rintro dv rfl
    simp
    refine ⟨small_n (by omega), ?_⟩
    rw [rangeD_nat]
    have fin := q _ rfl
    refine forRun_nat n (fun i δ => ∃ x4 x5, δ = [some (DV.sh (PyData.int ↑n)), some (DV.sh (.list (ps.map prD))), some (ownL (reachD n (rch1 ps))), some (ownL (((List.range i).flatMap fun a => ((List.range n).filter fun b => decide (a ≠ b) && rch1 ps a b).map fun b => prD (a, b)))), x4, x5]) (fun a δ ha hI N hN => ?_) (fun δ hI => ?_) ⟨none, none, rfl⟩
    · obtain ⟨x4, x5, rfl⟩ := hI
      have hlen : (((List.range a).flatMap fun a => ((List.range n).filter fun b => decide (a ≠ b) && rch1 ps a b).map fun b => prD (a, b))).length ≤ a * 10 := by
        have := flatMap_len (k := 10) (f := fun a => ((List.range n).filter fun b => decide (a ≠ b) && rch1 ps a b).map fun b => prD (a, b)) (fun a => by
          rw [List.length_map]
          refine Nat.le_trans (List.length_filter_le _ _) ?_
          simpa using hn) (List.range a)
        simpa using this
      have hstep : ((List.range (a + 1)).flatMap fun a => ((List.range n).filter fun b => decide (a ≠ b) && rch1 ps a b).map fun b => prD (a, b)) = ((List.range a).flatMap fun a => ((List.range n).filter fun b => decide (a ≠ b) && rch1 ps a b).map fun b => prD (a, b)) ++ ((List.range n).filter fun b => decide (a ≠ b) && rch1 ps a b).map fun b => prD (a, b) := by
        rw [List.range_succ, List.flatMap_append]; simp
      generalize ((List.range a).flatMap fun a => ((List.range n).filter fun b => decide (a ≠ b) && rch1 ps a b).map fun b => prD (a, b)) = A at hlen hstep
      simp [-List.map_map]
      refine ⟨small_n (by omega), ?_⟩
      rw [rangeD_nat]
      refine lcRun_fn (fun i : Nat => PyData.int i) (fun b => if (decide (a ≠ b) && rch1 ps a b) = true then some (DV.sh (prD (a, b))) else none) _ [] (by simp; omega) (fun b mb P hP => ?_) ?_
      · simp at mb
        simp [reachD_at ha, boolsD_at mb]
        by_cases e : a = b
        · subst e
          simp at hP ⊢
          exact hP
        · have e' : ¬ ((b : Int) = a) := by omega
          by_cases c : rch1 ps a b = true
          · simp [e, c] at hP
            simp [e', c]
            simpa [prD] using hP
          · simp [e, c] at hP
            simp [e', c]
            exact hP
      · simp only [List.nil_append]
        rw [filterMap_if (fun b => decide (a ≠ b) && rch1 ps a b) (fun b => DV.sh (prD (a, b)))]
        refine ⟨?_, ?_⟩
        · rw [List.length_map]
          have h1 : ((List.range n).filter fun b => decide (a ≠ b) && rch1 ps a b).length ≤ n := by
            have := List.length_filter_le (fun b => decide (a ≠ b) && rch1 ps a b) (List.range n)
            simpa using this
          omega
        · have h := hN _ ⟨some (.sh (.int (a : Nat))), x5, rfl⟩
          rw [hstep] at h
          unfold ownL at h
          rw [List.map_append, List.map_map (f := fun b => prD (a, b))] at h
          exact h
    · obtain ⟨x4, x5, rfl⟩ := hI
      have e : ((List.range n).flatMap fun a => ((List.range n).filter fun b => decide (a ≠ b) && rch1 ps a b).map fun b => prD (a, b)) = (clo n ps).map prD := by
        unfold clo
        rw [← prs_congr (fun a b _ _ ne => rch1_reach ne)]
        unfold prs
        rw [List.map_flatMap]
        refine flatMap_eq fun a _ => ?_
        rw [List.map_map]; rfl
      rw [e]
      simp [-List.map_map]
      rw [fTuple_b (noLsts_prs _)]
      simp [-List.map_map]
      exact fin
end HL
set_option Elab.async false
set_option linter.all false
set_option maxRecDepth 100000
set_option maxHeartbeats 4000000
namespace HL
open PySem PySem.Spec L2 DL
open PyProof.Rows hiding St
/-! ### a drawn hill -/
theorem rel_prs {α : Type} {ok : Pr → Prop} {xs : List α} {os : List (Option DV)} (h : Paired (fun (_ : α) (o : Option DV) => (∃ p, ok p ∧ o = some (.sh (prD p))) ∨ o = none) xs os) : ∃ ps : List Pr, os.filterMap id = (ps.map prD).map DV.sh ∧ (∀ p ∈ ps, ok p) ∧ ps.length ≤ xs.length := by
  induction h with
  | nil => exact ⟨[], rfl, (fun _ m => by cases m), by simp⟩
  | @cons x o xs os r t ih =>
    obtain ⟨ps, e, hp, hl⟩ := ih
    rcases r with ⟨p, h, rfl⟩ | rfl
    · refine ⟨p :: ps, ?_, fun q m => ?_, by simp; omega⟩
      · rw [List.filterMap_cons]
        simp only [id]
        rw [e]; rfl
      · rcases List.mem_cons.mp m with rfl | m
        · exact h
        · exact hp q m
    · exact ⟨ps, by rw [List.filterMap_cons]; simp only [id]; exact e, hp, by simp; omega⟩
theorem lcP {α : Type} {pat : DP} {tst : DB} {elt : DT} {δ : DE} {Q : List DV → Prop} {ok : Pr → Prop} (f : α → D) (xs : List α) (hz : xs.length ≤ sizeLine)
    (st : ∀ x ∈ xs, ∀ P : Option DV → Prop, (∀ p, ok p → P (some (.sh (prD p)))) → P none → pat (f x) δ fun δ' => tst δ' fun k => if k = true then elt δ' fun r => (match r.fx with | some dv => P (some dv) | none => False) else P none)
    (h : ∀ ps : List Pr, (∀ p ∈ ps, ok p) → ps.length ≤ xs.length → Q ((ps.map prD).map DV.sh)) : lcRun pat tst elt δ (xs.map f) [] Q := by
  refine lcRun_rel f (fun _ o => (∃ p, ok p ∧ o = some (.sh (prD p))) ∨ o = none) xs [] (by simpa using hz) (fun x m P hP => st x m P (fun p hp => hP _ (.inl ⟨p, hp, rfl⟩)) (hP _ (.inr rfl))) fun os p => ?_
  obtain ⟨ps, e, hp, hl⟩ := rel_prs p
  simp only [List.nil_append]
  rw [e]
  exact h ps hp hl
theorem rangeD_sub (lo hi : Nat) : rangeD (lo : Int) (hi : Int) = (List.range (hi - lo)).map fun i : Nat => PyData.int ((lo + i : Nat) : Int) := by
  unfold rangeD
  have : ((hi : Int) - lo).toNat = hi - lo := by omega
  rw [this]
  refine List.map_congr_left fun i _ => ?_
  simp
theorem rangeD_any (hi : Int) : rangeD 0 hi = (List.range hi.toNat).map fun i : Nat => PyData.int i := by
  unfold rangeD
  simp
theorem mul25 : ∀ k, k ≤ 10 → ∀ j, j ≤ 10 → k + j ≤ 10 → k * j ≤ 25 := by decide
theorem rangeD_pred (n : Nat) (h : 1 ≤ n) : rangeD 0 ((n : Int) - 1) = (List.range (n - 1)).map fun i : Nat => PyData.int i := by
  have : (n : Int) - 1 = ((n - 1 : Nat) : Int) := by omega
  rw [this, rangeD_nat]
@[simp] theorem fMinT_2 (g : Int → List Int → Int) (a b : Int) {Q : R → Prop} : fMinT g (.val (.sh (.tuple [.int a, .int b]))) Q = Q (.val (.sh (.int (g a [b])))) := by
  unfold fMinT
  rw [R.rd_sh]
  rfl
def g__law_hill : Sg := pr (fun n : Nat => [.tok 0, .sh (.int n)]) (fun n => 1 ≤ n ∧ n ≤ 10) (fun n dv => ∃ ps, Hill n ps ∧ dv = .sh (bookD n ps))
def n__law_hill : List Str := ["deck", "n", "way", "pairs", "low", "a", "size", "wide", "part", "hill", "turn", "pair", "at", "b"]
def t__law_hill : DS := dSeq2 (dPar 2 3 (dCons (dCall g__law_draw (dCons (dVar 0) (dCons (dC (.int 9)) (dNil)))) (dCons (dLst (dNil)) (dNil)))) (dSeq2 (dIfS (dTest (dOp (fRel sLt rLtD) (dVar 2) (dC (.int 2)))) (dSeq2 (dSet 3 (dLc (dRange1 (dCall g__law_draw (dCons (dVar 0) (dCons (dOpR fMul (dC (.int 2)) (dVar 1)) (dNil))))) (gN 10) (dYes) (dTup (dCons (dCall g__law_draw (dCons (dVar 0) (dCons (dVar 1) (dNil)))) (dCons (dCall g__law_draw (dCons (dVar 0) (dCons (dVar 1) (dNil)))) (dNil)))) [10])) (dIfS (dTest (dOp (fRel sDep rEqv) (dVar 2) (dC (.int 1)))) (dSet 3 (dLc (dSeqQ (dVar 3)) (gN 11) (dYes) (dTup (dCons (dCB (on1 (fMinT fun n ns => ns.foldl min n)) (dCons (dVar 11) (dNil))) (dCons (dCB (on1 (fMinT fun n ns => ns.foldl max n)) (dCons (dVar 11) (dNil))) (dNil)))) [11])) (dNext))) (dIfS (dTest (dOp (fRel sDep rEqv) (dVar 2) (dC (.int 2)))) (dSet 3 (dLc (dRange1 (dOp fSub (dVar 1) (dC (.int 1)))) (gN 12) (dYes) (dTup (dCons (dVar 12) (dCons (dOpR fAdd (dVar 12) (dC (.int 1))) (dNil)))) [12])) (dIfS (dTest (dOp (fRel sDep rEqv) (dVar 2) (dC (.int 3)))) (dSet 3 (dLc (dRange1 (dOp fSub (dVar 1) (dC (.int 1)))) (gN 12) (dTest (dOp (fRel sLt fun d e => rLtD e d) (dCall g__law_draw (dCons (dVar 0) (dCons (dC (.int 4)) (dNil)))) (dC (.int 0)))) (dTup (dCons (dVar 12) (dCons (dOpR fAdd (dOpR fAdd (dVar 12) (dC (.int 1))) (dCall g__law_draw (dCons (dVar 0) (dCons (dOp fSub (dOp fSub (dVar 1) (dVar 12)) (dC (.int 1))) (dNil))))) (dNil)))) [12])) (dIfS (dTest (dOp (fRel sDep rEqv) (dVar 2) (dC (.int 4)))) (dSeq2 (dSet 4 (dOpR fAdd (dC (.int 1)) (dCall g__law_draw (dCons (dVar 0) (dCons (dVar 1) (dNil)))))) (dFor (dRange1 (dVar 4)) (gN 5) (dExtend 3 (dLc (dRange2 (dVar 4) (dVar 1)) (gN 13) (dTest (dOp (fRel sLt fun d e => rLtD e d) (dCall g__law_draw (dCons (dVar 0) (dCons (dC (.int 3)) (dNil)))) (dC (.int 0)))) (dTup (dCons (dVar 5) (dCons (dVar 13) (dNil)))) [13])))) (dIfS (dTest (dOp (fRel sDep rEqv) (dVar 2) (dC (.int 5)))) (dSeq2 (dSet 6 (dOpR fAdd (dC (.int 1)) (dCall g__law_draw (dCons (dVar 0) (dCons (dC (.int 3)) (dNil)))))) (dSeq2 (dSet 3 (dLc (dRange2 (dC (.int 1)) (dVar 1)) (gN 12) (dTest (dOp (fRel sLt fun d e => rLtD e d) (dOp fMod (dCB (on1 fInt) (dCons (dVar 12) (dNil))) (dOpR fAdd (dVar 6) (dC (.int 1)))) (dC (.int 0)))) (dTup (dCons (dVar 12) (dCons (dOp fSub (dVar 12) (dC (.int 1))) (dNil)))) [12])) (dExtend 3 (dLc (dRange2 (dC (.int 1)) (dVar 1)) (gN 12) (dTest (dOp (fRel sLt fun d e => rLtD e d) (dCall g__law_draw (dCons (dVar 0) (dCons (dC (.int 3)) (dNil)))) (dC (.int 0)))) (dTup (dCons (dOp fSub (dVar 12) (dC (.int 1))) (dCons (dVar 12) (dNil)))) [12])))) (dIfS (dTest (dOp (fRel sDep rEqv) (dVar 2) (dC (.int 6)))) (dSeq2 (dSet 7 (dOpR fAdd (dC (.int 2)) (dCall g__law_draw (dCons (dVar 0) (dCons (dC (.int 2)) (dNil)))))) (dSet 3 (dOpR fAdd (dLc (dRange1 (dOp fSub (dVar 1) (dC (.int 1)))) (gN 12) (dTest (dOp (fRel sLt fun d e => rLtD e d) (dOp fMod (dCB (on1 fInt) (dCons (dOpR fAdd (dVar 12) (dC (.int 1))) (dNil))) (dVar 7)) (dC (.int 0)))) (dTup (dCons (dVar 12) (dCons (dOpR fAdd (dVar 12) (dC (.int 1))) (dNil)))) [12]) (dLc (dRange1 (dOp fSub (dVar 1) (dVar 7))) (gN 12) (dYes) (dTup (dCons (dVar 12) (dCons (dOpR fAdd (dVar 12) (dVar 7)) (dNil)))) [12])))) (dIfS (dTest (dOp (fRel sDep rEqv) (dVar 2) (dC (.int 7)))) (dSeq2 (dSet 8 (dCall g__law_draw (dCons (dVar 0) (dCons (dOpR fAdd (dVar 1) (dC (.int 1))) (dNil))))) (dSet 3 (dLc (dRange1 (dOp fSub (dVar 1) (dC (.int 1)))) (gN 12) (dTest (dOp (fRel sDep fun d e => !rEqv d e) (dOpR fAdd (dVar 12) (dC (.int 1))) (dVar 8))) (dTup (dCons (dVar 12) (dCons (dOpR fAdd (dVar 12) (dC (.int 1))) (dNil)))) [12]))) (dNext)))))))) (dSeq2 (dSet 9 (dCall g__law_closed (dCons (dVar 1) (dCons (dLc (dSeqQ (dVar 3)) (gN 11) (dTest (dOp (fRel sDep fun d e => !rEqv d e) (dOpR fIx (dVar 11) (dC (.int 0))) (dOpR fIx (dVar 11) (dC (.int 1))))) (dVar 11) [11]) (dNil))))) (dRet (dIf (dTest (dOp (fRel sDep rEqv) (dCall g__law_draw (dCons (dVar 0) (dCons (dC (.int 3)) (dNil)))) (dC (.int 0)))) (dVar 9) (dCall g__law_led (dCons (dVar 9) (dCons (dCall g__law_order (dCons (dVar 0) (dCons (dVar 1) (dNil)))) (dNil))))))))
def rest_hill : DS := dSeq2 (dSet 9 (dCall g__law_closed (dCons (dVar 1) (dCons (dLc (dSeqQ (dVar 3)) (gN 11) (dTest (dOp (fRel sDep fun d e => !rEqv d e) (dOpR fIx (dVar 11) (dC (.int 0))) (dOpR fIx (dVar 11) (dC (.int 1))))) (dVar 11) [11]) (dNil))))) (dRet (dIf (dTest (dOp (fRel sDep rEqv) (dCall g__law_draw (dCons (dVar 0) (dCons (dC (.int 3)) (dNil)))) (dC (.int 0)))) (dVar 9) (dCall g__law_led (dCons (dVar 9) (dCons (dCall g__law_order (dCons (dVar 0) (dCons (dVar 1) (dNil)))) (dNil))))))
theorem led_hill_ok {n : Nat} {ps : List Pr} {xs : List Nat} (h : Hill n ps) (r : Ren n xs) : Hill n (led n ps xs) := by
  refine ⟨good_prs h.good.lo h.good.hi, fun a b c h1 h2 ne => ?_⟩
  unfold led at h1 h2 ⊢
  obtain ⟨x1, x2, x3, x4⟩ := mem_prs.mp h1
  obtain ⟨y1, y2, y3, y4⟩ := mem_prs.mp h2
  obtain ⟨p, hp, p1, p2⟩ := ledR_iff.mp x4
  obtain ⟨q, hq, q1, q2⟩ := ledR_iff.mp y4
  refine mem_prs.mpr ⟨x1, y2, ne, ledR_iff.mpr ⟨(p.1, q.2), ?_, p1, q2⟩⟩
  have e : p.2 = q.1 := r.inj p2 q1
  refine h.tr p.1 p.2 q.2 hp (by rw [e]; exact hq) fun e => ne ?_
  have : some a = some c := by rw [← p1, ← q2, e]
  exact Option.some.inj this
theorem p_rest_hill {n : Nat} (h1 : 1 ≤ n) (h2 : n ≤ 10) {Q : DV → Prop} {N : DE → Prop} (q : ∀ ps, Hill n ps → Q (.sh (bookD n ps))) (ps : List Pr) (hp : ∀ p ∈ ps, p.1 < n ∧ p.2 < n) (hl : ps.length < 60) (x2 x4 x5 x6 x7 x8 x9 : Option DV) :
    rest_hill { nx := N, rt := Q } [some (.tok 0), some (.sh (.int (n : Nat))), x2, some (ownL (ps.map prD)), x4, x5, x6, x7, x8, x9, none, none, none, none] := by
  have hs : (1000 : Nat) ≤ sizeLine := by decide
  simp [rest_hill, sup_br, noLsts_prs, -List.map_map]
  intro _
  refine lcRun_fn prD (fun p : Pr => if decide (p.1 ≠ p.2) = true then some (DV.sh (prD p)) else none) ps [] (by simp; omega) (fun p m P hP => ?_) ?_
  · simp [prD]
    by_cases e : p.1 = p.2
    · have e' : ((p.1 : Int) = p.2) := by omega
      simp [e] at hP ⊢
      exact hP
    · have e' : ¬ ((p.1 : Int) = p.2) := by omega
      simp [e] at hP
      simp [e']
      simpa [prD] using hP
  · simp only [List.nil_append]
    rw [filterMap_if (fun p : Pr => decide (p.1 ≠ p.2)) (fun p => DV.sh (prD p)), own_prs]
    simp [-List.map_map]
    refine pr_call (n, ps.filter fun p => decide (p.1 ≠ p.2)) (by simp) ⟨h2, fun p m => hp p (List.mem_filter.mp m).1, ?_⟩ ?_
    · have := List.length_filter_le (fun p : Pr => decide (p.1 ≠ p.2)) ps
      simp at this ⊢
      omega
    · rintro dv rfl
      have H : Hill n (clo n (ps.filter fun p => decide (p.1 ≠ p.2))) := hill_clo h1 h2
      generalize clo n (ps.filter fun p => decide (p.1 ≠ p.2)) = hs at H
      simp
      refine draw_call rfl (by omega) fun r _ _ => ?_
      simp
      split
      · exact q _ H
      · refine pr_call n rfl h2 ?_
        rintro dv ⟨xs, rfl, r⟩
        simp [-List.map_map]
        refine pr_call (n, hs, xs) rfl ⟨H.good, r⟩ ?_
        rintro dv rfl
        exact q _ (led_hill_ok H r)
theorem p__law_hill (ds : List DV) (Q : DV → Prop) (h : g__law_hill ds Q) : t__law_hill { nx := fun _ => Q (.sh .none), rt := Q } (startD n__law_hill ds) := by
  obtain ⟨n, rfl, ⟨h1, h2⟩, q⟩ := h
  have hs : (1000 : Nat) ≤ sizeLine := by decide
  have rest := p_rest_hill (N := fun _ => Q (.sh .none)) h1 h2 fun ps H => q _ ⟨ps, H, rfl⟩
  have e : t__law_hill = dSeq2 _ (dSeq2 _ rest_hill) := rfl
  rw [e]
  generalize rest_hill = RH at rest ⊢
  clear e
  simp [startD, n__law_hill]
  refine draw_nat (many := 9) rfl (by omega) fun w hw => ?_
  simp
  have okw : ∀ many : Nat, 0 < many → many ≤ 100 → (0 < many ∧ many < 1073741824) := fun many a b => ⟨a, by omega⟩
  split
  · refine ⟨.inl ⟨by decide, by decide⟩, draw_nat (many := 2 * n) (by simp) (okw _ (by omega) (by omega)) fun k hk => ?_⟩
    simp
    refine ⟨small_n (by omega), ?_⟩
    rw [rangeD_nat]
    refine lcP (ok := fun p => p.1 < n ∧ p.2 < n) (fun i : Nat => PyData.int i) _ (by simp; omega) (fun x m P hP hN => ?_) fun ps hp hl => ?_
    · simp
      refine draw_nat (many := n) rfl (okw _ (by omega) (by omega)) fun a ha => ?_
      simp
      refine draw_nat (many := n) rfl (okw _ (by omega) (by omega)) fun b hb => ?_
      simp
      exact hP (a, b) ⟨ha, hb⟩
    · simp at hl
      split
      · rw [onV_own]
        simp [sup_br, noLsts_prs, -List.map_map]
        intro _
        refine lcP (ok := fun p => p.1 < n ∧ p.2 < n) prD ps (by omega) (fun p m P hP hN => ?_) fun qs hq hl' => ?_
        · simp [prD]
          have := hP (min p.1 p.2, max p.1 p.2) (by have := hp p m; simp; omega)
          have e1 : min (p.1 : Int) p.2 = ((min p.1 p.2 : Nat) : Int) := by omega
          have e2 : max (p.1 : Int) p.2 = ((max p.1 p.2 : Nat) : Int) := by omega
          rw [e1, e2]
          exact this
        · exact rest qs hq (by omega) _ _ _ _ _ _ _
      · exact rest ps hp (by omega) _ _ _ _ _ _ _
  split
  · refine ⟨by unfold small; omega, ?_⟩
    rw [rangeD_pred n h1]
    refine lcP (ok := fun p => p.1 < n ∧ p.2 < n) (fun i : Nat => PyData.int i) _ (by simp; omega) (fun x m P hP hN => ?_) fun ps hp hl => ?_
    · simp at m
      simp
      exact hP (x, x + 1) (by simp; omega)
    · simp at hl
      exact rest ps hp (by omega) _ _ _ _ _ _ _
  split
  · refine ⟨by unfold small; omega, ?_⟩
    rw [rangeD_pred n h1]
    refine lcP (ok := fun p => p.1 < n ∧ p.2 < n) (fun i : Nat => PyData.int i) _ (by simp; omega) (fun x m P hP hN => ?_) fun ps hp hl => ?_
    · simp at m
      simp
      refine draw_nat (many := 4) rfl (by omega) fun r hr => ?_
      simp
      split
      · refine draw_nat (many := n - x - 1) (by simp; omega) (okw _ (by omega) (by omega)) fun b hb => ?_
        simp
        have := hP (x, x + 1 + b) (by simp; omega)
        simpa [prD] using this
      · exact hN
    · simp at hl
      exact rest ps hp (by omega) _ _ _ _ _ _ _
  split
  · refine draw_nat (many := n) rfl (okw _ (by omega) (by omega)) fun lo hlo => ?_
    simp
    refine ⟨by unfold small; omega, ?_⟩
    have e1 : (1 : Int) + lo = ((1 + lo : Nat) : Int) := by omega
    rw [e1, rangeD_nat]
    have m25 := mul25 (1 + lo) (by omega) (n - (1 + lo)) (by omega) (by omega)
    refine forRun_nat (1 + lo) (fun i δ => ∃ (ps : List Pr) (x5 : Option DV), δ = [some (.tok 0), some (.sh (.int (n : Nat))), some (.sh (.int (w : Nat))), some (ownL (ps.map prD)), some (.sh (.int ((1 + lo : Nat) : Int))), x5, none, none, none, none, none, none, none, none] ∧ (∀ p ∈ ps, p.1 < n ∧ p.2 < n) ∧ ps.length ≤ i * (n - (1 + lo))) (fun a δ ha hI N hN => ?_) (fun δ hI => ?_) ⟨[], none, rfl, by simp, by simp⟩
    · obtain ⟨ps, x5, rfl, hp, hl⟩ := hI
      have hb : a * (n - (1 + lo)) + (n - (1 + lo)) ≤ (1 + lo) * (n - (1 + lo)) := by
        have := Nat.mul_le_mul_right (n - (1 + lo)) (show a + 1 ≤ 1 + lo from ha)
        rw [Nat.add_mul, Nat.one_mul] at this
        exact this
      simp [-List.map_map, -Int.natCast_add]
      refine ⟨by unfold small; omega, small_n (by omega), ?_⟩
      rw [rangeD_sub]
      refine lcP (ok := fun p => p.1 < n ∧ p.2 < n) (fun i : Nat => PyData.int ((1 + lo + i : Nat) : Int)) _ (by simp; omega) (fun x m P hP hN' => ?_) fun qs hq hl' => ?_
      · simp at m
        simp [-Int.natCast_add]
        refine draw_nat (many := 3) rfl (by omega) fun r hr => ?_
        simp [-Int.natCast_add]
        split
        · exact hP (a, 1 + lo + x) (by simp; omega)
        · exact hN'
      · simp at hl'
        simp [-List.map_map, -Int.natCast_add]
        refine ⟨by omega, ?_⟩
        rw [app_owns, ← List.map_append]
        refine hN _ ⟨ps ++ qs, some (.sh (.int (a : Nat))), rfl, fun p m => ?_, ?_⟩
        · rcases List.mem_append.mp m with m | m
          · exact hp p m
          · exact hq p m
        · rw [List.length_append, Nat.add_mul, Nat.one_mul]
          omega
    · obtain ⟨ps, x5, rfl, hp, hl⟩ := hI
      exact rest ps hp (by omega) _ _ _ _ _ _ _
  split
  · refine draw_nat (many := 3) rfl (by omega) fun sz hsz => ?_
    simp
    refine ⟨by unfold small; omega, small_n (by omega), ?_⟩
    have er : rangeD 1 (n : Int) = (List.range (n - 1)).map fun i : Nat => PyData.int ((1 + i : Nat) : Int) := rangeD_sub 1 n
    rw [er]
    refine lcP (ok := fun p => p.1 < n ∧ p.2 < n) (fun i : Nat => PyData.int ((1 + i : Nat) : Int)) _ (by simp; omega) (fun x m P hP hN => ?_) fun ps hp hl => ?_
    · simp at m
      have e : ((1 + x : Nat) : Int) - 1 = (x : Int) := by omega
      simp [-Int.natCast_add, e]
      refine ⟨by omega, ?_⟩
      split
      · exact hP (1 + x, x) (by simp; omega)
      · exact hN
    · simp at hl
      refine ⟨by unfold small; omega, small_n (by omega), ?_⟩
      refine lcP (ok := fun p => p.1 < n ∧ p.2 < n) (fun i : Nat => PyData.int ((1 + i : Nat) : Int)) _ (by simp; omega) (fun x m P hP hN => ?_) fun qs hq hl' => ?_
      · simp at m
        have e : ((1 + x : Nat) : Int) - 1 = (x : Int) := by omega
        simp [-Int.natCast_add]
        refine draw_nat (many := 3) rfl (by omega) fun r hr => ?_
        simp [-Int.natCast_add, e]
        split
        · exact hP (x, 1 + x) (by simp; omega)
        · exact hN
      · simp at hl'
        refine ⟨by simp; omega, ?_⟩
        rw [app_owns, ← List.map_append]
        refine rest (ps ++ qs) (fun p m => ?_) (by rw [List.length_append]; omega) _ _ _ _ _ _ _
        rcases List.mem_append.mp m with m | m
        · exact hp p m
        · exact hq p m
  split
  · refine draw_nat (many := 2) rfl (by omega) fun wd hwd => ?_
    simp
    refine ⟨by unfold small; omega, ?_⟩
    rw [rangeD_pred n h1]
    refine lcP (ok := fun p => p.1 < n ∧ p.2 < n) (fun i : Nat => PyData.int i) _ (by simp; omega) (fun x m P hP hN => ?_) fun ps hp hl => ?_
    · simp at m
      simp
      refine ⟨by omega, ?_⟩
      split
      · exact hP (x, x + 1) (by simp; omega)
      · exact hN
    · simp at hl
      refine ⟨by unfold small; omega, ?_⟩
      rw [rangeD_any]
      refine lcP (ok := fun p => p.1 < n ∧ p.2 < n) (fun i : Nat => PyData.int i) _ (by simp; omega) (fun x m P hP hN => ?_) fun qs hq hl' => ?_
      · simp at m
        simp
        have := hP (x, x + (2 + wd)) (by simp; omega)
        simpa [prD] using this
      · simp at hl'
        rw [fAdd_owns]
        refine ⟨by simp; omega, ?_⟩
        simp only [R.fx_val]
        rw [← List.map_append]
        refine rest (ps ++ qs) (fun p m => ?_) (by rw [List.length_append]; omega) _ _ _ _ _ _ _
        rcases List.mem_append.mp m with m | m
        · exact hp p m
        · exact hq p m
  split
  · refine draw_nat (many := n + 1) (by simp) (okw _ (by omega) (by omega)) fun wd hwd => ?_
    refine ⟨by unfold small; omega, ?_⟩
    rw [rangeD_pred n h1]
    refine lcP (ok := fun p => p.1 < n ∧ p.2 < n) (fun i : Nat => PyData.int i) _ (by simp; omega) (fun x m P hP hN => ?_) fun ps hp hl => ?_
    · simp at m
      simp
      split
      · exact hN
      · exact hP (x, x + 1) (by simp; omega)
    · simp at hl
      exact rest ps hp (by omega) _ _ _ _ _ _ _
  · exact rest [] (by simp) (by simp) _ _ _ _ _ _ _
end HL
set_option Elab.async false
set_option linter.all false
set_option maxRecDepth 100000
set_option maxHeartbeats 1000000
namespace HL
open PySem PySem.Spec L2 DL
open PyProof.Rows hiding St
/-! ### laid side by side, multiplied: the law's own -/
theorem rInD_prs (a b : Nat) (ps : List Pr) : rInD (.tuple [.int a, .int b]) (.tuple (ps.map prD)) = decide ((a, b) ∈ ps) := by
  unfold rInD
  show (ps.map prD).any _ = _
  rw [List.any_map, Bool.eq_iff_iff, List.any_eq_true, decide_eq_true_iff]
  constructor
  · rintro ⟨p, hp, h⟩
    have h : rEqv (prD p) (prD (a, b)) = true := h
    rw [rEqv_eq, eqv_prD, decide_eq_true_iff] at h
    rw [← h]; exact hp
  · intro h
    refine ⟨(a, b), h, ?_⟩
    show rEqv (prD (a, b)) (prD (a, b)) = true
    rw [rEqv_eq, eqv_prD]; simp
theorem sIn_prs (d : D) (ps : List Pr) : sIn d (.tuple (ps.map prD)) := by
  unfold sIn
  have := depth_prs ps
  show min _ _ ≤ 60
  omega
def tm3 (m : Nat) (qs : List Pr) (a c b : Nat) : List Pr := ((List.range m).filter fun d => le qs b d).map fun d => (code m (a, b), code m (c, d))
def tm2 (m : Nat) (ps qs : List Pr) (a c : Nat) : List Pr := if le ps a c = true then (List.range m).flatMap (tm3 m qs a c) else []
def tm1 (n m : Nat) (ps qs : List Pr) (a : Nat) : List Pr := (List.range n).flatMap (tm2 m ps qs a)
end HL
set_option Elab.async false
set_option linter.all false
set_option maxRecDepth 100000
set_option maxHeartbeats 1000000
namespace HL
open PySem PySem.Spec L2 DL
open PyProof.Rows hiding St
/-! ### what can be shown -/
structure Sh (w k : Nat) (d : D) : Prop where
  ok : d.showable = true
  sh : d.leavesShort 16 = true
  wt : d.weight ≤ w
  dp : d.depth ≤ k
theorem Sh.show {w k : Nat} {d : D} (h : Sh w k d) (hw : w ≤ 900000 := by decide) (hk : k ≤ 60 := by decide) : sShow d := by
  refine ⟨h.ok, by have := h.dp; omega, ?_⟩
  have h1 := PyData.shown_le 16 (by decide) d h.sh
  have h2 := h.wt
  have e : sizeLine = 16777216 := by decide
  omega
theorem Sh.mono {w k w' k' : Nat} {d : D} (h : Sh w k d) (hw : w ≤ w') (hk : k ≤ k') : Sh w' k' d := ⟨h.ok, h.sh, Nat.le_trans h.wt hw, Nat.le_trans h.dp hk⟩
theorem sh_int (i : Nat) (h : i < 1024) : Sh 10 0 (.int i) := by
  have hb : ((i : Int).natAbs.log2 + 1) ≤ 10 := by
    rw [Int.natAbs_natCast]
    by_cases z : i = 0
    · subst z; decide
    · have := (Nat.log2_lt z).mpr (show i < 2 ^ 10 from h)
      omega
  refine ⟨?_, ?_, ?_, ?_⟩
  · rw [PyData.showable, decide_eq_true_iff]; omega
  · rw [PyData.leavesShort, decide_eq_true_iff]
    have := PyData.shown_int_le (i := (i : Int)) (by rw [Int.natAbs_natCast]; omega)
    omega
  · rw [PyData.weight]
    split <;> omega
  · rw [depth_int]; omega
theorem sh_all {w k : Nat} : ∀ {ds : List D}, (∀ d ∈ ds, Sh w k d) → PyData.showableAll ds = true ∧ PyData.leavesShortAll 16 ds = true ∧ PyData.weightAll ds ≤ ds.length * (w + 1)
  | [], _ => ⟨rfl, rfl, by rw [PyData.weightAll]; omega⟩
  | d :: ds, h => by
    have h1 := h d List.mem_cons_self
    obtain ⟨a, b, c⟩ := sh_all fun x m => h x (List.mem_cons_of_mem d m)
    refine ⟨by rw [PyData.showableAll, h1.ok, a]; rfl, by rw [PyData.leavesShortAll, h1.sh, b]; rfl, ?_⟩
    rw [PyData.weightAll, List.length_cons, Nat.add_mul]
    have := h1.wt
    omega
theorem sh_tup {w k n : Nat} {ds : List D} (h : ∀ d ∈ ds, Sh w k d) (hn : ds.length ≤ n) : Sh (n * (w + 1)) (k + 1) (.tuple ds) := by
  obtain ⟨a, b, c⟩ := sh_all h
  refine ⟨by rw [PyData.showable]; exact a, by rw [PyData.leavesShort]; exact b, ?_, depth_tup fun d m => (h d m).dp⟩
  rw [PyData.weight]
  exact Nat.le_trans c (Nat.mul_le_mul_right _ hn)
theorem sh_pr (p : Pr) (h : p.1 < 1024 ∧ p.2 < 1024) : Sh 22 1 (prD p) := sh_tup (n := 2) (ds := [.int p.1, .int p.2]) (by
  intro d m
  simp at m
  rcases m with rfl | rfl
  · exact sh_int _ h.1
  · exact sh_int _ h.2) (by simp)
theorem sh_book {n : Nat} {ps : List Pr} (hn : n < 1024) (hp : ∀ p ∈ ps, p.1 < 1024 ∧ p.2 < 1024) (hl : ps.length ≤ 1000) : Sh 46002 3 (bookD n ps) := sh_tup (n := 2) (w := 23000) (k := 2) (ds := [.int n, .tuple (ps.map prD)]) (by
  intro d m
  simp at m
  rcases m with rfl | rfl
  · exact (sh_int _ hn).mono (by omega) (by omega)
  · exact sh_tup (n := 1000) (w := 22) (k := 1) (fun d m => by
      obtain ⟨p, q, rfl⟩ := List.mem_map.mp m
      exact sh_pr p (hp p q)) (by simpa using hl)) (by simp)
theorem Good.sh {n : Nat} {ps : List Pr} (G : Good n ps) : Sh 46002 3 (bookD n ps) := sh_book (by have := G.hi; omega) (fun p m => by
  have := G.ok p m
  have := G.hi
  omega) (by have := book_len G; omega)
theorem sh_lot {n : Nat} {xs : List Nat} (h : ∀ x ∈ xs, x < 1024) (hl : xs.length ≤ n) : Sh (n * 11) 1 (lotD xs) := sh_tup (w := 10) (k := 0) (fun d m => by
  obtain ⟨p, q, rfl⟩ := List.mem_map.mp m
  exact sh_int p (h p q)) (by simpa using hl)
theorem sDep_str (t : Str) (e : D) : sDep (.str t) e := sDep_le (m := 0) (by rw [PyData.depth]; omega)
theorem rEqv_str (t : Str) : rEqv (.str t) (.str t) = true := by rw [rEqv_eq, PyData.eqv]; simp
/-! ### mirrors and led hills -/
end HL
set_option Elab.async false
set_option linter.all false
set_option maxRecDepth 100000
set_option maxHeartbeats 1000000
namespace HL
open PySem PySem.Spec L2 DL
open PyProof.Rows hiding St
/-! ### one hill alone -/
@[simp] theorem fIx_book0 {n : Nat} {ps : List Pr} {Q : R → Prop} : fIx (.val (.sh (bookD n ps))) (.val (.sh (.int 0))) Q = Q (.val (.sh (.int (n : Nat)))) := by unfold bookD; simp
@[simp] theorem fIx_book1 {n : Nat} {ps : List Pr} {Q : R → Prop} : fIx (.val (.sh (bookD n ps))) (.val (.sh (.int 1))) Q = Q (.val (.sh (.tuple (ps.map prD)))) := by unfold bookD; simp
theorem sh_2 {w k : Nat} {a b : D} (ha : Sh w k a) (hb : Sh w k b) : Sh (2 * (w + 1)) (k + 1) (.tuple [a, b]) := sh_tup (by simp; exact ⟨ha, hb⟩) (by simp)
end HL
set_option Elab.async false
set_option linter.all false
set_option maxRecDepth 100000
set_option maxHeartbeats 1000000
namespace HL
open PySem PySem.Spec L2 DL
open PyProof.Rows hiding St
/-! ### hills beside one another: plain laws -/
end HL
set_option Elab.async false
set_option linter.all false
set_option maxRecDepth 100000
set_option maxHeartbeats 1000000
namespace HL
open PySem PySem.Spec L2 DL
open PyProof.Rows hiding St
/-! ### hills beside one another: the check -/
end HL
set_option Elab.async false
set_option linter.all false
set_option maxRecDepth 100000
set_option maxHeartbeats 1000000
namespace HL
open PySem PySem.Spec L2 DL
open PyProof.Rows hiding St
/-! ### products: plain laws -/
theorem Hill.le_trans {n : Nat} {ps : List Pr} (h : Hill n ps) {a b c : Nat} (h1 : le ps a b = true) (h2 : le ps b c = true) : le ps a c = true := by
  rw [le_iff] at h1 h2 ⊢
  rcases h1 with rfl | h1
  · exact h2
  · rcases h2 with rfl | h2
    · exact .inr h1
    · by_cases e : a = c
      · exact .inl e
      · exact .inr (h.tr a b c h1 h2 e)
theorem le_self (ps : List Pr) (a : Nat) : le ps a a = true := le_iff.mpr (.inl rfl)
/-! ponds of a product -/
theorem mem_pond {n : Nat} {ps : List Pr} {x y : Nat} : y ∈ pondL n ps x ↔ y < n ∧ le ps y x = true ∧ le ps x y = true := by
  unfold pondL
  rw [List.mem_filter, List.mem_range, Bool.and_eq_true]
theorem pond_st (n : Nat) (ps : List Pr) (x : Nat) : (pondL n ps x).Pairwise (· < ·) := (range_sorted n).filter _
end HL
set_option Elab.async false
set_option linter.all false
set_option maxRecDepth 100000
set_option maxHeartbeats 1000000
namespace HL
open PySem PySem.Spec L2 DL
open PyProof.Rows hiding St
/-! ### products: the rows of ponds -/
theorem pond_self {n : Nat} {ps : List Pr} {x : Nat} (hx : x < n) : x ∈ pondL n ps x := mem_pond.mpr ⟨hx, le_self _ _, le_self _ _⟩
theorem IsPonds.of {n : Nat} {ps : List Pr} {L : List (List Nat)} (h : IsPonds n ps L) {l : List Nat} (m : l ∈ L) : l ≠ [] ∧ l.Pairwise (· < ·) ∧ (∀ x ∈ l, x < n) ∧ l.length ≤ n := by
  obtain ⟨x, hx, rfl⟩ := (h.2 l).mp m
  have L : Lot n (pondL n ps x) := ⟨pond_st _ _ _, fun y hy => (mem_pond.mp hy).1⟩
  refine ⟨fun e => ?_, L.st, L.ok, L.len⟩
  have := pond_self (ps := ps) hx
  rw [e] at this
  cases this
theorem ponds_len {n : Nat} {ps : List Pr} {L : List (List Nat)} (h : IsPonds n ps L) : L.length ≤ n := by
  have nd := strict_nodup ltL_irrefl h.1
  have sub : ∀ l ∈ L, l ∈ (List.range n).map (pondL n ps) := fun l m => by
    obtain ⟨x, hx, rfl⟩ := (h.2 l).mp m
    exact List.mem_map.mpr ⟨x, List.mem_range.mpr hx, rfl⟩
  have key : ∀ (L M : List (List Nat)), L.Nodup → (∀ l ∈ L, l ∈ M) → L.length ≤ M.length := by
    intro L
    induction L with
    | nil => intro M _ _; simp
    | cons a L ih =>
      intro M nd h
      have nd' := List.nodup_cons.mp nd
      have ha := h a List.mem_cons_self
      have := ih (M.erase a) nd'.2 fun l m => by
        have hne : l ≠ a := fun e => by subst e; exact nd'.1 m
        exact (List.mem_erase_of_ne hne).mpr (h l (List.mem_cons_of_mem _ m))
      rw [List.length_erase_of_mem ha] at this
      have := List.length_pos_of_mem ha
      rw [List.length_cons]
      omega
  have := key L _ nd sub
  simpa using this
theorem sh_ponds {n : Nat} {ps : List Pr} {L : List (List Nat)} (h : IsPonds n ps L) (hn : n ≤ 10) : Sh 1110 2 (.tuple (L.map lotD)) := sh_tup (n := 10) (w := 110) (k := 1) (fun d m => by
  obtain ⟨l, hl, rfl⟩ := List.mem_map.mp m
  obtain ⟨_, _, h3, h4⟩ := h.of hl
  exact sh_lot (n := 10) (fun x hx => by have := h3 x hx; omega) (by omega)) (by have := ponds_len h; simp; omega)
/-! ### products: the check -/
end HL
set_option Elab.async false
set_option linter.all false
set_option maxRecDepth 100000
set_option maxHeartbeats 2000000
namespace DL
open PySem PySem.Spec L2
open PyProof.Rows hiding St
/-! ### enumerate and zip over lists and tuples alike: the flag t tells a tuple -/
/-! ### enumerate(tuple): its making -/
end DL
set_option Elab.async false
set_option linter.all false
set_option maxRecDepth 100000
set_option maxHeartbeats 2000000
namespace DL
open PySem PySem.Spec L2
open PyProof.Rows hiding St
/-! ### zip of a tuple and a list -/
section
variable {C : Zn} {X : Cx} {tg : Expr} {e a b c : Expr} {es : List Expr} {pos p tpos : Pos} {t : DL'} {te ta tb : DT}
/-- for .. in zip(tuple, list) -/
def dZipM (t : DL') : DI := fun δ Q => t δ fun rs => match rs with
  | [x, y] => (match x.fd, y.fd with
    | some (.tuple ds), some (.list es) => Q (zipD ds es)
    | _, _ => False)
  | _ => False
/-! ### enumerate -/
def enumD (ds : List D) : List D := ds.mapIdx fun i d => .tuple [.int (i : Nat), d]
/-- .. in enumerate(e): k as with PDI -/
def dEnum (k : Bool) (te : DT) : DI := fun δ Q => te δ fun x => match (if k then x.fd else x.sup) with
  | some (.tuple ds) => Q (enumD ds)
  | some (.list ds) => Q (enumD ds)
  | _ => False
/-! ### range downwards -/
def rangeDn (lo hi : Int) : List D := (List.range (lo - hi).toNat).map fun i : Nat => PyData.int (lo - i)
/-- range(a, b, -1) -/
def dRangeDn (ta tb : DT) : DI := fun δ Q => ta δ fun x => onI x fun i => tb δ fun y => onI y fun j => small i ∧ small j ∧ Q (rangeDn i j)
end
end DL
set_option Elab.async false
set_option linter.all false
set_option maxRecDepth 100000
set_option maxHeartbeats 2000000
namespace DL
open PySem PySem.Spec L2
open PyProof.Rows hiding St
/-! ### dicts whose keys are whole numbers and texts, with shared data within -/
section
variable {κ α : Type} [DecidableEq κ]
def valD (ds : List (κ × α)) (k : κ) : Option α := match ds with
  | [] => none
  | p :: r => if p.1 = k then some p.2 else valD r k
def setKD (ds : List (κ × α)) (k : κ) (v : α) : List (κ × α) := ds.map fun p => if p.1 = k then (p.1, v) else p
def hasD (ds : List (κ × α)) (k : κ) : Bool := ds.any fun p => decide (p.1 = k)
def putD (ds : List (κ × α)) (k : κ) (v : α) : List (κ × α) := if hasD ds k = true then setKD ds k v else ds ++ [(k, v)]
theorem valD_none {ds : List (κ × α)} {k : κ} : hasD ds k = false ↔ valD ds k = none := by
  induction ds with
  | nil => simp [hasD, valD]
  | cons p r ih =>
    unfold valD
    by_cases e : p.1 = k
    · simp [hasD, e]
    · rw [if_neg e, ← ih]
      simp [hasD, e]
theorem setKD_keys (ds : List (κ × α)) (k : κ) (v : α) : (setKD ds k v).map (·.1) = ds.map (·.1) := by
  unfold setKD
  rw [List.map_map]
  refine List.map_congr_left fun p _ => ?_
  show (if p.1 = k then (p.1, v) else p).1 = p.1
  split <;> rfl
theorem putD_keys (ds : List (κ × α)) (k : κ) (v : α) : (putD ds k v).map (·.1) = if hasD ds k = true then ds.map (·.1) else ds.map (·.1) ++ [k] := by
  unfold putD
  split
  · exact setKD_keys ds k v
  · rw [List.map_append]; rfl
theorem hasD_mem {ds : List (κ × α)} {k : κ} : hasD ds k = true ↔ k ∈ ds.map (·.1) := by
  unfold hasD
  simp [List.any_eq_true]
theorem valD_set (ds : List (κ × α)) (k j : κ) (v : α) : valD (setKD ds k v) j = if j = k ∧ hasD ds k = true then some v else valD ds j := by
  induction ds with
  | nil => simp [setKD, valD, hasD]
  | cons p r ih =>
    have e : setKD (p :: r) k v = (if p.1 = k then (p.1, v) else p) :: setKD r k v := rfl
    rw [e]
    unfold valD
    by_cases h1 : p.1 = k
    · rw [if_pos h1]
      by_cases h2 : p.1 = j
      · have : j = k := h2.symm.trans h1
        simp [h2, this, hasD]
      · have : ¬ j = k := fun z => h2 (h1.trans z.symm)
        simp [h2, ih, this]
    · rw [if_neg h1]
      by_cases h2 : p.1 = j
      · have : ¬ j = k := fun z => h1 (h2.trans z)
        simp [h2, this]
      · have e2 : hasD (p :: r) k = hasD r k := by simp [hasD, h1]
        simp only [h2, if_false, e2, ih]
theorem valD_snoc (ds : List (κ × α)) (k j : κ) (v : α) : valD (ds ++ [(k, v)]) j = (valD ds j).orElse fun _ => if k = j then some v else none := by
  induction ds with
  | nil => simp [valD]
  | cons p r ih =>
    rw [List.cons_append]
    unfold valD
    split
    · rfl
    · exact ih
theorem valD_put (ds : List (κ × α)) (k j : κ) (v : α) : valD (putD ds k v) j = if j = k then some v else valD ds j := by
  unfold putD
  by_cases h : hasD ds k = true
  · rw [if_pos h, valD_set]
    simp [h]
  · rw [if_neg h, valD_snoc]
    have n : valD ds k = none := valD_none.mp (by simpa using h)
    by_cases e : j = k
    · subst e; simp [n]
    · rw [if_neg e, if_neg (Ne.symm e)]; simp
def mergeD (ds more : List (κ × α)) : List (κ × α) := more.foldl (fun acc p => putD acc p.1 p.2) ds
end
def shs (ds : List (Key × D)) : List (Key × DV) := ds.map fun p => (p.1, .sh p.2)
theorem shs_keys (ds : List (Key × D)) : (shs ds).map (·.1) = ds.map (·.1) := by unfold shs; rw [List.map_map]; rfl
theorem shs_vals (ds : List (Key × D)) : (shs ds).map (·.2) = (ds.map (·.2)).map DV.sh := by unfold shs; rw [List.map_map, List.map_map]; rfl
/-- the dict's entries, key by key -/
inductive KD (K : PySem.W.Frag) (F : Addr → Prop) (H : Hp) : List (Key × V) → List (Key × D) → Prop
  | nil : KD K F H [] []
  | cons {k : Key} {v : V} {d : D} {kvs : List (Key × V)} {ds : List (Key × D)} : Dq K F H v d → KD K F H kvs ds → KD K F H ((k, v) :: kvs) ((k, d) :: ds)
section
variable {K : PySem.W.Frag} {C : Zn} {F F' : Addr → Prop} {H H' : Hp}
theorem KD.mono (k : Keep F H F' H') : ∀ {kvs : List (Key × V)} {ds : List (Key × D)}, KD K F H kvs ds → KD K F' H' kvs ds
  | _, _, .nil => .nil
  | _, _, .cons r t => .cons (Dq.mono k _ _ r) (KD.mono k t)
theorem KD.len : ∀ {kvs : List (Key × V)} {ds : List (Key × D)}, KD K F H kvs ds → kvs.length = ds.length
  | _, _, .nil => rfl
  | _, _, .cons _ t => congrArg (· + 1) (KD.len t)
theorem KD.has (k : Key) : ∀ {kvs : List (Key × V)} {ds : List (Key × D)}, KD K F H kvs ds → (kvs.any fun p => decide (p.1 = k)) = hasD ds k
  | _, _, .nil => rfl
  | _, _, .cons _ t => by
    have := KD.has k t
    unfold hasD at this ⊢
    rw [List.any_cons, List.any_cons, this]
theorem KD.set (k : Key) {v : V} {d : D} (q : Dq K F H v d) : ∀ {kvs : List (Key × V)} {ds : List (Key × D)}, KD K F H kvs ds → KD K F H (kvs.map fun p => if p.1 = k then (p.1, v) else p) (setKD ds k d)
  | _, _, .nil => .nil
  | _, _, .cons (k := j) r t => by
    unfold setKD
    rw [List.map_cons, List.map_cons]
    have t' := KD.set k q t
    by_cases e : j = k
    · simp only [e, if_true]
      exact .cons q t'
    · simp only [e, if_false]
      exact .cons r t'
theorem KD.snoc {k : Key} {v : V} {d : D} (q : Dq K F H v d) : ∀ {kvs : List (Key × V)} {ds : List (Key × D)}, KD K F H kvs ds → KD K F H (kvs ++ [(k, v)]) (ds ++ [(k, d)])
  | _, _, .nil => .cons q .nil
  | _, _, .cons r t => .cons r (KD.snoc q t)
theorem KD.put {k : Key} {v : V} {d : D} {kvs : List (Key × V)} {ds : List (Key × D)} (q : Dq K F H v d) (h : KD K F H kvs ds) : KD K F H (putK kvs k v) (putD ds k d) := by
  unfold putK putD
  rw [KD.has k h]
  split
  · exact h.set k q
  · exact h.snoc q
theorem KD.val (k : Key) : ∀ {kvs : List (Key × V)} {ds : List (Key × D)}, KD K F H kvs ds → (valV kvs k = none ∧ valD ds k = none) ∨ ∃ v d, valV kvs k = some v ∧ valD ds k = some d ∧ Dq K F H v d
  | _, _, .nil => .inl ⟨rfl, rfl⟩
  | _, _, .cons (k := j) r t => by
    unfold valD
    by_cases e : j = k
    · exact .inr ⟨_, _, valV_pos e, by rw [if_pos e], r⟩
    · rw [valV_neg e]
      simp only [if_neg e]
      exact KD.val k t
theorem KD.of : ∀ {kvs : List (Key × V)} {ds : List (Key × D)} {as : List Addr}, kvs.map (·.1) = ds.map (·.1) → Reps K C F H (kvs.map (·.2)) ((ds.map (·.2)).map DV.sh) as → as = [] ∧ KD K F H kvs ds
  | [], [], _, _, h => by cases h; exact ⟨rfl, .nil⟩
  | [], _ :: _, _, e, _ => by cases e
  | _ :: _, [], _, e, _ => by cases e
  | (k, v) :: kvs, (j, d) :: ds, _, e, h => by
    injection e with e1 e2
    cases h with
    | cons r t =>
      cases r with
      | sh r =>
        obtain ⟨e3, t'⟩ := KD.of e2 t
        have e1 : k = j := e1
        subst e1
        exact ⟨by rw [e3]; rfl, .cons r t'⟩
theorem KD.reps : ∀ {kvs : List (Key × V)} {ds : List (Key × D)}, KD K F H kvs ds → Reps K C F H (kvs.map (·.2)) ((ds.map (·.2)).map DV.sh) []
  | _, _, .nil => .nil
  | _, _, .cons r t => .cons (as := []) (.sh r) (KD.reps t)
theorem Rep.dicOf {v : V} {ds : List (Key × D)} {as : List Addr} (h : Rep K C F H v (.dic (shs ds)) as) : ∃ a kvs, v = .ref a ∧ as = [a] ∧ H a = some (.dK kvs) ∧ KD K F H kvs ds := by
  cases h with
  | dic e1 e2 r =>
    rw [shs_keys] at e2
    rw [shs_vals] at r
    obtain ⟨z, q⟩ := KD.of e2 r
    exact ⟨_, _, rfl, by rw [z], e1, q⟩
end
/-! ### the dict in a slot -/
def onDic (δ : DE) (i : Nat) (k : List (Key × D) → Prop) : Prop := ∃ ds, δ[i]? = some (some (.dic (shs ds))) ∧ k ds
section
variable {K : PySem.W.Frag} {C : Zn} {F0 F F1 F' : Addr → Prop} {H0 H H1 H' : Hp} {σ : L2.St} {δ : DE}
theorem At0.dic (x : At0 K C F H σ δ) {i : Nat} {ds : List (Key × D)} (e : δ[i]? = some (some (.dic (shs ds)))) : ∃ a kvs, σ[i]? = some (some (.ref a)) ∧ H a = some (.dK kvs) ∧ KD K F H kvs ds := by
  obtain ⟨as, E, nd, o, b⟩ := x
  obtain ⟨v, bs, e1, r, _⟩ := E.get e
  obtain ⟨a, kvs, rfl, _, q1, q2⟩ := Rep.dicOf r
  exact ⟨a, kvs, e1, q1, q2⟩
end
def onKey1 (y : R) (Q : Key → Prop) : Prop := match y with
  | .val (.sh (.int i)) => Q (.inl i)
  | .val (.sh (.str x)) => Q (.inr x)
  | _ => False
section
variable {C : Zn} {F0 : Addr → Prop} {H0 : Hp} {X : Cx} {e f : Expr} {te tx tf : DT} {pos : Pos}
/-- {} -/
def dDic0 : DT := fun _ Q => Q (.val (.dic (shs [])))
/-- x[k] = e, x a dict -/
def dSetK (i : Nat) (tx te : DT) : DS := fun D δ => te δ fun r => match r.fd with
  | some d => onDic δ i fun ds => ds.length < sizeLine ∧ tx δ fun y => onKey1 y fun k => D.nx (δ.set i (some (.dic (shs (putD ds k d)))))
  | none => False
/-- sorted(x), x a dict of whole numbers -/
def dSortK (i : Nat) : DT := fun δ Q => onDic δ i fun ds => ∃ ks : List Int, ds.map (·.1) = ks.map Sum.inl ∧ ks.length < 64 ∧ ∀ ys : List Int, ys.Perm ks → ys.Pairwise (· ≤ ·) → Q (.val (.own (ys.map fun n => .sh (.int n))))
/-- x.get(e, f) -/
def dGetK (i : Nat) (te tf : DT) : DT := fun δ Q => onDic δ i fun ds => te δ fun y => onKey1 y fun k => tf δ fun z => match z.fd with
  | some d => Q (.val (.sh ((valD ds k).getD d)))
  | none => False
/-- e in x, x a dict -/
def dInK (i : Nat) (te : DT) (b : Bool) : DT := fun δ Q => onDic δ i fun ds => te δ fun y => onKey1 y fun k => Q (.val (.sh (.bool (hasD ds k == b))))
/-- dict([..]) of pairs -/
def pairOf : D → Option (Key × D)
  | .tuple [.int i, d] => some (.inl i, d)
  | .tuple [.str x, d] => some (.inr x, d)
  | _ => none
def pairsOf : List D → Option (List (Key × D))
  | [] => some []
  | d :: ds => match pairOf d, pairsOf ds with
    | some p, some ps => some (p :: ps)
    | _, _ => none
def fDict (r : R) (Q : R → Prop) : Prop := match r.fd with
  | some (.list es) => (match pairsOf es with
    | some ds => Q (.val (.dic (shs (mergeD [] ds))))
    | none => False)
  | _ => False
end
end DL
set_option Elab.async false
set_option linter.all false
set_option maxRecDepth 100000
set_option maxHeartbeats 2000000
namespace DL
open PySem PySem.Spec L2
open PyProof.Rows hiding St
/-! ### sorted(set(..)) -/
section
variable {C : Zn} {X : Cx} {e : Expr} {te : DT} {pos p p1 pos1 : Pos}
/-- sorted(set(e)), e a tuple of whole numbers -/
def dSortSetI (te : DT) : DT := fun δ Q => te δ fun r => match r.sup with
  | some (.tuple ds) => (match numsOf ds with
    | some ns => ns.length ≤ 60 ∧ ∀ ms : List Int, ms.Pairwise (· < ·) → (∀ k, k ∈ ms ↔ k ∈ ns) → Q (.val (.own ((ms.map PyData.int).map DV.sh)))
    | none => False)
  | _ => False
/-! pairs -/
abbrev Pi := Int × Int
def piD (p : Pi) : D := .tuple [.int p.1, .int p.2]
def pisOf : List D → Option (List Pi)
  | [] => some []
  | .tuple [.int i, .int j] :: ds => (pisOf ds).map ((i, j) :: ·)
  | _ => none
def PiLt (p q : Pi) : Prop := p.1 < q.1 ∨ (p.1 = q.1 ∧ p.2 < q.2)
/-- sorted(set(e)), e a list of pairs of whole numbers from 0 to 63 -/
def dSortSetP (te : DT) : DT := fun δ Q => te δ fun r => match r.fd with
  | some (.list ds) => (match pisOf ds with
    | some ps => (ps.length < 64 ∧ ∀ p ∈ ps, (0 ≤ p.1 ∧ p.1 < 64) ∧ 0 ≤ p.2 ∧ p.2 < 64) ∧ ∀ qs : List Pi, qs.Pairwise PiLt → (∀ k, k ∈ qs ↔ k ∈ ps) → Q (.val (.own ((qs.map piD).map DV.sh)))
    | none => False)
  | _ => False
end
/-! ### a, b, .. = a list -/
section
variable {C : Zn} {X : Cx} {pos : Pos}
def gTL (n : Nat) (gs : List D → DE → (DE → Prop) → Prop) : DP := fun d δ Q => match d with
  | .list ds => ds.length = n ∧ gs ds δ Q
  | _ => False
end
end DL
set_option Elab.async false
set_option linter.all false
set_option maxRecDepth 100000
set_option maxHeartbeats 1000000
namespace DL
open PySem PySem.Spec L2
open PyProof.Rows hiding St
/-! ### the newer readings, computed -/
theorem shs_inj : ∀ {a b : List (Key × D)}, shs a = shs b → a = b
  | [], [], _ => rfl
  | [], _ :: _, h => by cases h
  | _ :: _, [], h => by cases h
  | (k, d) :: a, (j, e) :: b, h => by
    have h' : (k, DV.sh d) :: shs a = (j, DV.sh e) :: shs b := h
    injection h' with h1 h2
    injection h1 with h3 h4
    injection h4 with h5
    rw [h3, h5, shs_inj h2]
def onDO (o : Option (Option DV)) (k : List (Key × D) → Prop) : Prop := ∃ ds, o = some (some (.dic (shs ds))) ∧ k ds
section
variable {δ : DE} {E : DEnds} {Q : R → Prop}
@[simp] theorem onDic_e (i : Nat) (k : List (Key × D) → Prop) : onDic δ i k = onDO δ[i]? k := rfl
@[simp] theorem onDO_e (ds : List (Key × D)) (k : List (Key × D) → Prop) : onDO (some (some (.dic (shs ds)))) k = k ds := by
  apply propext
  constructor
  · rintro ⟨es, e, q⟩
    injection e with e
    injection e with e
    injection e with e
    rw [shs_inj e]; exact q
  · exact fun q => ⟨ds, rfl, q⟩
@[simp] theorem dDic0_e : dDic0 δ Q = Q (.val (.dic (shs []))) := rfl
@[simp] theorem dSetK_e (i : Nat) (tx te : DT) : dSetK i tx te E δ = te δ fun r => match r.fd with
  | some d => onDic δ i fun ds => ds.length < sizeLine ∧ tx δ fun y => onKey1 y fun k => E.nx (δ.set i (some (.dic (shs (putD ds k d)))))
  | none => False := rfl
@[simp] theorem dAsg_e (te : DT) (g : DP) : dAsg te g E δ = te δ fun r => match r.fd with
  | some d => g d δ E.nx
  | none => False := rfl
@[simp] theorem gTL_e {Q : DE → Prop} (n : Nat) (gs : List D → DE → (DE → Prop) → Prop) (ds : List D) : gTL n gs (.list ds) δ Q = (ds.length = n ∧ gs ds δ Q) := rfl
@[simp] theorem fMul_rep {d : D} {k : Nat} (h : 2 ≤ k ∧ k ≤ 1000 := by decide) : fMul (.val (.sh (.tuple [d]))) (.val (.sh (.int (k : Nat)))) Q = Q (.val (.sh (.tuple (List.replicate k d)))) := by
  unfold fMul
  simp
  all_goals exact fun _ => ⟨by omega, by omega⟩
theorem fMul_2 {d : D} : fMul (.val (.sh (.tuple [d]))) (.val (.sh (.int 2))) Q = Q (.val (.sh (.tuple [d, d]))) := fMul_rep (k := 2)
@[simp] theorem onKey1_i (i : Int) (k : Key → Prop) : onKey1 (.val (.sh (.int i))) k = k (.inl i) := rfl
@[simp] theorem onKey1_s (i : Str) (k : Key → Prop) : onKey1 (.val (.sh (.str i))) k = k (.inr i) := rfl
@[simp] theorem dSortK_e (i : Nat) : dSortK i δ Q = onDic δ i fun ds => ∃ ks : List Int, ds.map (·.1) = ks.map Sum.inl ∧ ks.length < 64 ∧ ∀ ys : List Int, ys.Perm ks → ys.Pairwise (· ≤ ·) → Q (.val (.own (ys.map fun n => .sh (.int n)))) := rfl
@[simp] theorem dGetK_e (i : Nat) (te tf : DT) : dGetK i te tf δ Q = onDic δ i fun ds => te δ fun y => onKey1 y fun k => tf δ fun z => match z.fd with
  | some d => Q (.val (.sh ((valD ds k).getD d)))
  | none => False := rfl
@[simp] theorem dInK_e (i : Nat) (te : DT) (b : Bool) : dInK i te b δ Q = onDic δ i fun ds => te δ fun y => onKey1 y fun k => Q (.val (.sh (.bool (hasD ds k == b)))) := rfl
@[simp] theorem fDict_o (es : List D) : fDict (.val (.own (es.map DV.sh))) Q = match pairsOf es with
  | some ds => Q (.val (.dic (shs (mergeD [] ds))))
  | none => False := by unfold fDict; rw [fd_own]; all_goals (dsimp only; generalize pairsOf es = o; cases o <;> rfl)
@[simp] theorem dSortSetI_e (te : DT) : dSortSetI te δ Q = te δ fun r => match r.sup with
  | some (.tuple ds) => (match numsOf ds with
    | some ns => ns.length ≤ 60 ∧ ∀ ms : List Int, ms.Pairwise (· < ·) → (∀ k, k ∈ ms ↔ k ∈ ns) → Q (.val (.own ((ms.map PyData.int).map DV.sh)))
    | none => False)
  | _ => False := rfl
@[simp] theorem dSortSetP_e (te : DT) : dSortSetP te δ Q = te δ fun r => match r.fd with
  | some (.list ds) => (match pisOf ds with
    | some ps => (ps.length < 64 ∧ ∀ p ∈ ps, (0 ≤ p.1 ∧ p.1 < 64) ∧ 0 ≤ p.2 ∧ p.2 < 64) ∧ ∀ qs : List Pi, qs.Pairwise PiLt → (∀ k, k ∈ qs ↔ k ∈ ps) → Q (.val (.own ((qs.map piD).map DV.sh)))
    | none => False)
  | _ => False := rfl
@[simp] theorem dEnum_t {Q : List D → Prop} (k : Bool) (te : DT) : dEnum k te δ Q = te δ fun x => match (if k then x.fd else x.sup) with
  | some (.tuple ds) => Q (enumD ds)
  | some (.list ds) => Q (enumD ds)
  | _ => False := rfl
@[simp] theorem dZipM_e {Q : List D → Prop} (t : DL') : dZipM t δ Q = t δ fun rs => match rs with
  | [x, y] => (match x.fd, y.fd with
    | some (.tuple ds), some (.list es) => Q (zipD ds es)
    | _, _ => False)
  | _ => False := rfl
@[simp] theorem dRangeDn_e {Q : List D → Prop} (ta tb : DT) : dRangeDn ta tb δ Q = ta δ fun x => onI x fun i => tb δ fun y => onI y fun j => small i ∧ small j ∧ Q (rangeDn i j) := rfl
end
end DL
set_option Elab.async false
set_option linter.all false
set_option maxRecDepth 100000
set_option maxHeartbeats 1000000
namespace HL
open PySem PySem.Spec L2 DL
open PyProof.Rows hiding St
/-! ### lots by what they hold -/
def fl (n : Nat) (p : Nat → Bool) : List Nat := (List.range n).filter p
theorem mem_fl {n : Nat} {p : Nat → Bool} {x : Nat} : x ∈ fl n p ↔ x < n ∧ p x = true := by unfold fl; rw [List.mem_filter, List.mem_range]
theorem lot_fl (n : Nat) (p : Nat → Bool) : Lot n (fl n p) := ⟨(range_sorted n).filter _, fun x m => (mem_fl.mp m).1⟩
theorem fl_of {n : Nat} {xs : List Nat} {p : Nat → Bool} (s : xs.Pairwise (· < ·)) (h : ∀ x, x ∈ xs ↔ x < n ∧ p x = true) : xs = fl n p := nat_strict s (lot_fl n p).st fun x => by rw [h, mem_fl]
/-- masks told bit by bit -/
theorem fl_bits {n m : Nat} {p : Nat → Bool} (h : m < 1024) (b : ∀ i, m.testBit i = true ↔ i < n ∧ p i = true) : bitsOf m = fl n p := fl_of (bits_sorted m) fun x => by rw [mem_bits h, b]
/-! ### deeds -/
abbrev Deed := Bool × Nat
def wordD (b : Bool) : D := .str (if b = true then "pour" else "open")
def deedD (d : Deed) : D := .tuple [wordD d.1, .int d.2]
def scriptD (s : List Deed) : D := .tuple (s.map deedD)
def SOk (n : Nat) (s : List Deed) : Prop := (∀ d ∈ s, d.2 < n) ∧ s.length ≤ 1000
theorem word_ne : ¬ (("open" : Str) = "pour") := by decide
theorem word_ne' : ¬ (("pour" : Str) = "open") := by decide
@[simp] theorem word_pour (b : Bool) : rEqv (wordD b) (.str "pour") = b := by cases b <;> simp [wordD, word_ne]
@[simp] theorem word_open (b : Bool) : rEqv (wordD b) (.str "open") = !b := by cases b <;> simp [wordD, word_ne']
@[simp] theorem word_dep (b : Bool) (x : Str) : sDep (wordD b) (.str x) ↔ True := by unfold wordD; simp
@[simp] theorem word_ty (b : Bool) : tyIs "str" (wordD b) = true := rfl
@[simp] theorem word_nl (b : Bool) : noLst (wordD b) = true := by unfold wordD; rw [noLst]; all_goals simp
@[simp] theorem noLst_deed (d : Deed) : noLst (deedD d) = true := by unfold deedD; simp
theorem noLsts_deeds (s : List Deed) : noLsts (s.map deedD) = true := noLsts_all fun d m => by
  obtain ⟨x, _, rfl⟩ := List.mem_map.mp m
  exact noLst_deed x
@[simp] theorem noLst_lotD (xs : List Nat) : noLst (lotD xs) = true := by
  unfold lotD
  rw [noLst_tuple]
  exact noLsts_all fun d m => by
    obtain ⟨i, _, rfl⟩ := List.mem_map.mp m
    exact noLst_int _
@[simp] theorem noLst_script (s : List Deed) : noLst (scriptD s) = true := by unfold scriptD; rw [noLst_tuple]; exact noLsts_deeds s
/-! ### what a script does -/
theorem snoc_ind {α : Type} {P : List α → Prop} (h0 : P []) (h1 : ∀ s d, P s → P (s ++ [d])) (s : List α) : P s := by
  have : ∀ r : List α, P r.reverse := fun r => by
    induction r with
    | nil => exact h0
    | cons d r ih => rw [List.reverse_cons]; exact h1 _ _ ih
  have := this s.reverse
  rwa [List.reverse_reverse] at this
/-- a couple, by what is wet and dry -/
structure Cpl where
  wet : Nat → Bool
  dry : Nat → Bool
def coupD (n : Nat) (c : Cpl) : D := .tuple [lotD (fl n c.wet), lotD (fl n c.dry)]
@[simp] theorem noLst_coup (n : Nat) (c : Cpl) : noLst (coupD n c) = true := by unfold coupD; simp
end HL
set_option Elab.async false
set_option linter.all false
set_option maxRecDepth 100000
set_option maxHeartbeats 1000000
namespace HL
open PySem PySem.Spec L2 DL
open PyProof.Rows hiding St
/-! ### masks without others -/
/-- the mask of the lot that p tells -/
def Msk (n : Nat) (p : Nat → Bool) (m : Nat) : Prop := m < 1024 ∧ ∀ y, m.testBit y = true ↔ y < n ∧ p y = true
theorem Msk.or {n a b : Nat} {p q : Nat → Bool} (h : Msk n p a) (k : Msk n q b) : Msk n (fun y => p y || q y) (a ||| b) := ⟨or_lt h.1 k.1, fun y => by
  rw [Nat.testBit_or, Bool.or_eq_true, h.2, k.2, Bool.or_eq_true]
  constructor
  · rintro (⟨z, w⟩ | ⟨z, w⟩)
    · exact ⟨z, .inl w⟩
    · exact ⟨z, .inr w⟩
  · rintro ⟨z, w | w⟩
    · exact .inl ⟨z, w⟩
    · exact .inr ⟨z, w⟩⟩
theorem Msk.and {n a b : Nat} {p q : Nat → Bool} (h : Msk n p a) (k : Msk n q b) : Msk n (fun y => p y && q y) (a &&& b) := ⟨Nat.lt_of_le_of_lt Nat.and_le_left h.1, fun y => by
  rw [Nat.testBit_and, Bool.and_eq_true, h.2, k.2, Bool.and_eq_true]
  constructor
  · rintro ⟨⟨z, w⟩, _, v⟩; exact ⟨z, w, v⟩
  · rintro ⟨z, w, v⟩; exact ⟨⟨z, w⟩, z, v⟩⟩
theorem Msk.congr {n a : Nat} {p q : Nat → Bool} (h : Msk n p a) (e : ∀ x, x < n → p x = q x) : Msk n q a := ⟨h.1, fun y => by
  rw [h.2]
  constructor
  · rintro ⟨z, w⟩; exact ⟨z, e y z ▸ w⟩
  · rintro ⟨z, w⟩; exact ⟨z, (e y z).symm ▸ w⟩⟩
theorem Msk.bits {n a : Nat} {p : Nat → Bool} (h : Msk n p a) : bitsOf a = fl n p := fl_bits h.1 h.2
theorem Msk.uniq {n a b : Nat} {p q : Nat → Bool} (h : Msk n p a) (k : Msk n q b) : a = b ↔ ∀ x, x < n → p x = q x := by
  constructor
  · rintro rfl x hx
    have := (h.2 x).symm.trans (k.2 x)
    cases e1 : p x <;> cases e2 : q x <;> simp [hx, e1, e2] at this ⊢
  · intro e
    refine Nat.eq_of_testBit_eq fun i => ?_
    have h' := h.congr e
    rw [Bool.eq_iff_iff, h'.2, k.2]
/-! ### deeds and scripts of the program -/
end HL
set_option Elab.async false
set_option linter.all false
set_option maxRecDepth 100000
set_option maxHeartbeats 1000000
namespace HL
open PySem PySem.Spec L2 DL
open PyProof.Rows hiding St
end HL
set_option Elab.async false
set_option linter.all false
set_option maxRecDepth 100000
set_option maxHeartbeats 1000000
namespace HL
open PySem PySem.Spec L2 DL
open PyProof.Rows hiding St
end HL
set_option Elab.async false
set_option linter.all false
set_option maxRecDepth 100000
set_option maxHeartbeats 1000000
namespace HL
open PySem PySem.Spec L2 DL
open PyProof.Rows hiding St
/-! ### lower and upper lots -/
/-! ### water, couples -/
end HL
set_option Elab.async false
set_option linter.all false
set_option maxRecDepth 100000
set_option maxHeartbeats 1000000
namespace HL
open PySem PySem.Spec L2 DL
open PyProof.Rows hiding St
/-! ### the last deed that reaches a terrace -/
def optD (o : Option Nat) : D := match o with
  | none => .none
  | some i => .int i
end HL
set_option Elab.async false
set_option linter.all false
set_option maxRecDepth 100000
set_option maxHeartbeats 1000000
namespace HL
open PySem PySem.Spec L2 DL
open PyProof.Rows hiding St
end HL
set_option Elab.async false
set_option linter.all false
set_option maxRecDepth 100000
set_option maxHeartbeats 1000000
namespace HL
open PySem PySem.Spec L2 DL
open PyProof.Rows hiding St
/-! ### sets of terraces in a dict -/
def KN (n : Nat) (ds : List (Key × D)) (S : Nat → Prop) : Prop := ∃ kn : List Nat, ds.map (·.1) = kn.map (fun k : Nat => Sum.inl (k : Int)) ∧ kn.Nodup ∧ (∀ k ∈ kn, k < n) ∧ ∀ y, y ∈ kn ↔ S y
theorem KN.nil (n : Nat) : KN n [] fun _ => False := ⟨[], rfl, List.nodup_nil, fun _ m => (by cases m), fun y => by simp⟩
theorem KN.congr {n : Nat} {ds : List (Key × D)} {S T : Nat → Prop} (h : KN n ds S) (e : ∀ y, S y ↔ T y) : KN n ds T := by
  obtain ⟨kn, h1, h2, h3, h4⟩ := h
  exact ⟨kn, h1, h2, h3, fun y => (h4 y).trans (e y)⟩
theorem KN.put {n x : Nat} {ds : List (Key × D)} {S : Nat → Prop} {d : D} (h : KN n ds S) (hx : x < n) : KN n (putD ds (.inl (x : Int)) d) fun y => y = x ∨ S y := by
  obtain ⟨kn, h1, h2, h3, h4⟩ := h
  have hk : hasD ds (.inl (x : Int)) = true ↔ x ∈ kn := by
    rw [hasD_mem, h1]
    constructor
    · intro m
      obtain ⟨k, m, e⟩ := List.mem_map.mp m
      injection e with e
      have : k = x := by omega
      rw [← this]; exact m
    · exact fun m => List.mem_map.mpr ⟨x, m, rfl⟩
  by_cases m : x ∈ kn
  · refine ⟨kn, by rw [putD_keys, if_pos (hk.mpr m), h1], h2, h3, fun y => ?_⟩
    rw [h4]
    constructor
    · exact .inr
    · rintro (rfl | z)
      · exact (h4 _).mp m
      · exact z
  · refine ⟨kn ++ [x], by rw [putD_keys, if_neg (mt hk.mp m), h1, List.map_append]; rfl, ?_, fun k mk => ?_, fun y => ?_⟩
    · rw [List.nodup_append]
      exact ⟨h2, by simp, fun a ma b mb e => m (by rw [List.mem_singleton] at mb; rw [← mb, ← e]; exact ma)⟩
    · rcases List.mem_append.mp mk with mk | mk
      · exact h3 k mk
      · rw [List.mem_singleton.mp mk]; exact hx
    · rw [List.mem_append, List.mem_singleton, h4]
      exact or_comm
theorem nodup_len {n : Nat} {l : List Nat} (nd : l.Nodup) (h : ∀ k ∈ l, k < n) : l.length ≤ n := by
  have := nat_nodup_len l (List.range n) nd fun x m => List.mem_range.mpr (h x m)
  rwa [List.length_range] at this
theorem KN.len {n : Nat} {ds : List (Key × D)} {S : Nat → Prop} (h : KN n ds S) : ds.length ≤ n := by
  obtain ⟨kn, h1, h2, h3, _⟩ := h
  have := congrArg List.length h1
  rw [List.length_map, List.length_map] at this
  rw [this]
  exact nodup_len h2 h3
end HL
set_option Elab.async false
set_option linter.all false
set_option maxRecDepth 100000
set_option maxHeartbeats 1000000
namespace HL
open PySem PySem.Spec L2 DL
open PyProof.Rows hiding St
end HL
set_option Elab.async false
set_option linter.all false
set_option maxRecDepth 100000
set_option maxHeartbeats 1000000
namespace HL
open PySem PySem.Spec L2 DL
open PyProof.Rows hiding St
end HL
set_option Elab.async false
set_option linter.all false
set_option maxRecDepth 100000
set_option maxHeartbeats 1000000
namespace HL
open PySem PySem.Spec L2 DL
open PyProof.Rows hiding St
/-- the dict tells p: what it lacks is False -/
def WD (n : Nat) (ds : List (Key × D)) (p : Nat → Bool) : Prop := (∀ y, y < n → (valD ds (.inl (y : Int))).getD (.bool false) = .bool (p y)) ∧ KN n ds fun y => hasD ds (.inl (y : Int)) = true
theorem KN.has {n : Nat} {ds : List (Key × D)} {S : Nat → Prop} (h : KN n ds S) : KN n ds fun y => hasD ds (.inl (y : Int)) = true := by
  obtain ⟨kn, h1, h2, h3, h4⟩ := h
  refine ⟨kn, h1, h2, h3, fun y => ?_⟩
  show y ∈ kn ↔ hasD ds (Sum.inl (y : Int)) = true
  rw [hasD_mem, h1, List.mem_map]
  constructor
  · exact fun m => ⟨y, m, rfl⟩
  · rintro ⟨k, m, e⟩
    injection e with e
    have : k = y := by omega
    rw [← this]; exact m
theorem WD.put {n x : Nat} {ds : List (Key × D)} {p : Nat → Bool} {b : Bool} (h : WD n ds p) (hx : x < n) : WD n (putD ds (.inl (x : Int)) (.bool b)) fun y => if y = x then b else p y := by
  refine ⟨fun y hy => ?_, (h.2.put hx).has⟩
  rw [valD_put]
  by_cases e : y = x
  · subst e; simp
  · have : ¬ ((.inl (y : Int) : Key) = .inl (x : Int)) := fun z => by
      injection z with z
      omega
    show _ = PyData.bool (if y = x then b else p y)
    rw [if_neg this, if_neg e]
    exact h.1 y hy
theorem WD.congr {n : Nat} {ds : List (Key × D)} {p r : Nat → Bool} (h : WD n ds p) (e : ∀ y, y < n → p y = r y) : WD n ds r := ⟨fun y hy => by rw [h.1 y hy, e y hy], h.2⟩
theorem WD.len {n : Nat} {ds : List (Key × D)} {p : Nat → Bool} (h : WD n ds p) : ds.length ≤ n := h.2.len
theorem merge_snoc (ds more : List (Key × D)) (e : Key × D) : mergeD ds (more ++ [e]) = putD (mergeD ds more) e.1 e.2 := by unfold mergeD; rw [List.foldl_append]; rfl
theorem WD.start {n : Nat} : ∀ (xs : List Nat), (∀ x ∈ xs, x < n) → WD n (mergeD [] (xs.map fun x : Nat => ((.inl (x : Int) : Key), (.bool true : D)))) fun y => decide (y ∈ xs) := by
  intro xs
  induction xs using snoc_ind with
  | h0 => exact fun _ => ⟨fun y _ => by simp [mergeD, valD], (KN.nil n).congr fun y => by simp [mergeD, hasD]⟩
  | h1 s x ih =>
    intro h
    rw [List.map_append, List.map_cons, List.map_nil, merge_snoc]
    refine ((ih fun y m => h y (List.mem_append_left _ m)).put (h x (by simp))).congr fun y _ => ?_
    by_cases e : y = x <;> simp [e]
end HL
set_option Elab.async false
set_option linter.all false
set_option maxRecDepth 100000
set_option maxHeartbeats 1000000
namespace HL
open PySem PySem.Spec L2 DL
open PyProof.Rows hiding St
/-! ### what can be shown -/
@[simp] theorem fIx_coup0 {n : Nat} {c : Cpl} {Q : R → Prop} : fIx (.val (.sh (coupD n c))) (.val (.sh (.int 0))) Q = Q (.val (.sh (lotD (fl n c.wet)))) := by unfold coupD; simp
@[simp] theorem fIx_coup1 {n : Nat} {c : Cpl} {Q : R → Prop} : fIx (.val (.sh (coupD n c))) (.val (.sh (.int 1))) Q = Q (.val (.sh (lotD (fl n c.dry)))) := by unfold coupD; simp
@[simp] theorem fAdd_script {s t : List Deed} {Q : R → Prop} : fAdd (.val (.sh (scriptD s))) (.val (.sh (scriptD t))) Q = (s.length + t.length ≤ sizeLine ∧ Q (.val (.sh (scriptD (s ++ t))))) := by unfold scriptD; simp
/-! ### plain laws of couples -/
end HL
set_option Elab.async false
set_option linter.all false
set_option maxRecDepth 100000
set_option maxHeartbeats 1000000
namespace HL
open PySem PySem.Spec L2 DL
open PyProof.Rows hiding St
@[simp] theorem isN_opt (o : Option Nat) : rIsD (optD o) .none = o.isNone := by cases o <;> rfl
@[simp] theorem isN_side (d : D) : sIs d .none ↔ True := by unfold sIs; simp
end HL
set_option Elab.async false
set_option linter.all false
set_option maxRecDepth 100000
set_option maxHeartbeats 1000000
namespace HL
open PySem PySem.Spec L2 DL
open PyProof.Rows hiding St
def SSh (n : Nat) (s : List Deed) : Prop := (∀ d ∈ s, d.2 < n) ∧ s.length ≤ 100
theorem SSh.ok {n : Nat} {s : List Deed} (h : SSh n s) : SOk n s := ⟨h.1, by have := h.2; omega⟩
end HL
set_option Elab.async false
set_option linter.all false
set_option maxRecDepth 100000
set_option maxHeartbeats 1000000
namespace HL
open PySem PySem.Spec L2 DL
open PyProof.Rows hiding St
@[simp] theorem fLen_script {Q : R → Prop} (s : List Deed) : fLen (.val (.sh (scriptD s))) Q = Q (.val (.sh (.int s.length))) := by unfold scriptD; simp
end HL
set_option Elab.async false
set_option linter.all false
set_option maxRecDepth 100000
set_option maxHeartbeats 2000000
namespace DL
open PySem PySem.Spec L2
open PyProof.Rows hiding St
/-! ### t[::-1] of a tuple -/
section
variable {C : Zn} {X : Cx} {e : Expr} {te : DT} {pos : Pos}
/-- e[::-1], e a tuple -/
def dRev (te : DT) : DT := fun δ Q => te δ fun r => match r.sup with
  | some (.tuple ds) => Q (.val (.sh (.tuple ds.reverse)))
  | _ => False
@[simp] theorem dRev_e {δ : DE} {Q : R → Prop} (te : DT) : dRev te δ Q = te δ fun r => match r.sup with
  | some (.tuple ds) => Q (.val (.sh (.tuple ds.reverse)))
  | _ => False := rfl
end
end DL
set_option Elab.async false
set_option linter.all false
set_option maxRecDepth 100000
set_option maxHeartbeats 2000000
namespace DL
open PySem PySem.Spec L2
open PyProof.Rows hiding St
/-! ### dict displays; .get of them -/
abbrev DPs := DE → (List (Key × D) → Prop) → Prop
def dPNil : DPs := fun _ Q => Q []
def dPCons (tk tv : DT) (t : DPs) : DPs := fun δ Q => tk δ fun y => onKey1 y fun k => tv δ fun z => match z.fd with
  | some d => t δ fun ds => Q ((k, d) :: ds)
  | none => False
section
variable {C : Zn} {X : Cx} {k v e f o : Expr} {tk tv te tf to : DT} {t : DPs} {pos : Pos} {keys : List (Option Expr)} {values : List Expr}
/-- {k: v, ..} -/
def dDisp (t : DPs) : DT := fun δ Q => t δ fun ds => Q (.val (.dic (shs (mergeD [] ds))))
/-- o.get(e, f), o a new dict -/
def dGetX (to te tf : DT) : DT := fun δ Q => to δ fun r => match r with
  | .val (.dic es) => ∃ ds, es = shs ds ∧ te δ fun y => onKey1 y fun k => tf δ fun z => (match z.fd with
    | some d => Q (.val (.sh ((valD ds k).getD d)))
    | none => False)
  | _ => False
@[simp] theorem dPNil_e {δ : DE} {Q : List (Key × D) → Prop} : dPNil δ Q = Q [] := rfl
@[simp] theorem dPCons_e {δ : DE} {Q : List (Key × D) → Prop} (tk tv : DT) (t : DPs) : dPCons tk tv t δ Q = tk δ fun y => onKey1 y fun k => tv δ fun z => match z.fd with
  | some d => t δ fun ds => Q ((k, d) :: ds)
  | none => False := rfl
@[simp] theorem dDisp_e {δ : DE} {Q : R → Prop} (t : DPs) : dDisp t δ Q = t δ fun ds => Q (.val (.dic (shs (mergeD [] ds)))) := rfl
@[simp] theorem dGetX_e {δ : DE} {Q : R → Prop} (to te tf : DT) : dGetX to te tf δ Q = to δ fun r => match r with
  | .val (.dic es) => ∃ ds, es = shs ds ∧ te δ fun y => onKey1 y fun k => tf δ fun z => (match z.fd with
    | some d => Q (.val (.sh ((valD ds k).getD d)))
    | none => False)
  | _ => False := rfl
end
end DL
set_option Elab.async false
set_option linter.all false
set_option maxRecDepth 100000
set_option maxHeartbeats 1000000
namespace HL
open PySem PySem.Spec L2 DL
open PyProof.Rows hiding St
/-! ### highest and lowest ones -/
def ge (ps : List Pr) (a b : Nat) : Bool := le ps b a
end HL
set_option Elab.async false
set_option linter.all false
set_option maxRecDepth 100000
set_option maxHeartbeats 1000000
namespace DL
open PySem PySem.Spec L2
open PyProof.Rows hiding St
open PySem.W (alike dataLt dataLe AllAlike EachIs)
open PySem.Calls
/-! ### sorted of tuples of which some may be empty -/
def TupsD (ds : List D) : Prop := ∀ d ∈ ds, ∃ r, d = .tuple r
section
variable {A : Around} {s : Shared}
open PySem.SeqAt in
theorem call_tuple_lt {prog : Program} {w : World} {E : Value → Shared → Prop} {Q : Value → Shared → Prop} {l b : Addr} {items items2 : Array Value} {e r : Nat → Bool} (hl : s.heap.IsTuple l items) (hb : s.heap.IsTuple b items2)
    (he : ∀ j (h1 : j < items.size) (h2 : j < items2.size), PySem.SeqAt.EqAt A.in1 s items[j] items2[j] (e j)) (hr : ∀ j (h1 : j < items.size) (h2 : j < items2.size), e j = false → PySem.SeqAt.RcLt A.in1 s items[j] items2[j] (r j))
    (h : Q (.bool (PySem.SeqAt.firstLt e r (decide (items.size < items2.size)) (List.range (min items.size items2.size)))) s) : wpAny (model prog w) A (call (.builtin "tuple.__lt__") [.ref l, .ref b]) Q E s := by
  obtain ⟨⟨cls, dd, data, sl⟩, ho, hc, n, hd⟩ := id hl
  obtain ⟨⟨cls2, dd2, data2, sl2⟩, ho2, hc2, n2, hd2⟩ := id hb
  simp only at hc hd hc2 hd2
  subst hc hd hc2 hd2
  exact call_meets PySem.F.slot_tuple_lt ⟨_, ho, rfl⟩ PySem.F.entry_tuple_lt (PySem.F.args_tuple_lt_2 _ _) (PySem.SeqAt.tuple_ltAt l b items items2 n n2 dd dd2 sl sl2 e r) ⟨ho, ho2, he, hr, h⟩
end
section
variable {prog : Program} {w : World} {A : Around} {E : Value → Shared → Prop} {s : Shared}
open PySem.SeqAt PySem.W in
theorem oneLt_tups {xs ys : List D} {a b : Value} {as bs : List Addr} {Q : Bool → Shared → Prop} (ra : Reads s.heap a (.tuple xs) as) (rb : Reads s.heap b (.tuple ys) bs) (h : alike (.tuple xs) (.tuple ys) = true)
    (hu : A.units + min (PyData.tuple xs).depth (PyData.tuple ys).depth < cLine) (hq : Q (dataLt (.tuple xs) (.tuple ys)) s) : wpAny (model prog w) A (oneLt' true a b) Q E s := by
  have hal : alikeAll xs ys = true := by simpa [alike] using h
  cases ra with
  | @tuple l o vs n _ as₁ h1 h2 h3 h4 =>
    cases rb with
    | @tuple l' o' vs' n' _ bs₁ k1 k2 k3 k4 =>
      have n1 : vs.size = xs.length := by simpa using ReadsAll.length _ _ _ h4
      have n2 : vs'.size = ys.length := by simpa using ReadsAll.length _ _ _ k4
      rw [dataLt_tuple, ← firstLt_toks xs ys hal, ← n1, ← n2] at hq
      rw [oneLt'_eq]
      simp only [if_true]
      refine wpAny_bind (wpAny_cRoomFor (room_here hu) ?_)
      refine wpAny_bind (wpAny_callSpecialIfBound?_slot (T := "tuple") ⟨_, h1, h2⟩ PySem.F.slot_tuple_lt (call_tuple_lt (e := pairEq xs ys) (r := fun j => dataLt (xs.getD j .none) (ys.getD j .none)) ⟨_, h1, h2, _, h3⟩ ⟨_, k1, k2, _, k3⟩ (fun j j1 j2 => ?_) (fun j j1 j2 hj => ?_) ?_))
      · have := eqAt_alikeAll xs ys A.in1 s vs.toList vs'.toList _ _ h4 k4 hal (room_in hu) j (by simpa using j1) (by simpa using j2)
        simpa using this
      · have := rcLt_alikeAll xs ys A.in1 s vs.toList vs'.toList _ _ h4 k4 hal (room_in hu) j (by simpa using j1) (by simpa using j2) hj
        simpa using this
      · exact wpAny_truthy_bool hq
/-- the firsts of tuples: an empty one has none -/
theorem firstsT {h : Heap} {M : Model} : ∀ {vs : List Value} {ds : List D} {Q : List (Option Value) → Shared → Prop}, EachIs (fun v d => ∃ as, Reads s.heap v d as) vs ds → TupsD ds →
    (∀ fs : List (Option Value), fs.map (·.isSome) = ds.map (fun d => match d with | .tuple [] => false | _ => true) → Q fs s) → wpAny M A (vs.mapM firstOfTuple') Q E s
  | _, _, _, .nil, _, h => by rw [List.mapM_nil]; exact wpAny_pure (h [] rfl)
  | _, _, Q, .cons (b := d) ⟨as, r⟩ t, ht, hq => by
    obtain ⟨xs, rfl⟩ := ht d (List.mem_cons_self ..)
    cases r with
    | @tuple a o vs n _ _ ho hc hd hr =>
      rw [List.mapM_cons]
      refine wpAny_bind ?_
      rw [PySem.W.kas_first_eq]
      refine wpAny_bind (PySem.W.Looks.here (show PySem.W.Looks M s.heap (typeOf (.ref a)) o.cls from (PySem.W.Looks.ld ho).andThen .now) ?_)
      rw [hc, if_neg (by first | decide | simp)]
      refine wpAny_bind (listItems_at ho hd (wpAny_pure ?_))
      refine wpAny_bind (firstsT (h := h) (M := M) (Q := fun bs s' => wpAny M A (pure (vs[0]? :: bs)) Q E s') t (fun d m => ht d (List.mem_cons_of_mem _ m)) fun fs e => wpAny_pure (hq _ ?_))
      rw [List.map_cons, List.map_cons, e]
      congr 1
      have n1 : vs.size = xs.length := by simpa using PySem.SeqAt.ReadsAll.length _ _ _ hr
      cases xs with
      | nil =>
        have : vs[0]? = none := by simp; simpa using n1
        rw [this]; rfl
      | cons x xs =>
        have : 0 < vs.size := by rw [n1]; simp
        simp [this]
/-- is the first of them empty? -/
def headE : List D → Bool
  | .tuple [] :: _ => true
  | _ => false
theorem kindT {M : Model} {vs : List Value} {ds : List D} {Q : SortKind → Shared → Prop} (e : EachIs (fun v d => ∃ as, Reads s.heap v d as) vs ds) (ht : TupsD ds) (hn : PyData.tuple [] ∈ ds) (h1 : Q (if headE ds then oneType' else general') s) :
    wpAny M A (keyKind' vs.toArray) Q E s := by
  rw [kat_kind_eq, List.mapM_toArray, map_eq_pure_bind]
  refine wpAny_bind (wpAny_bind (firstsT (h := s.heap) e ht fun fs ef => wpAny_pure ?_))
  have hall : (fs.toArray.all fun x => x.isSome) = false := by
    have m : false ∈ fs.map (·.isSome) := by rw [ef]; exact List.mem_map.mpr ⟨_, hn, rfl⟩
    obtain ⟨o, m1, m2⟩ := List.mem_map.mp m
    rw [List.all_toArray]
    rw [List.all_eq_false]
    exact ⟨o, m1, by simp [m2]⟩
  rw [if_neg (by rw [hall]; simp)]
  cases ds with
  | nil => exact absurd hn (by simp)
  | cons d₀ ds =>
    obtain ⟨xs, rfl⟩ := ht d₀ (List.mem_cons_self ..)
    cases fs with
    | nil => exact absurd ef (by simp)
    | cons f fs =>
      have ef0 : f.isSome = (match PyData.tuple xs with | .tuple [] => false | _ => true) := by
        rw [List.map_cons, List.map_cons] at ef
        exact (List.cons.inj ef).1
      have h0 : (((f :: fs).toArray)[0]?.bind id).isSome = f.isSome := by simp
      rw [h0]
      cases xs with
      | cons x xs =>
        have ef1 : f.isSome = true := ef0
        rw [ef1]
        simp only [if_true]
        exact wpAny_pure h1
      | nil =>
        have ef1 : f.isSome = false := ef0
        rw [ef1]
        simp only [Bool.false_eq_true, if_false]
        rw [oneTypeOnly'_eq, List.mapM_toArray, map_eq_pure_bind]
        cases e with
        | cons e1 e2 =>
          rename_i v vs
          have er := EachIs.cons e1 e2
          refine wpAny_bind (wpAny_bind (wpAny_bind (PySem.W.kas_mapM (r := Value.type "tuple") _ (fun v hv Q' hq => ?_) (wpAny_pure ?_))))
          · obtain ⟨d, hd, as, r⟩ := er.left v hv
            obtain ⟨xs, rfl⟩ := ht d hd
            exact (PySem.W.looks_reads r).here hq
          · have hall : ((List.map (fun _ => Value.type "tuple") (v :: vs)).toArray.all fun x => x == Value.type "tuple") = true := by
              simp only [List.all_toArray, List.all_map, List.all_eq_true]
              intro _ _
              exact beq_self_eq_true _
            have h0 : (List.map (fun _ => Value.type "tuple") (v :: vs)).toArray[0]? = some (Value.type "tuple") := by simp
            rw [h0]
            simp only [hall, if_true]
            exact wpAny_pure (wpAny_pure h1)
open PySem.W in
theorem SortsAt_dataT {vs : List Value} {ds : List D} (e : EachIs (fun v d => ∃ as, Reads s.heap v d as) vs ds) (hal : AllAlike ds) (hk : TupsD ds) (hu : ∀ d, d ∈ ds → A.units + d.depth < cLine) : SortsAt prog w A s (dataKind s.heap ds) vs := by
  by_cases hn : PyData.tuple [] ∈ ds
  · have room : ∀ {d d' : D}, d ∈ ds → A.units + min d.depth d'.depth < cLine := fun {d d'} hd => Nat.lt_of_le_of_lt (Nat.add_le_add_left (Nat.min_le_left _ _) _) (hu d hd)
    refine ⟨fun v hv => ?_, ?_⟩
    · obtain ⟨d, hd, as, r⟩ := e.left v hv
      exact ⟨_, dataKind_some hal hd r⟩
    · refine ⟨if headE ds then oneType' else general', ?_, fun h2 E Q hq => kindT e hk hn hq⟩
      intro E x y a b Q ha hb hq
      obtain ⟨d, as, hd, ra, rfl⟩ := dataKind_inv ha
      obtain ⟨d', as', hd', rb, rfl⟩ := dataKind_inv hb
      obtain ⟨xs, rfl⟩ := hk d hd
      obtain ⟨ys, rfl⟩ := hk d' hd'
      have hroom := room (d' := .tuple ys) hd
      split
      · rw [keyLt'_oneType]
        exact oneLt_tups ra rb (hal _ hd _ hd') hroom hq
      · show wpAny (model prog w) A (oneLt' false x y) Q E s
        exact oneLt_alike (fun z => absurd z (by simp)) ra rb (hal _ hd _ hd') (by simp) hroom hq
  · refine SortsAt.data e hal (.inl fun d hd => ?_) hu
    obtain ⟨r, rfl⟩ := hk d hd
    cases r with
    | nil => exact absurd hd hn
    | cons x r => exact ⟨x, r, rfl⟩
end
def fSortT : R → (R → Prop) → Prop := fun x Q => match x.sup with
  | some d => (match seqOf d with
    | some ds => (AllAlike ds ∧ TupsD ds ∧ ∀ d ∈ ds, d.depth ≤ 60) ∧ Q (.val (.own ((sortD ds).map DV.sh)))
    | none => False)
  | none => False
@[simp] theorem fSortT_o {Q : R → Prop} (ds : List D) : fSortT (.val (.own (ds.map DV.sh))) Q = ((AllAlike ds ∧ TupsD ds ∧ ∀ d ∈ ds, d.depth ≤ 60) ∧ Q (.val (.own ((sortD ds).map DV.sh)))) := by unfold fSortT; simp
@[simp] theorem fSortT_t {Q : R → Prop} (ds : List D) : fSortT (.val (.sh (.tuple ds))) Q = ((AllAlike ds ∧ TupsD ds ∧ ∀ d ∈ ds, d.depth ≤ 60) ∧ Q (.val (.own ((sortD ds).map DV.sh)))) := by unfold fSortT; simp
end DL
set_option Elab.async false
set_option linter.all false
set_option maxRecDepth 100000
set_option maxHeartbeats 1000000
namespace HL
open PySem PySem.Spec L2 DL
open PyProof.Rows hiding St
/-! ### waters -/
end HL
set_option Elab.async false
set_option linter.all false
set_option maxRecDepth 100000
set_option maxHeartbeats 1000000
namespace HL
open PySem PySem.Spec L2 DL
open PyProof.Rows hiding St
def g_need_book : Sg := pr (fun x : Nat × List Pr => [.sh (bookD x.1 x.2)]) (fun x => Good x.1 x.2) (fun _ dv => dv = .sh .none)
def n_need_book : List Str := ["book"]
def t_need_book : DS := dIfS (dNot (dTest (dCall g_is_book_value (dCons (dVar 0) (dNil))))) (dNever) (dNext)
theorem p_need_book (ds : List DV) (Q : DV → Prop) (h : g_need_book ds Q) : t_need_book { nx := fun _ => Q (.sh .none), rt := Q } (startD n_need_book ds) := by
  obtain ⟨⟨n, ps⟩, rfl, G, q⟩ := h
  simp [t_need_book, startD, n_need_book]
  refine pr_call (n, ps) rfl G ?_
  rintro dv rfl
  simp
  exact q _ rfl
def g_closing : Sg := pr (fun x : Nat × List Pr => [.sh (bookD x.1 x.2)]) (fun x => Good x.1 x.2) (fun x dv => dv = .sh (bookD x.1 (clo x.1 x.2)))
def n_closing : List Str := ["book"]
def t_closing : DS := dSeq2 (dExpr (dCall g_need_book (dCons (dVar 0) (dNil)))) (dRet (dCall g_closing_of (dCons (dVar 0) (dNil))))
theorem p_closing (ds : List DV) (Q : DV → Prop) (h : g_closing ds Q) : t_closing { nx := fun _ => Q (.sh .none), rt := Q } (startD n_closing ds) := by
  obtain ⟨⟨n, ps⟩, rfl, G, q⟩ := h
  simp [t_closing, startD, n_closing]
  refine pr_call (n, ps) rfl G ?_
  rintro dv rfl
  refine pr_call (n, ps) rfl G ?_
  rintro dv rfl
  exact q _ rfl
end HL
set_option Elab.async false
set_option linter.all false
set_option maxRecDepth 100000
set_option maxHeartbeats 1000000
namespace HL
open PySem PySem.Spec L2 DL
open PyProof.Rows hiding St
/-! the made script -/
end HL
set_option Elab.async false
set_option linter.all false
set_option maxRecDepth 100000
set_option maxHeartbeats 2000000
namespace DL
open PySem PySem.Spec L2
open PyProof.Rows hiding St
open PySem.W (alike dataLt dataLe AllAlike EachIs)
/-! ### dicts in a name whose keys are tuples of ints and texts (the keys alone) -/
section
variable {K : PySem.W.Frag} {C : Zn} {F F0 F1 F' : Addr → Prop} {H H0 H1 H' : Hp} {σ : L2.St} {δ : DE}
theorem Rep.ditOf {v : V} {kk : List (List Key)} {as : List Addr} (h : Rep K C F H v (.dit kk) as) : ∃ a ks, v = .ref a ∧ as = [a] ∧ H a = some (HOT C.P C.w a ks) ∧ (∀ q ∈ ks, SqT K H q.2 (q.1.map kV)) ∧ (ks.map (·.1)).Nodup ∧ ks.map (·.1) = kk := by
  generalize e : DV.dit kk = dv at h
  cases h with
  | dit h1 h2 h3 =>
    injection e with e
    exact ⟨_, _, rfl, rfl, h1, h2, h3, e.symm⟩
  | _ => cases e
theorem RR.newT (b0 : Bs C F0 H0) (g : Go C F0 H0 F H) {ks : List TKey} (hs : ∀ q ∈ ks, SqT K H q.2 (q.1.map kV)) (nd : (ks.map (·.1)).Nodup) {p : Addr} (n : H p = none) : Go C F0 H0 F (upd H p (HOT C.P C.w p ks)) ∧ RR K C F H0 (upd H p (HOT C.P C.w p ks)) (.ref p) (.val (.dit (ks.map (·.1)))) := by
  have g3 := Go.laid (o := HOT C.P C.w p ks) g.ok n
  refine ⟨g.trans b0 g3, [p], Rep.dit upd_same (fun q m => Keep.sqT (g3.keep g.ok) (hs q m)) nd, by simp, fun a m => ?_⟩
  obtain rfl := List.mem_singleton.mp m
  refine ⟨fun z => ?_, g.none b0 n⟩
  obtain ⟨o, q⟩ := (g.ok.f a z).2
  rw [n] at q; cases q
def onDit (δ : DE) (i : Nat) (k : List (List Key) → Prop) : Prop := ∃ kk, δ[i]? = some (some (.dit kk)) ∧ k kk
theorem onDit_mono {i : Nat} {k k' : List (List Key) → Prop} (h : ∀ kk, k kk → k' kk) (q : onDit δ i k) : onDit δ i k' := by
  obtain ⟨kk, e, q⟩ := q
  exact ⟨kk, e, h kk q⟩
theorem At0.dit (x : At0 K C F H σ δ) {i : Nat} {kk : List (List Key)} (e : δ[i]? = some (some (.dit kk))) : ∃ a ks, σ[i]? = some (some (.ref a)) ∧ H a = some (HOT C.P C.w a ks) ∧ KeysIn K H ks ∧ ks.map (·.1) = kk := by
  obtain ⟨as, E, nd, o, b⟩ := x
  obtain ⟨v, bs, e1, r, _⟩ := E.get e
  obtain ⟨a, ks, rfl, _, q1, q2, q3, q4⟩ := Rep.ditOf r
  exact ⟨a, ks, e1, q1, ⟨q2, q3⟩, q4⟩
theorem At.lensT (x : At K C F0 H0 σ δ F H) (g : Go C F H F1 H1) {i : Nat} {kk : List (List Key)} (e : δ[i]? = some (some (.dit kk))) : ∃ a ks, σ[i]? = some (some (.ref a)) ∧ H1 a = some (HOT C.P C.w a ks) ∧ KeysIn K H1 ks ∧ ks.map (·.1) = kk ∧
    ∀ ks', KeysIn K H1 ks' → At K C F0 H0 σ (δ.set i (some (.dit (ks'.map (·.1))))) F1 (upd H1 a (HOT C.P C.w a ks')) ∧ Keep F H F1 (upd H1 a (HOT C.P C.w a ks')) := by
  obtain ⟨b0, gg, as, en, nd, o⟩ := x
  have oz : ∀ a ∈ as, ¬ F a ∧ ¬ C.Z a := fun a m => ⟨(o a m).1, b0.nzn (o a m).2⟩
  obtain ⟨s, o'⟩ := g.own gg.ok en.there oz
  have en1 := en.mono (g.keep gg.ok) s
  have g1 := gg.trans b0 g
  obtain ⟨v, as1, bs0, as2, ha, hs, r, put⟩ := en1.lens e
  obtain ⟨a, ks, rfl, rfl, e1, q2, q3, q4⟩ := Rep.ditOf r
  have ma : a ∈ as := by rw [ha]; simp
  have nf := (o' a ma).1
  refine ⟨a, ks, hs, e1, ⟨q2, q3⟩, q4, fun ks' h' => ?_⟩
  have kp : Keep F1 H1 F1 (upd H1 a (HOT C.P C.w a ks')) := .put (by rw [e1]; trivial) nf
  have nd0 : (as1 ++ [a] ++ as2).Nodup := ha ▸ nd
  have off : ∀ c ∈ as1 ++ as2, c ≠ a := fun c m z => by
    subst z
    rcases List.mem_append.mp m with m | m
    · exact (List.nodup_append.mp (List.nodup_append.mp nd0).1).2.2 c m c List.mem_cons_self rfl
    · exact (List.nodup_append.mp nd0).2.2 c (List.mem_append_right _ List.mem_cons_self) c m rfl
  refine ⟨⟨b0, g1.put b0 (o a ma).2, as1 ++ [a] ++ as2, put F1 _ _ [a] kp (fun c m => upd_ne (off c m)) (Rep.dit upd_same (fun q m => Keep.sqT kp (h'.1 q m)) h'.2), nd0, fun c m => ?_⟩, (g.keep gg.ok).trans kp⟩
  have mc : c ∈ as := by rw [ha]; exact m
  exact ⟨(o' c mc).1, (o c mc).2⟩
theorem onKey_to {v : V} {r : R} {Q : List Key → Prop} (b0 : Bs C F0 H0) (g : Go C F0 H0 F H) (rr : RR K C F H0 H v r) (q : onKey r Q) : ∃ F2 k c, v = .ref c ∧ Go C F0 H0 F2 H ∧ (∀ a, F a → F2 a) ∧ SqT K H c (k.map kV) ∧ Q k := by
  unfold onKey at q
  split at q
  · rename_i es ed
    split at q
    · rename_i k ek
      obtain ⟨F2, g2, gr, dq⟩ := RR.fd b0 g rr ed
      rw [keysOf_eq ek] at dq
      cases v with
      | ref c => exact ⟨F2, k, c, rfl, g2, gr, tup_dq (k := k) dq, q⟩
      | _ => cases dq
    · exact q.elim
  · exact q.elim
end
/-! d[k] = v -/
def rSetT (P : Program) (w : World) (K : PySem.W.Frag) : TSet := fun o i v H Q => ∃ (a c : Addr) (ks : List TKey) (k : List Key), o = .ref a ∧ i = .ref c ∧ H a = some (HOT P w a ks) ∧ KeysIn K H ks ∧ SqT K H c (k.map kV) ∧ ks.length ≤ sizeLine ∧ Q (upd H a (HOT P w a (putT ks k c)))
theorem set_dictT {X : Cx} (hu : X.A.units + 1 < cLine) : PSet X (rSetT X.prog X.w X.K) := by
  intro pins s σ H o i v ov iv u Q I ro ri rv h
  obtain ⟨a, c, ks, k, rfl, rfl, hD, hk, hc, hz, q⟩ := h
  cases (show ov = Value.ref a from ro)
  cases (show iv = Value.ref c from ri)
  obtain ⟨xs, e, dd⟩ := dictT I hD hk
  have nsys := (I.hok a _ hD).1.1
  have hl : xs.length ≤ sizeLine := by rw [← e, List.length_map] at hz; exact hz
  refine wpAny_setItem_heap (hsz := hl) (tupleKind_room_in1 hu) (tkey_is I hc) dd fun h' dd' sb => ?_
  obtain ⟨ob, es, ep, g, hx, hd, he, _⟩ := dd'
  refine ⟨_, I.write (by rw [hD]; exact True.intro) (.inl rfl) (fun b q n z => (sb.2 b n).trans z) ⟨ob, g⟩ (keysAt_ok ⟨nsys, _, ?_, ob, es, ep, g, hx, hd, he⟩), q⟩
  rw [storedH_keys, e]
section
variable {C : Zn} {F0 : Addr → Prop} {H0 : Hp} {X : Cx} {e f : Expr} {te tx tf : DT} {pos : Pos}
def dSetT (i : Nat) (tx te : DT) : DS := fun D δ => te δ fun _ => onDit δ i fun kk => kk.length ≤ sizeLine ∧ tx δ fun y => onKey y fun k => D.nx (δ.set i (some (.dit (putL kk k))))
theorem s_setT (i : Nat) {x : Str} {p pp : Pos} {ix : Expr} (hZ : C.P = X.prog ∧ C.w = X.w) (hu : X.A.units + 64 < cLine) (hN : X.N[i]? = some x) (hv : Vis X.env.scope x) (hx : PD C X ix tx) (he : PD C X e te) (hd : (x == ("__debug__" : Str)) = false := by decide) (hcd : (x == ("__classdict__" : Str)) = false := by decide)
    (ha : ∀ v, assign (.Subscript (.Name x p) ix pp) X.env v = (do
      let ov ← holding [v] (eval (.Name x p) X.env)
      let iv ← holding [v, ov] (eval ix X.env)
      standAt pp
      holding [v, ov, iv] (setItem ov iv v)
      release [v, ov, iv] []) := by intro _; rfl)
    (hs : swapsWithSole [.Subscript (.Name x p) ix pp] e pos.line X.env = pure false := by rfl) (hw : swappedStores [.Subscript (.Name x p) ix pp] e X.env = pure none := by rfl)
    (h1 : (assignEach [.Subscript (.Name x p) ix pp] X.env).map (·.2) = [assign (.Subscript (.Name x p) ix pp) X.env] := by rfl) :
    PSD C F0 H0 X (.Assign [.Subscript (.Name x p) ix pp] e pos) (dSetT i tx te) :=
  ⟨fun D D' δ l q => he.mono δ _ _ (fun r q => onDit_mono (fun es q => ⟨q.1, hx.mono δ _ _ (fun y q => onKey_mono (fun n q => l.nx _ q) q) q.2⟩) q) q,
   (ps_asg he.run (pg_sub (pe_var hN hv hd hcd) hx.run (set_dictT (by omega)) ha) hs hw h1).imp fun D σ H q => by
    obtain ⟨δ, F, x, q⟩ := q
    refine ⟨δ, F, x.at0, he.mono δ _ _ (fun r q F1 H1 v g rr => ?_) q⟩
    obtain ⟨kk, e1, hz, q⟩ := q
    obtain ⟨a, ks, z1, _⟩ := x.at0.dit e1
    refine ⟨.ref a, z1, δ, F1, (x.go g).at0, hx.mono δ _ _ (fun y q F2 H2 w g2 rr' => ?_) q⟩
    obtain ⟨F3, k, c, rfl, g3, gr, hc, q⟩ := onKey_to (x.go g).at0.bs g2 rr' q
    have gg := g.trans x.at0.bs g3
    obtain ⟨a', ks', z1', h2, kin, hkk, put⟩ := x.lensT gg e1
    rw [z1] at z1'
    cases z1'
    have kin' : KeysIn X.K H2 (putT ks' k c) := ⟨fun q m => by
      rcases putT_mem m with m | rfl
      · exact kin.1 q m
      · exact hc, putT_nodup kin.2 k c⟩
    obtain ⟨x2, k2⟩ := put _ kin'
    rw [putT_fst, hkk] at x2
    rw [hZ.1, hZ.2] at h2 x2 k2
    exact ⟨a, c, ks', k, rfl, rfl, h2, kin, hc, by rw [← hkk, List.length_map] at hz; exact hz, q _ F3 _ x2 k2⟩⟩
/-! len(d) -/
def dLenT (i : Nat) : DT := fun δ Q => onDit δ i fun kk => kk.length ≤ sizeLine ∧ Q (.val (.sh (.int ((kk.length : Nat) : Int))))
/-! list(d) -/
def dListT (i : Nat) : DT := fun δ Q => onDit δ i fun kk => kk.length ≤ sizeLine ∧ Q (.val (.own ((kk.map tupD).map DV.sh)))
/-! sorted(d) -/
theorem sorted_dictT {prog : Program} {w : World} {A : Around} {E : Value → Shared → Prop} {s : Shared} {t : Addr} {o : Obj} {es : Array DictEntry} {ep : Nat} {vs : List Value} {ds : List D} {R : Value → D → Prop} {Q : Value → Shared → Prop} (hh : A.handled = none) (ho : s.heap.get? t = some o) (hx : o.ExactDict) (hd : o.data = .dict es ep) (lo : (t == sysModules) = false) (hes : es.toList.map (·.key) = vs)
    (e : EachIs R vs ds) (er : EachIs (fun v d => ∃ as, Reads s.heap v d as) vs ds)
    (hal : AllAlike ds) (hk : TupsD ds) (hL : ds.length ≤ sizeLine) (hu : ∀ d ∈ ds, A.units + 2 + d.depth < cLine)
    (h : ∀ (out : List Value) (h' : Heap) (tk : Nat) (p : Addr) (n : Nat), out.length = ds.length → EachIs R out (ds.mergeSort (dataLe false id)) → (∀ b o, s.heap.get? b = some o → h'.get? b = some o) → s.heap.get? p = none → h'.get? p = some (seqObj "list" out.toArray n) → Q (.ref p) { s with heap := h', toks := tk }) :
    wpAny (model prog w) A (call (.builtin "sorted") [.ref t]) Q E s := by
  refine Calls.call_function_entry kind_sorted plain_sorted entry_sorted (args_sorted1 _) ?_
  unfold Builtin.«sorted»
  refine wpAny_bind (m := checkCount "sorted" 1 1 _) (wpAny_pure ?_)
  have hle : vs.length ≤ sizeLine := by rw [e.length]; exact hL
  have hsz : es.size = vs.length := by rw [← hes, List.length_map, Array.length_toList]
  refine wpAny_bind (PySem.W.kdu_collect (A := A.in1) (kdl_raw lo hx hd) hh ho (by rw [hsz]; exact hle) fun h1 tk acc k1 it => ?_)
  have ea : acc.toList = vs := by
    rw [← hes]
    refine List.ext_getElem (by rw [Array.length_toList, List.length_map, Array.length_toList]; exact it.1) fun j z1 z2 => ?_
    have z1' : j < acc.size := by simpa using z1
    obtain ⟨en, q1, q2⟩ := it.2 j acc[j] (Array.getElem?_eq_getElem z1')
    rw [Array.getElem_toList, List.getElem_map, Array.getElem_toList, q2]
    obtain ⟨z3, q3⟩ := Array.getElem?_eq_some_iff.mp q1
    rw [q3]
  rw [ea]
  refine wpAny_bind (wpAny_newList ?_ (by simpa using hle))
  have ha : (h1.push (seqObj "list" vs.toArray 0)).get? h1.objs.size = some (seqObj "list" vs.toArray 0) := Heap.get?_push_size _ rfl
  have k2 : ∀ b o, s.heap.get? b = some o → (h1.push (seqObj "list" vs.toArray 0)).get? b = some o := fun b o q => Heap.get?_push_of_some _ (k1 b o q)
  have er2 : EachIs (fun v d => ∃ as, Reads (PySem.W.sortingHeap (h1.push (seqObj "list" vs.toArray 0)) h1.objs.size vs) v d as) vs ds := by
    refine er.mono fun v d ⟨as, r⟩ => ⟨as, PyProof.Rows.Reads.keeps (fun b ob q => ?_) r⟩
    exact PySem.W.sortingHeap_old (Nat.ne_of_lt (Heap.lt_size (k1 b ob q))) (k2 b ob q)
  have S := SortsAt_dataT (prog := prog) (w := w) (A := A.in1.in1) (s := { s with heap := PySem.W.sortingHeap (h1.push (seqObj "list" vs.toArray 0)) h1.objs.size vs, toks := tk }) er2 hal hk (fun d m => hu d m)
  have fin := PySem.W.sortVals_data (enc := id) false e er2 (by rw [List.map_id]; exact hal)
  rw [List.map_id] at fin
  refine wpAny_bind (wpAny_holding (wpAny_call_entry slot_list_sort ⟨_, ha, rfl⟩ entry_list_sort (PySem.W.list_sort_vals (s := { s with heap := h1.push (seqObj "list" vs.toArray 0), toks := tk }) ha S hle ⟨.none, rfl, wpAny_pure ?_⟩) (args_list_sort _)))
  obtain ⟨n2, hat⟩ := sortedHeap_at (vs := vs) (out := (PySem.W.sortVals (PySem.W.dataKind (PySem.W.sortingHeap (h1.push (seqObj "list" vs.toArray 0)) h1.objs.size vs) ds) false vs vs).toArray) ha
  refine ⟨_, rfl, h _ _ _ _ n2 (by rw [PySem.W.sortVals_length false rfl]; exact e.length) fin (fun b ob q => ?_) ?_ hat⟩
  · have l1 := Heap.lt_size (k1 b ob q)
    rw [sortedHeap_old (Nat.ne_of_lt l1) (Heap.lt_size (k2 b ob q))]
    exact k2 b ob q
  · cases q : s.heap.get? h1.objs.size with
    | none => rfl
    | some o => exact absurd (Heap.lt_size (k1 _ _ q)) (Nat.lt_irrefl _)
def rSortDT2 (K : PySem.W.Frag) (P : Program) (w : World) (G : Addr → Prop) : List V → Hp → VK → Prop := fun vs H Q => ∃ (t : Addr) (ks : List TKey), vs = [.ref t] ∧ H t = some (HOT P w t ks) ∧ KeysIn K H ks ∧ AllAlike (ks.map fun q => tupD q.1) ∧ ks.length ≤ sizeLine ∧
  ∀ p ys, H p = none → DqAll K G H ys (sortD (ks.map fun q => tupD q.1)) → Q (.ref p) (upd H p (.lst ys))
theorem cr_sortDT2 {G : Addr → Prop} (hc : X.calm = true) (hu : X.A.units + 64 < cLine) : CallR X (.builtin "sorted") (rSortDT2 X.K X.prog X.w G) := by
  intro pins s σ H vs us Q I r h
  obtain ⟨t, ks, rfl, hD, hk, hal, hz, q⟩ := h
  rw [Vals.ref1 r]
  obtain ⟨⟨lo, xs, e, o, es, ep, g, hx, hd, he⟩, _⟩ := I.hok t _ hD
  have hes : es.toList.map (·.key) = ks.map fun q => Value.ref q.2 := by
    rw [he, ← e, List.map_map, List.map_map]; rfl
  have dq := dq_refs (G := G) hk.1
  have rv := vals_refs2 ks
  obtain ⟨as, ra⟩ := DqAll.reads I _ _ _ dq rv
  have er : EachIs (fun v d => ∃ as, Reads s.heap v d as) (ks.map fun q => Value.ref q.2) (ks.map fun q => tupD q.1) := by
    have := PySem.W.readsAll_each (h := s.heap) id (vs := ks.map fun q => Value.ref q.2) (bs := ks.map fun q => tupD q.1) (as := as) (by rw [List.map_id]; exact ra)
    exact this
  refine sorted_dictT (I.ok.hd hc) g hx hd lo hes (each_dq dq rv) er hal (fun d m => ?_) (by rw [List.length_map]; exact hz) (fun d m => ?_) fun out h' tk p n hl ee kp hp hat => ?_
  · obtain ⟨z, _, rfl⟩ := List.mem_map.mp m
    exact ⟨_, rfl⟩
  · obtain ⟨z, _, rfl⟩ := List.mem_map.mp m
    have := tup_depth z.1
    omega
  · obtain ⟨ys, rv2, dy⟩ := dq_each ee
    have nw : ObjOk X.prog X.w (upd H p (.lst ys)) h' p (.lst ys) := ⟨by rw [rv2.length, hl, List.length_map]; exact hz, out, n, rv2, hat⟩
    obtain ⟨nH, I2⟩ := laidN (t' := tk) I kp hp nw
    exact ⟨.ref p, _, I2, rfl, q p ys nH dy⟩
def dSortT (i : Nat) : DT := fun δ Q => onDit δ i fun kk => (AllAlike (kk.map tupD) ∧ kk.length ≤ sizeLine) ∧ Q (.val (.own ((sortD (kk.map tupD)).map DV.sh)))
theorem d_sortDT (i : Nat) {x : Str} {p p' : Pos} (hu : X.A.units + 64 < cLine) (hc : X.calm = true) (hZ : C.P = X.prog ∧ C.w = X.w) (hm : X.mg "sorted" = none) (hN : X.N[i]? = some x := by rfl) (hv : Vis X.env.scope x := by first | exact Or.inl rfl | exact Or.inr (Or.inl rfl) | exact Or.inr (Or.inr rfl)) (hd : (x == ("__debug__" : Str)) = false := by decide) (hcd : (x == ("__classdict__" : Str)) = false := by decide) (hg : Gl X "sorted" := by rfl)
    (he : starEach [.Name x p] X.env = (false, eval (.Name x p) X.env) :: starEach [] X.env := by rfl) (hpl : (backTo pos (starEach [] X.env)).any (·.1) = false := by rfl) : PD C X (.Call (.Name "sorted" p') [.Name x p] [] pos) (dSortT i) :=
  ⟨fun δ Q Q' m q => onDit_mono (fun ds q => ⟨q.1, m _ q.2⟩) q,
    (pe_callB (r := fun vs H Q => ∃ G, rSortDT2 X.K X.prog X.w G vs H Q) (fun pins s σ H xs us Q I r h => by
      obtain ⟨G, h⟩ := h
      exact cr_sortDT2 (G := G) hc hu pins s σ H xs us Q I r h) hg hm (by decide +kernel) (pa_cons (pe_var hN hv hd hcd) pa_nil he) (by decide) (by decide) he hpl).imp fun σ H Q q => by
    obtain ⟨δ, F, x, kk, e1, ⟨c1, hz⟩, q⟩ := q
    obtain ⟨a, ks, z1, z2, kin, hkk⟩ := x.dit e1
    rw [hZ.1, hZ.2] at z2
    have em : kk.map tupD = ks.map fun q => tupD q.1 := by rw [← hkk, List.map_map]; rfl
    rw [em] at c1 q
    refine ⟨.ref a, z1, F, a, ks, rfl, z2, kin, c1, by rw [← hkk, List.length_map] at hz; exact hz, fun l ys nl dy => ?_⟩
    obtain ⟨g3, r3⟩ := RR.newl x.bs (.refl x.bs) dy nl
    exact q F _ _ g3 r3⟩
/-! k in d -/
def inL (kk : List (List Key)) (k : List Key) : Bool := kk.any fun q => decide (q = k)
def dInT (i : Nat) (te : DT) (b : Bool) : DT := fun δ Q => onDit δ i fun kk => te δ fun y => onKey y fun k => Q (.val (.sh (.bool (inL kk k == b))))
/-! {k: v}, one pair -/
def dDisT (tk tv : DT) : DT := fun δ Q => tk δ fun y => onKey y fun k => tv δ fun _ => Q (.val (.dit [k]))
/-! dict([(k, v), ..]) -/
/-! {k: v for ..} -/
def dDcT (it : DI) (pat : DP) (tst : DB) (tk tv : DT) (vs : List Nat) : DT := fun δ Q => it δ fun ds => dcRun pat tst tk tv (wipeD δ vs) ds [] fun acc => Q (.val (.dit acc))
end
end DL
set_option Elab.async false
set_option linter.all false
set_option maxRecDepth 100000
set_option maxHeartbeats 2000000
namespace DL
open PySem PySem.Spec L2
open PyProof.Rows hiding St
open PySem.W (AllAlike)
section
variable {δ : DE} {E : DEnds} {Q : R → Prop}
def onTO (o : Option (Option DV)) (k : List (List Key) → Prop) : Prop := ∃ kk, o = some (some (.dit kk)) ∧ k kk
@[simp] theorem onDit_e (i : Nat) (k : List (List Key) → Prop) : onDit δ i k = onTO δ[i]? k := rfl
@[simp] theorem onTO_e (kk : List (List Key)) (k : List (List Key) → Prop) : onTO (some (some (.dit kk))) k = k kk := by
  apply propext
  constructor
  · rintro ⟨es, e, q⟩
    injection e with e
    injection e with e
    injection e with e
    rw [e]; exact q
  · exact fun q => ⟨kk, rfl, q⟩
@[simp] theorem dSetT_e (i : Nat) (tx te : DT) : dSetT i tx te E δ = te δ fun _ => onDit δ i fun kk => kk.length ≤ sizeLine ∧ tx δ fun y => onKey y fun k => E.nx (δ.set i (some (.dit (putL kk k)))) := rfl
@[simp] theorem dLenT_e (i : Nat) : dLenT i δ Q = onDit δ i fun kk => kk.length ≤ sizeLine ∧ Q (.val (.sh (.int ((kk.length : Nat) : Int)))) := rfl
@[simp] theorem dListT_e (i : Nat) : dListT i δ Q = onDit δ i fun kk => kk.length ≤ sizeLine ∧ Q (.val (.own ((kk.map tupD).map DV.sh))) := rfl
@[simp] theorem dSortT_e (i : Nat) : dSortT i δ Q = onDit δ i fun kk => (AllAlike (kk.map tupD) ∧ kk.length ≤ sizeLine) ∧ Q (.val (.own ((sortD (kk.map tupD)).map DV.sh))) := rfl
@[simp] theorem dInT_e (i : Nat) (te : DT) (b : Bool) : dInT i te b δ Q = onDit δ i fun kk => te δ fun y => onKey y fun k => Q (.val (.sh (.bool (inL kk k == b)))) := rfl
@[simp] theorem dDisT_e (tk tv : DT) : dDisT tk tv δ Q = tk δ fun y => onKey y fun k => tv δ fun _ => Q (.val (.dit [k])) := rfl
@[simp] theorem dDcT_e (it : DI) (pat : DP) (tst : DB) (tk tv : DT) (vs : List Nat) : dDcT it pat tst tk tv vs δ Q = it δ fun ds => dcRun pat tst tk tv (wipeD δ vs) ds [] fun acc => Q (.val (.dit acc)) := rfl
end
end DL
set_option Elab.async false
set_option linter.all false
set_option maxRecDepth 100000
set_option maxHeartbeats 2000000
namespace DL
open PySem PySem.Spec L2
open PyProof.Rows hiding St
open PySem.W (alike dataLt dataLe AllAlike EachIs)
/-! ### sorted(set([..])), the items tuples of whole numbers of any lengths -/
def tupI (k : List Int) : D := .tuple (k.map PyData.int)
section
variable {P : Program} {w : World} {A : Around} {E : Value → Shared → Prop} {s : Shared}
theorem nodup_of {α β : Type} {f : α → β} {l : List α} (h : (l.map f).Nodup) : l.Nodup := by
  induction l with
  | nil => exact List.nodup_nil
  | cons a l ih =>
    rw [List.map_cons, List.nodup_cons] at h
    exact List.nodup_cons.mpr ⟨fun m => h.1 (List.mem_map.mpr ⟨a, m, rfl⟩), ih h.2⟩
end
/-! the reading -/
def tupsOf : List D → Option (List (List Int))
  | [] => some []
  | .tuple kd :: ds => (numsOf kd).bind fun k => (tupsOf ds).map (k :: ·)
  | _ => none
section
variable {C : Zn} {X : Cx} {e : Expr} {te : DT} {pos p p1 pos1 : Pos}
def dSortSetT (te : DT) : DT := fun δ Q => te δ fun r => match r.sup with
  | some (.list ds) => (match tupsOf ds with
    | some ks => ks.length < 64 ∧ ∀ ms : List (List Int), ms.Nodup → (∀ k, k ∈ ms ↔ k ∈ ks) → Q (.val (.own ((sortD (ms.map tupI)).map DV.sh)))
    | none => False)
  | _ => False
@[simp] theorem dSortSetT_e {δ : DE} {Q : R → Prop} (te : DT) : dSortSetT te δ Q = te δ fun r => match r.sup with
  | some (.list ds) => (match tupsOf ds with
    | some ks => ks.length < 64 ∧ ∀ ms : List (List Int), ms.Nodup → (∀ k, k ∈ ms ↔ k ∈ ks) → Q (.val (.own ((sortD (ms.map tupI)).map DV.sh)))
    | none => False)
  | _ => False := rfl
end
end DL
set_option Elab.async false
set_option linter.all false
set_option maxRecDepth 100000
set_option maxHeartbeats 2000000
namespace DL
open PySem PySem.Spec L2
open PyProof.Rows hiding St
open PySem.W (alike dataLt dataLe AllAlike EachIs)
/-! ### min and max of a list of whole numbers -/
def fMinL (g : Int → List Int → Int) : R → (R → Prop) → Prop := fun x Q => match x.sup with
  | some (.list ds) => (match numsOf ds with
    | some (n :: ns) => Q (.val (.sh (.int (g n ns))))
    | _ => False)
  | _ => False
@[simp] theorem fMinL_e {g : Int → List Int → Int} {x : R} {Q : R → Prop} : fMinL g x Q = (match x.sup with
  | some (.list ds) => (match numsOf ds with
    | some (n :: ns) => Q (.val (.sh (.int (g n ns))))
    | _ => False)
  | _ => False) := rfl
end DL
set_option Elab.async false
set_option linter.all false
set_option maxRecDepth 100000
set_option maxHeartbeats 1000000
namespace DL
open PySem PySem.Spec L2
open PyProof.Rows hiding St
/-! ### x[k].append(e): a list of one's own within a list of one's own -/
section
variable {C : Zn} {F0 : Addr → Prop} {H0 : Hp} {X : Cx} {e : Expr} {te tx : DT} {pos : Pos}
def dAppendIx (i : Nat) (tx te : DT) : DS := fun D δ => onOwn δ i fun es => tx δ fun y => onI y fun n => match ixN es.length n, atI es n with
  | some j, some (.own fs) => fs.length < sizeLine ∧ te δ fun r => (match r.fx with
    | some dv => D.nx (δ.set i (some (.own (es.set j (.own (fs ++ [dv]))))))
    | none => False)
  | _, _ => False
def dAppPop1 (i : Nat) (te : DT) : DS := fun D δ => onOwn δ i fun es => es.length < sizeLine ∧ te δ fun r => onI r fun n => (-(2 ^ 63) ≤ n ∧ n < 2 ^ 63) ∧ match seqIndex? n es.length with
  | some k => atSh es k fun d => D.nx (δ.set i (some (.own (es.eraseIdx k ++ [.sh d]))))
  | none => False
end
/-! ### a def that is called by another name -/
end DL
set_option Elab.async false
set_option linter.all false
set_option maxRecDepth 100000
set_option maxHeartbeats 3200000
namespace DL
open PySem PySem.Spec L2
open PyProof.Rows hiding St
/-! ### set(xs), xs a list of whole numbers -/
abbrev newS (w : World) : Obj := { cls := .type "set", dict := none, data := .set #[] 0 (.fresh 0 0 (!w.params.followText "set-order")) }
section
variable {P : Program} {w : World} {A : Around} {E : Value → Shared → Prop} {s : Shared}
/-- the heap with a new set, then with a new walker over a list -/
theorem newS_at (h : Heap) : (h.push (newS w)).get? h.objs.size = some (newS w) := Heap.get?_push_size _ rfl
end
theorem nodup_le {α : Type} [DecidableEq α] : ∀ (l m : List α), l.Nodup → (∀ x ∈ l, x ∈ m) → l.length ≤ m.length
  | [], _, _, _ => Nat.zero_le _
  | x :: l, m, nd, h => by
    have nd' := List.nodup_cons.mp nd
    have mx := h x List.mem_cons_self
    have := nodup_le l (m.erase x) nd'.2 fun y my => by
      have ne : y ≠ x := fun e => nd'.1 (e ▸ my)
      exact (List.mem_erase_of_ne ne).mpr (h y (List.mem_cons_of_mem _ my))
    rw [List.length_erase_of_mem mx] at this
    have lm : 0 < m.length := List.length_pos_of_mem mx
    rw [List.length_cons]
    omega
def itemsOf : D → Option (List D)
  | .list ds => some ds
  | .tuple ds => some ds
  | _ => none
section
variable {C : Zn} {X : Cx} {e : Expr} {te : DT} {pos p p1 pos1 : Pos}
/-- sorted(set(e)), e a list or a tuple of whole numbers -/
def dSortSetJ (te : DT) : DT := fun δ Q => te δ fun r => match r.sup.bind itemsOf with
  | some ds => (match numsOf ds with
    | some ns => (ns.length ≤ 4000 ∧ ∃ ms : List Int, ms.length ≤ 60 ∧ ∀ k ∈ ns, k ∈ ms) ∧ ∀ ms : List Int, ms.Pairwise (· < ·) → (∀ k, k ∈ ms ↔ k ∈ ns) → Q (.val (.own ((ms.map PyData.int).map DV.sh)))
    | none => False)
  | _ => False
@[simp] theorem dSortSetJ_e {δ : DE} {Q : R → Prop} (te : DT) : dSortSetJ te δ Q = te δ fun r => match r.sup.bind itemsOf with
  | some ds => (match numsOf ds with
    | some ns => (ns.length ≤ 4000 ∧ ∃ ms : List Int, ms.length ≤ 60 ∧ ∀ k ∈ ns, k ∈ ms) ∧ ∀ ms : List Int, ms.Pairwise (· < ·) → (∀ k, k ∈ ms ↔ k ∈ ns) → Q (.val (.own ((ms.map PyData.int).map DV.sh)))
    | none => False)
  | _ => False := rfl
@[simp] theorem itemsOf_l (ds : List D) : itemsOf (.list ds) = some ds := rfl
@[simp] theorem itemsOf_t (ds : List D) : itemsOf (.tuple ds) = some ds := rfl
end
@[simp] theorem dAppendIx_e {δ : DE} {E : DEnds} (i : Nat) (tx te : DT) : dAppendIx i tx te E δ = onOwn δ i fun es => tx δ fun y => onI y fun n => match ixN es.length n, atI es n with
  | some j, some (.own fs) => fs.length < sizeLine ∧ te δ fun r => (match r.fx with
    | some dv => E.nx (δ.set i (some (.own (es.set j (.own (fs ++ [dv]))))))
    | none => False)
  | _, _ => False := rfl
@[simp] theorem dAppPop1_e {δ : DE} {E : DEnds} (i : Nat) (te : DT) : dAppPop1 i te E δ = onOwn δ i fun es => es.length < sizeLine ∧ te δ fun r => onI r fun n => (-(2 ^ 63) ≤ n ∧ n < 2 ^ 63) ∧ match seqIndex? n es.length with
  | some k => atSh es k fun d => E.nx (δ.set i (some (.own (es.eraseIdx k ++ [.sh d]))))
  | none => False := rfl
end DL
set_option Elab.async false
set_option linter.all false
set_option maxRecDepth 100000
set_option maxHeartbeats 1000000
/-! Sets of keys of any depth, tables of any size: the round of i -> 5 i + 1 by a power of two. -/
namespace DL.ST
open PySem PySem.Spec L2
open PyProof.Rows hiding St
/-- 1 + 5 + 25 + .. -/
def geo : Nat → Nat
  | 0 => 0
  | b + 1 => 5 * geo b + 1
theorem geo_add (a : Nat) : ∀ b, geo (a + b) = geo b + 5 ^ b * geo a
  | 0 => by simp [geo]
  | b + 1 => by
    show 5 * geo (a + b) + 1 = 5 * geo b + 1 + 5 ^ (b + 1) * geo a
    rw [geo_add a b, Nat.mul_add, Nat.pow_succ, Nat.mul_comm (5 ^ b) 5, Nat.mul_assoc]
    omega
theorem five_mod (c : Nat) : 5 ^ c % 4 = 1 := by
  induction c with
  | zero => rfl
  | succ c ih => rw [Nat.pow_succ, Nat.mul_mod, ih]
theorem geo_two (c : Nat) : ∃ u, u % 2 = 1 ∧ geo (c + c) = 2 * (geo c * u) := by
  have h := five_mod c
  refine ⟨(5 ^ c + 1) / 2, by omega, ?_⟩
  have e : 5 ^ c + 1 = 2 * ((5 ^ c + 1) / 2) := by omega
  rw [geo_add]
  generalize (5 ^ c + 1) / 2 = u at e ⊢
  have : geo c + 5 ^ c * geo c = geo c * (5 ^ c + 1) := by rw [Nat.mul_add, Nat.mul_one, Nat.mul_comm (geo c)]; omega
  rw [this, e, ← Nat.mul_assoc, Nat.mul_comm (geo c) 2, Nat.mul_assoc]
theorem geo_odd (c : Nat) : geo (c + c + 1) % 2 = 1 := by
  obtain ⟨u, _, e⟩ := geo_two c
  show (5 * geo (c + c) + 1) % 2 = 1
  rw [e]
  omega
theorem odd_coprime {u : Nat} (h : u % 2 = 1) (k : Nat) : Nat.Coprime (2 ^ k) u := by
  refine Nat.Coprime.pow_left k ?_
  have hg : Nat.gcd 2 u = 1 := by
    rw [Nat.gcd_rec, h]
    rfl
  exact hg
theorem geo_dvd : ∀ (k b : Nat), 2 ^ k ∣ geo b → 2 ^ k ∣ b
  | 0, _, _ => by simp
  | k + 1, b, h => by
    obtain ⟨c, rfl | rfl⟩ : ∃ c, b = 2 * c ∨ b = 2 * c + 1 := ⟨b / 2, by omega⟩
    · have e2 : 2 * c = c + c := by omega
      rw [e2] at h ⊢
      obtain ⟨u, hu, e⟩ := geo_two c
      rw [e, Nat.pow_succ, Nat.mul_comm (2 ^ k) 2] at h
      have h1 := Nat.dvd_of_mul_dvd_mul_left (by omega) h
      have h2 := geo_dvd k c ((odd_coprime hu k).dvd_of_dvd_mul_right h1)
      rw [← e2, Nat.pow_succ, Nat.mul_comm (2 ^ k) 2]
      exact Nat.mul_dvd_mul_left 2 h2
    · exfalso
      have e2 : 2 * c + 1 = c + c + 1 := by omega
      rw [e2] at h
      have h1 : 2 ∣ geo (c + c + 1) := Nat.dvd_trans ⟨2 ^ k, by rw [Nat.pow_succ, Nat.mul_comm]⟩ h
      have := geo_odd c
      omega
theorem geo_pow : ∀ k : Nat, 2 ^ k ∣ geo (2 ^ k)
  | 0 => by simp
  | k + 1 => by
    have e2 : 2 ^ (k + 1) = 2 ^ k + 2 ^ k := by rw [Nat.pow_succ]; omega
    obtain ⟨u, _, e⟩ := geo_two (2 ^ k)
    have h := Nat.mul_dvd_mul_left 2 (geo_pow k)
    rw [e2, e]
    have e3 : 2 ^ k + 2 ^ k = 2 * 2 ^ k := by omega
    rw [e3, ← Nat.mul_assoc]
    exact Nat.dvd_trans h ⟨u, rfl⟩
/-- the masks that come -/
def Msk2 (m : Nat) : Prop := ∃ k, 3 ≤ k ∧ k ≤ 13 ∧ m + 1 = 2 ^ k
theorem Msk2.le {m : Nat} (h : Msk2 m) : m ≤ 8191 := by
  obtain ⟨k, _, h2, e⟩ := h
  have : 2 ^ k ≤ 2 ^ 13 := Nat.pow_le_pow_right (by omega) h2
  omega
theorem Msk2.odd {m : Nat} (h : Msk2 m) : m % 2 = 1 := by
  obtain ⟨k, h1, _, e⟩ := h
  obtain ⟨j, rfl⟩ : ∃ j, k = j + 1 := ⟨k - 1, by omega⟩
  rw [Nat.pow_succ] at e
  omega
theorem lcg_geo (m : Nat) : ∀ b, lcgN m b = geo b % (m + 1)
  | 0 => by simp [lcgN, geo]
  | b + 1 => by
    show (lcgN m b * 5 + 1) % (m + 1) = (5 * geo b + 1) % (m + 1)
    rw [lcg_geo m b, Nat.mul_comm 5, Nat.add_mod, Nat.mod_mul_mod, ← Nat.add_mod]
theorem lcg_inj {m : Nat} (hm : Msk2 m) {a b : Nat} (hab : a ≤ b) (hb : b ≤ m) (e : lcgN m a = lcgN m b) : a = b := by
  obtain ⟨k, _, _, ek⟩ := hm
  rw [lcg_geo, lcg_geo, ek] at e
  obtain ⟨c, rfl⟩ : ∃ c, b = a + c := ⟨b - a, by omega⟩
  have e2 : a + c = c + a := by omega
  rw [e2, geo_add c a] at e
  have h1 : 2 ^ k ∣ 5 ^ a * geo c := by
    generalize 5 ^ a * geo c = z at e
    have h1 := Nat.sub_mod_eq_zero_of_mod_eq e.symm
    rw [Nat.add_sub_cancel_left] at h1
    exact Nat.dvd_of_mod_eq_zero h1
  have hodd : 5 ^ a % 2 = 1 := by have := five_mod a; omega
  have h2 := geo_dvd k c ((odd_coprime hodd k).dvd_of_dvd_mul_left h1)
  rcases Nat.eq_zero_or_pos c with h | h
  · omega
  · have := Nat.le_of_dvd h h2
    omega
theorem nodup_map {f : Nat → Nat} : ∀ {l : List Nat}, l.Pairwise (· < ·) → (∀ a b, a ∈ l → b ∈ l → a < b → f a ≠ f b) → (l.map f).Nodup
  | [], _, _ => List.nodup_nil
  | a :: l, h, k => by
    have h' := List.pairwise_cons.mp h
    rw [List.map_cons]
    refine List.nodup_cons.mpr ⟨fun m => ?_, nodup_map h'.2 fun x y mx my => k x y (List.mem_cons_of_mem _ mx) (List.mem_cons_of_mem _ my)⟩
    obtain ⟨b, mb, e⟩ := List.mem_map.mp m
    exact k a b List.mem_cons_self (List.mem_cons_of_mem _ mb) (h'.1 b mb) e.symm
theorem lcg_onto {m : Nat} (hm : Msk2 m) {j : Nat} (hj : j ≤ m) : ∃ b, b ≤ m ∧ lcgN m b = j := by
  have nd : ((List.range (m + 1)).map (lcgN m)).Nodup := nodup_map List.pairwise_lt_range fun a b ma mb hab e => by
    have := lcg_inj hm (Nat.le_of_lt hab) (Nat.le_of_lt_succ (List.mem_range.mp mb)) e
    omega
  rcases Classical.em (j ∈ (List.range (m + 1)).map (lcgN m)) with c | c
  · obtain ⟨b, mb, e⟩ := List.mem_map.mp c
    exact ⟨b, Nat.le_of_lt_succ (List.mem_range.mp mb), e⟩
  · exfalso
    have := nat_nodup_len (j :: (List.range (m + 1)).map (lcgN m)) (List.range (m + 1)) (List.nodup_cons.mpr ⟨c, nd⟩) fun x mx => by
      rcases List.mem_cons.mp mx with rfl | mx
      · exact List.mem_range.mpr (by omega)
      · obtain ⟨b, _, rfl⟩ := List.mem_map.mp mx
        rw [lcg_geo]
        exact List.mem_range.mpr (Nat.mod_lt _ (by omega))
    simp at this
    omega
theorem lcg_turn {m : Nat} (hm : Msk2 m) : ∀ b, lcgN m (m + 1 + b) = lcgN m b
  | 0 => by
    obtain ⟨k, _, _, ek⟩ := hm
    rw [lcg_geo, Nat.add_zero, ek]
    exact Nat.mod_eq_zero_of_dvd (geo_pow k)
  | b + 1 => congrArg (fun z => (z * 5 + 1) % (m + 1)) (lcg_turn hm b)
theorem lcg_from {m : Nat} (hm : Msk2 m) {i j : Nat} (hi : i ≤ m) (hj : j ≤ m) : ∃ k, k ≤ m ∧ lcgI m i k = j := by
  obtain ⟨a, ha, rfl⟩ := lcg_onto hm hi
  obtain ⟨b, hb, rfl⟩ := lcg_onto hm hj
  by_cases c : a ≤ b
  · exact ⟨b - a, by omega, by rw [lcgN_add, Nat.add_sub_cancel' c]⟩
  · refine ⟨m + 1 + b - a, by omega, ?_⟩
    rw [lcgN_add, Nat.add_sub_cancel' (by omega), lcg_turn hm]
/-- each slot begins a run early enough; each slot is met within the search's bound -/
theorem run_hits {m : Nat} (hm : Msk2 m) (h : Int) {j : Nat} (hj : j ≤ m) : ∃ n, n ≤ m + 12 ∧ runI m (SetTable.bits h) n = j := by
  obtain ⟨k, hk, e⟩ := lcg_from hm (runI_le m (SetTable.bits h) 12) hj
  exact ⟨12 + k, by omega, (runI_tail (bits_lt h) k).trans e⟩
theorem way_hits {m : Nat} (hm : Msk2 m) (h : Int) {j : Nat} (hj : j ≤ m) : ∃ k, k < 10 * SetTable.turns m ∧ way m h k = j := by
  obtain ⟨n, hn, e⟩ := run_hits hm h hj
  obtain ⟨k, hk, e2⟩ := run_nth m (SetTable.bits h) n
  exact ⟨k, by unfold SetTable.turns; omega, (congrArg SetTable.Probe.j e2).trans e⟩
theorem way_in {m : Nat} {h : Int} (k : Nat) : way m h k ≤ m := by
  have hi : SetTable.bits h % (m + 1) ≤ m := Nat.le_of_lt_succ (Nat.mod_lt _ (Nat.succ_pos _))
  have r := runEnd_bd hi
  have q := nth_in (m := m) k (runAt m (SetTable.bits h % (m + 1)) (SetTable.bits h)) (by show SetTable.bits h % (m + 1) + (SetTable.runEnd m (SetTable.bits h % (m + 1)) - SetTable.bits h % (m + 1)) ≤ m; omega)
  exact Nat.le_trans (Nat.le_add_right _ _) q
end DL.ST
set_option Elab.async false
set_option linter.all false
set_option maxRecDepth 100000
set_option maxHeartbeats 1000000
namespace DL.ST
open PySem PySem.Spec L2
open PyProof.Rows hiding St
/-- a table in which each hash is found again -/
structure TabG (t : SetTable) (hs : List Int) : Prop where
  up : Ris t.place.toList
  clean : t.dummies = #[]
  many : t.place.size = hs.length
  size : Msk2 t.mask
  found : ∀ (i : Nat) (h : Int) (j : Nat), hs[i]? = some h → t.place.toList[i]? = some j → ∃ k, way t.mask h k = j ∧ ∀ c, c < k → way t.mask h c ∈ t.place.toList
section
variable {t : SetTable} {hs : List Int}
theorem TabG.len (T : TabG t hs) : t.place.toList.length = hs.length := by rw [Array.length_toList]; exact T.many
/-- the first free slot on a hash's way -/
theorem TabG.gap (T : TabG t hs) (room : hs.length ≤ t.mask) (h : Int) : ∃ K, K < 10 * SetTable.turns t.mask ∧ way t.mask h K ∉ t.place.toList ∧ ∀ c, c < K → way t.mask h c ∈ t.place.toList := by
  obtain ⟨j, hj, free⟩ := st_missing t.place.toList (t.mask + 1) (by rw [T.len]; omega)
  obtain ⟨k, hk, rfl⟩ := way_hits T.size h (Nat.le_of_lt_succ hj)
  obtain ⟨K, le, out, ahead⟩ := st_least (p := fun k => way t.mask h k ∉ t.place.toList) k free
  exact ⟨K, by omega, out, fun c lt => Classical.byContradiction fun no => ahead c lt no⟩
/-- all of a hash stand ahead of its first free slot -/
theorem TabG.ahead (T : TabG t hs) {h : Int} {K i j : Nat} (out : way t.mask h K ∉ t.place.toList) (hi : hs[i]? = some h) (hj : t.place.toList[i]? = some j) : ∃ k, k < K ∧ way t.mask h k = j := by
  obtain ⟨k, e, all⟩ := T.found i h j hi hj
  refine ⟨k, Nat.lt_of_not_le fun le => ?_, e⟩
  rcases Nat.lt_or_eq_of_le le with lt | eq
  · exact out (all K lt)
  · rw [eq, e] at out
    exact out (List.mem_of_getElem? hj)
theorem TabG.putG (T : TabG t hs) {h : Int} {K : Nat} (out : way t.mask h K ∉ t.place.toList) (inn : ∀ c, c < K → way t.mask h c ∈ t.place.toList) :
    (t.put (way t.mask h K)).2 = SetTable.below t.place (way t.mask h K) ∧ SetTable.below t.place (way t.mask h K) ≤ hs.length ∧ TabG (t.put (way t.mask h K)).1 (hs.take (SetTable.below t.place (way t.mask h K)) ++ h :: hs.drop (SetTable.below t.place (way t.mask h K))) ∧
      (t.put (way t.mask h K)).1.mask = t.mask ∧ (t.put (way t.mask h K)).1.led = t.led ∧ (t.put (way t.mask h K)).1.plain = t.plain ∧ (t.put (way t.mask h K)).1.fill = hs.length + 1 := by
  generalize ej : way t.mask h K = j at out ⊢
  have cut := (below_cut T.up j).1
  have lp : SetTable.below t.place j ≤ t.place.toList.length := by rw [Array.length_toList]; exact cut
  have lh : SetTable.below t.place j ≤ hs.length := T.many ▸ cut
  have new : t.place[SetTable.below t.place j]? ≠ some j := fun e => out (List.mem_of_getElem? (by rw [Array.getElem?_toList]; exact e))
  have pl := put_place t j
  have sz : (t.put j).1.place.size = hs.length + 1 := by rw [← Array.length_toList, pl, len_ins _ lp, T.len]
  have old : ∀ x ∈ t.place.toList, x ∈ (t.put j).1.place.toList := fun x m => by rw [pl]; exact mem_ins.mpr (.inr m)
  refine ⟨rfl, lh, ⟨ris_insert T.up new, put_dm T.clean j, by rw [len_ins _ lh]; exact sz, T.size, fun i g x e1 e2 => ?_⟩, rfl, rfl, rfl, ?_⟩
  · rw [tins_get hs lh] at e1
    rw [pl, tins_get _ lp] at e2
    have same : ∀ i', hs[i']? = some g → t.place.toList[i']? = some x → ∃ k, way t.mask g k = x ∧ ∀ c, c < k → way t.mask g c ∈ (t.put j).1.place.toList := fun i' a b => by
      obtain ⟨k, e, all⟩ := T.found i' g x a b
      exact ⟨k, e, fun c lt => old _ (all c lt)⟩
    rcases Nat.lt_trichotomy i (SetTable.below t.place j) with lt | eq | gt
    · rw [if_pos lt] at e1 e2
      exact same i e1 e2
    · rw [if_neg (by omega), if_pos eq] at e1 e2
      cases e1
      cases e2
      exact ⟨K, ej, fun c lt => old _ (inn c lt)⟩
    · rw [if_neg (by omega), if_neg (by omega)] at e1 e2
      exact same (i - 1) e1 e2
  · show (t.put j).1.place.size + (t.put j).1.dummies.size = _
    rw [sz, put_dm T.clean j]
    rfl
end
/-! ### all laid anew -/
theorem free_hits {m : Nat} (hm : Msk2 m) (owner : Array (Option Nat)) (h : Int) {j : Nat} (hj : j ≤ m) (hf : oAt owner j = none) :
    ∃ K, SetTable.layClean.free m owner (SetTable.turns m) (SetTable.bits h % (m + 1)) (SetTable.bits h) = some (way m h K) ∧ oAt owner (way m h K) = none ∧ ∀ c, c < K → oAt owner (way m h c) ≠ none := by
  obtain ⟨n, hn, e⟩ := run_hits hm h hj
  generalize ek : off m (SetTable.bits h % (m + 1)) (SetTable.bits h) n = k0
  have at0 : way m h k0 = j := by
    show (nth m (runAt m (SetTable.bits h % (m + 1)) (SetTable.bits h)) k0).j = j
    rw [← ek, nth_off, itL_run]
    exact e
  obtain ⟨K, le, free, full⟩ := st_least (p := fun c => oAt owner (way m h c) = none) k0 (show oAt owner (way m h k0) = none by rw [at0]; exact hf)
  refine ⟨K, free_spec m owner (SetTable.turns m) n _ _ K (by unfold SetTable.turns; omega) (ek ▸ le) (fun c lt => ?_) ?_, free, full⟩
  · cases z : oAt owner (way m h c) with
    | none => exact absurd z (full c lt)
    | some _ => rfl
  · rw [show oAt owner _ = none from free]; rfl
theorem own_step {m : Nat} (hm : Msk2 m) {done : List Int} {owner : Array (Option Nat)} (W : Own m done owner) (hl : done.length ≤ m) (h : Int) :
    ∃ j, SetTable.layClean.free m owner (SetTable.turns m) (SetTable.bits h % (m + 1)) (SetTable.bits h) = some j ∧ Own m (done ++ [h]) (owner.setIfInBounds j (some done.length)) := by
  obtain ⟨ps, lps, inps⟩ := W.ps
  obtain ⟨j0, lt0, no0⟩ := st_missing ps (m + 1) (by omega)
  have free0 : oAt owner j0 = none := Classical.byContradiction fun z => no0 (inps j0 (by omega) z)
  obtain ⟨K, e1, e2, e3⟩ := free_hits hm owner h (Nat.le_of_lt_succ lt0) free0
  have le := way_in (m := m) (h := h) K
  have inside : way m h K < owner.size := by rw [W.sz]; omega
  have here := oAt_set_self (some done.length) inside
  have else' : ∀ i, i ≠ way m h K → oAt (owner.setIfInBounds (way m h K) (some done.length)) i = oAt owner i := fun i ne => oAt_set_ne _ ne
  have stays : ∀ i, oAt owner i ≠ none → oAt (owner.setIfInBounds (way m h K) (some done.length)) i ≠ none := fun i full => by
    rcases Classical.em (i = way m h K) with rfl | ne
    · rw [here]; simp
    · rw [else' i ne]; exact full
  refine ⟨_, e1, ⟨by rw [Array.size_setIfInBounds, W.sz], fun i k hi q => ?_, fun k hk => ?_, way m h K :: ps, by simp [lps], fun i hi full => ?_⟩⟩
  · rcases Classical.em (i = way m h K) with rfl | ne
    · rw [here] at q
      cases q
      exact ⟨h, K, by simp, rfl, fun c lt => stays _ (e3 c lt)⟩
    · rw [else' i ne] at q
      obtain ⟨g, k', q1, q2, q3⟩ := W.at_ i k hi q
      exact ⟨g, k', by rw [List.getElem?_append_left (List.getElem?_eq_some_iff.mp q1).1]; exact q1, q2, fun c lt => stays _ (q3 c lt)⟩
  · rw [List.length_append, List.length_singleton] at hk
    rcases Nat.lt_or_ge k done.length with lt | ge
    · obtain ⟨i, hi, q⟩ := W.all k lt
      refine ⟨i, hi, ?_⟩
      rw [else' i fun z => by rw [z, e2] at q; cases q]
      exact q
    · have : k = done.length := by omega
      exact ⟨_, le, this ▸ here⟩
  · rcases Classical.em (i = way m h K) with rfl | ne
    · exact List.mem_cons_self
    · rw [else' i ne] at full
      exact List.mem_cons_of_mem _ (inps i hi full)
theorem own_fold {m : Nat} (hm : Msk2 m) : ∀ (rest done : List Int) (owner : Array (Option Nat)), Own m done owner → done.length + rest.length ≤ m →
    ∃ o2, rest.foldl (stepF m) (some (owner, done.length)) = some (o2, (done ++ rest).length) ∧ Own m (done ++ rest) o2
  | [], done, owner, W, _ => ⟨owner, by simp, by simpa using W⟩
  | h :: rest, done, owner, W, room => by
    rw [List.length_cons] at room
    obtain ⟨j, e, W1⟩ := own_step hm W (by omega) h
    have l1 : (done ++ [h]).length = done.length + 1 := by simp
    obtain ⟨o2, f, W2⟩ := own_fold hm rest (done ++ [h]) _ W1 (by omega)
    rw [l1, List.append_assoc, List.singleton_append] at f
    rw [List.append_assoc, List.singleton_append] at W2
    exact ⟨o2, by rw [List.foldl_cons, stepF_some e]; exact f, W2⟩
theorem lay_all {m : Nat} (hm : Msk2 m) {hs : Array Int} (room : hs.size ≤ m) : ∃ owner, SetTable.layClean m hs = some owner ∧ Own m hs.toList owner := by
  obtain ⟨o2, f, W⟩ := own_fold hm hs.toList [] _ (Own.init m) (by simpa using room)
  rw [List.nil_append] at f W
  refine ⟨o2, ?_, W⟩
  rw [layClean_eq]
  have f2 : hs.toList.foldl (stepF m) (some (Array.replicate (m + 1) none, 0)) = some (o2, hs.toList.length) := f
  rw [f2]
  rfl
theorem live_up (m : Nat) (owner : Array (Option Nat)) : Ris ((liveOf m owner).map (·.1)) ∧ ∀ x ∈ (liveOf m owner).map (·.1), x ∈ List.range (m + 1) :=
  ris_live (fun j => owner.getD j none) (List.range (m + 1)) (by unfold Ris; exact List.pairwise_lt_range)
theorem live_len {m : Nat} {hs : Array Int} {owner : Array (Option Nat)} (W : Own m hs.toList owner) : (liveOf m owner).length = hs.size := by
  obtain ⟨ps, lps, inps⟩ := W.ps
  have nd : ((liveOf m owner).map (·.1)).Nodup := (live_up m owner).1.imp Nat.ne_of_lt
  have a := nat_nodup_len _ ps nd fun x hx => by
    obtain ⟨⟨y, k⟩, mq, rfl⟩ := List.mem_map.mp hx
    obtain ⟨b1, b2⟩ := (mem_live W.sz).mp mq
    exact inps y b1 (by rw [b2]; simp)
  have b := nat_nodup_len (List.range hs.size) ((liveOf m owner).map (·.2)) List.nodup_range fun k hk => by
    obtain ⟨j, b1, b2⟩ := W.all k (by rw [Array.length_toList]; exact List.mem_range.mp hk)
    exact List.mem_map.mpr ⟨(j, k), (mem_live W.sz).mpr ⟨b1, b2⟩, rfl⟩
  have hz : hs.toList.length = hs.size := rfl
  rw [List.length_map, lps] at a
  rw [List.length_map, List.length_range] at b
  omega
theorem relaid_G (t : SetTable) {hs : Array Int} {wanted M : Nat} (hw : SetTable.sizeAbove wanted - 1 = M) (hM : Msk2 M) (room : hs.size ≤ M) :
    ∃ t2 order, t.relaid hs wanted = some (t2, order) ∧ order.toList.Perm (List.range hs.size) ∧ TabG t2 (order.toList.map fun i => hs.getD i 0) ∧ t2.mask = M ∧ t2.led = t.led ∧ t2.plain = t.plain := by
  obtain ⟨owner, e, W⟩ := lay_all hM room
  have ll := live_len W
  refine ⟨tabOf t M owner, ((liveOf M owner).map (·.2)).toArray, by rw [relaid_eq, hw, e]; rfl, ?_, ⟨(live_up M owner).1, rfl, ?_, hM, fun i h j h1 h2 => ?_⟩, rfl, rfl, rfl⟩
  · refine perm_range hs.size _ (by simp [ll]) fun k hk => ?_
    obtain ⟨j, b1, b2⟩ := W.all k (by rw [Array.length_toList]; exact hk)
    exact List.mem_map.mpr ⟨(j, k), (mem_live W.sz).mpr ⟨b1, b2⟩, rfl⟩
  · show ((liveOf M owner).map (·.1)).toArray.size = _
    simp
  · have g1 : (((liveOf M owner).map (·.2)).map fun i => hs.getD i 0)[i]? = some h := h1
    have g2 : ((liveOf M owner).map (·.1))[i]? = some j := h2
    rw [List.getElem?_map, List.getElem?_map] at g1
    rw [List.getElem?_map] at g2
    cases hq : (liveOf M owner)[i]? with
    | none => rw [hq] at g2; cases g2
    | some q =>
      obtain ⟨y, k⟩ := q
      rw [hq] at g1 g2
      cases g2
      have eh : hs.getD k 0 = h := Option.some.inj g1
      obtain ⟨b1, b2⟩ := (mem_live W.sz).mp (List.mem_of_getElem? hq)
      obtain ⟨g, K, a1, a2, a3⟩ := W.at_ y k b1 b2
      have eg : hs.getD k 0 = g := by
        rw [Array.getD_eq_getD_getElem?, ← Array.getElem?_toList, a1]; rfl
      have : g = h := eg.symm.trans eh
      subst this
      refine ⟨K, a2, fun c lt => ?_⟩
      show way M g c ∈ (liveOf M owner).map (·.1)
      cases z : oAt owner (way M g c) with
      | none => exact absurd z (a3 c lt)
      | some k2 => exact List.mem_map.mpr ⟨(way M g c, k2), (mem_live W.sz).mpr ⟨way_in c, z⟩, rfl⟩
/-- a table that is full grows fourfold, to four times the elements and a power of two above -/
theorem grows {m n : Nat} (hm : Msk2 m) (few : m ≤ 1023) (full : m * 3 ≤ n * 5) (ahead : (n - 1) * 5 < m * 3) : ∃ M, SetTable.sizeAbove (SetTable.grown n) - 1 = M ∧ Msk2 M ∧ M ≤ 4095 ∧ SetTable.sizeAbove (SetTable.grown n) ≤ 4096 ∧ n * 5 < M * 3 := by
  obtain ⟨k, k1, k2, e⟩ := hm
  have hk : k = 3 ∨ k = 4 ∨ k = 5 ∨ k = 6 ∨ k = 7 ∨ k = 8 ∨ k = 9 ∨ k = 10 := by
    have : k < 11 := Nat.lt_of_not_le fun le => by
      have : 2 ^ 11 ≤ 2 ^ k := Nat.pow_le_pow_right (by omega) le
      omega
    omega
  rcases hk with rfl | rfl | rfl | rfl | rfl | rfl | rfl | rfl
  · have en : n = 5 := by omega
    subst en
    exact ⟨31, by decide +kernel, ⟨5, by omega, by omega, by decide⟩, by omega, by decide +kernel, by omega⟩
  · have en : n = 9 := by omega
    subst en
    exact ⟨63, by decide +kernel, ⟨6, by omega, by omega, by decide⟩, by omega, by decide +kernel, by omega⟩
  · have en : n = 19 := by omega
    subst en
    exact ⟨127, by decide +kernel, ⟨7, by omega, by omega, by decide⟩, by omega, by decide +kernel, by omega⟩
  · have en : n = 38 := by omega
    subst en
    exact ⟨255, by decide +kernel, ⟨8, by omega, by omega, by decide⟩, by omega, by decide +kernel, by omega⟩
  · have en : n = 77 := by omega
    subst en
    exact ⟨511, by decide +kernel, ⟨9, by omega, by omega, by decide⟩, by omega, by decide +kernel, by omega⟩
  · have en : n = 153 := by omega
    subst en
    exact ⟨1023, by decide +kernel, ⟨10, by omega, by omega, by decide⟩, by omega, by decide +kernel, by omega⟩
  · have en : n = 307 := by omega
    subst en
    exact ⟨2047, by decide +kernel, ⟨11, by omega, by omega, by decide⟩, by omega, by decide +kernel, by omega⟩
  · have en : n = 614 := by omega
    subst en
    exact ⟨4095, by decide +kernel, ⟨12, by omega, by omega, by decide⟩, by omega, by decide +kernel, by omega⟩
end DL.ST
set_option Elab.async false
set_option linter.all false
set_option maxRecDepth 100000
set_option maxHeartbeats 1600000
namespace DL.ST
open PySem PySem.Spec L2
open PyProof.Rows hiding St
section
variable {P : Program} {w : World}
/-! ### small questions that the model asks of keys -/
def NoClass (P : Program) (w : World) (n : Nat) (s : Shared) (v : Value) : Prop := ∀ (A : Around) (E : Value → Shared → Prop) (Q : Bool → Shared → Prop), Q false s → wpAny (model P w) A (ofAClassStatement n v) Q E s
def HashAsks (P : Program) (w : World) (n : Nat) (s : Shared) (v : Value) : Prop := ∀ (A : Around) (E : Value → Shared → Prop) (Q : Bool → Shared → Prop), (∀ b, Q b s) → wpAny (model P w) A (hashByValue n v) Q E s
theorem asks_flat {n : Nat} {s : Shared} {v : Value} (h : carriedByValue v = true) : NoClass P w n s v ∧ ((∃ b, hashByValue n v = pure b) → HashAsks P w n s v) := by
  refine ⟨fun A E Q q => ?_, fun ⟨b, e⟩ A E Q q => by rw [e]; exact wpAny_pure (q b)⟩
  have e : ofAClassStatement n v = pure false := by
    cases v with
    | ref a => simp [carriedByValue] at h
    | _ => cases n <;> rfl
  rw [e]
  exact wpAny_pure q
theorem noClass_tup {n : Nat} {s : Shared} {a : Addr} {o : Obj} {vs : Array Value} {m : Nat} (ho : s.heap.get? a = some o) (hc : o.cls = .type "tuple") (hd : o.data = .seq vs m) (hv : ∀ v ∈ vs.toList, NoClass P w n s v) : NoClass P w (n + 1) s (.ref a) := fun A E Q q => by
  unfold ofAClassStatement
  refine wpAny_bind (wpAny_typeOf (show s.TypeIs (.ref a) "tuple" from ⟨o, ho, hc⟩) ?_)
  dsimp only
  rw [show ((("tuple" : String) == "tuple") = true) from by decide]
  simp only [if_true, Bool.not_true, Bool.false_eq_true, if_false]
  try refine wpAny_bind (wpAny_pure ?_)
  try simp only [Bool.not_true, Bool.false_eq_true, if_false]
  show wpAny _ _ (seqItems? (.ref a) >>= _) _ _ s
  refine wpAny_bind (wpAny_seqItems ho hd ?_)
  dsimp only
  refine wpAny_bind (show wpAny _ _ (forIn vs _ _) _ _ s from ?_)
  rw [← Array.forIn_toList]
  refine wpAny_forIn_list _ (fun rest r u => r.1 = none ∧ u = s ∧ ∀ v ∈ rest, NoClass P w n s v) _ (fun v rest r u inv => ?_) (fun r u inv => ?_) _ _ ⟨rfl, rfl, hv⟩
  · obtain ⟨_, rfl, all⟩ := inv
    refine wpAny_bind (all v List.mem_cons_self _ _ _ ?_)
    simp only [Bool.false_eq_true, if_false]
    exact wpAny_pure ⟨rfl, rfl, fun x m => all x (List.mem_cons_of_mem _ m)⟩
  · obtain ⟨r1, r2⟩ := r
    obtain ⟨rfl, rfl, _⟩ := inv
    exact wpAny_pure q
theorem hashAsks_tup {n : Nat} {s : Shared} {a : Addr} {o : Obj} {vs : Array Value} {m : Nat} (ho : s.heap.get? a = some o) (hc : o.cls = .type "tuple") (hd : o.data = .seq vs m) (hv : ∀ v ∈ vs.toList, HashAsks P w n s v) : HashAsks P w (n + 1) s (.ref a) := fun A E Q q => by
  unfold hashByValue
  refine wpAny_bind (wpAny_specialOf (show s.TypeIs (.ref a) "tuple" from ⟨o, ho, hc⟩) F.slot_tuple_hash.lookup ?_)
  show wpAny _ _ (seqItems? (.ref a) >>= _) _ _ s
  refine wpAny_bind (wpAny_seqItems ho hd ?_)
  refine wpAny_bind (show wpAny _ _ (forIn vs _ _) _ _ s from ?_)
  rw [← Array.forIn_toList]
  refine wpAny_forIn_list _ (fun rest r u => r.1 = none ∧ u = s ∧ ∀ v ∈ rest, HashAsks P w n s v) _ (fun v rest r u inv => ?_) (fun r u inv => ?_) _ _ ⟨rfl, rfl, hv⟩
  · obtain ⟨_, rfl, all⟩ := inv
    refine wpAny_bind (all v List.mem_cons_self _ _ _ fun b => ?_)
    cases b with
    | true =>
      simp only [Bool.not_true, Bool.false_eq_true, if_false]
      exact wpAny_pure ⟨rfl, rfl, fun x m => all x (List.mem_cons_of_mem _ m)⟩
    | false =>
      simp only [Bool.not_false, if_true]
      exact wpAny_pure (wpAny_pure (q false))
  · obtain ⟨r1, r2⟩ := r
    obtain ⟨rfl, rfl, _⟩ := inv
    exact wpAny_pure (q true)
mutual
theorem key_asks : ∀ (k : NestedKey) (v : Value) (n : Nat) (s : Shared), NestedIs s.heap k v → k.depth ≤ n → NoClass P w n s v ∧ HashAsks P w n s v
  | .none, _, n, s, x, _ => by cases x; exact ⟨(asks_flat rfl).1, (asks_flat rfl).2 ⟨true, by cases n <;> rfl⟩⟩
  | .num i, _, n, s, x, _ => by cases x <;> exact ⟨(asks_flat rfl).1, (asks_flat rfl).2 ⟨true, by cases n <;> rfl⟩⟩
  | .text y, _, n, s, x, _ => by cases x; exact ⟨(asks_flat rfl).1, (asks_flat rfl).2 ⟨false, by cases n <;> rfl⟩⟩
  | .tup ks, _, n, s, x, hn => by
    cases x with
    | tup hg hc hd hk =>
      simp only [NestedKey.depth] at hn
      cases n with
      | zero => omega
      | succ n =>
        have all := keys_ask ks _ n s hk (by omega)
        exact ⟨noClass_tup hg hc hd fun v m => (all v m).1, hashAsks_tup hg hc hd fun v m => (all v m).2⟩
theorem keys_ask : ∀ (ks : List NestedKey) (vs : List Value) (n : Nat) (s : Shared), NestedAll s.heap ks vs → NestedKey.depthAll ks ≤ n → ∀ v ∈ vs, NoClass P w n s v ∧ HashAsks P w n s v
  | [], _, n, s, x, _, v, m => by cases x; cases m
  | k :: ks, _, n, s, x, hn, v, m => by
    cases x with
    | cons x1 x2 =>
      simp only [NestedKey.depthAll] at hn
      rcases List.mem_cons.mp m with rfl | m
      · exact key_asks k _ n s x1 (by omega)
      · exact keys_ask ks _ n s x2 (by omega) v m
end
/-- a key of a set: a tuple of what can be hashed, not too deep -/
def IsK (h : Heap) (k : NestedKey) (a : Addr) : Prop := NestedIs h k (.ref a) ∧ k.depth ≤ 8
theorem unseen {s : Shared} {k : NestedKey} {b : Addr} {A : Around} {E : Value → Shared → Prop} {Q : Bool → Shared → Prop} (hk : IsK s.heap k b) {ys : List Value} (hy : ∀ y ∈ ys, ∃ k' c, y = Value.ref c ∧ IsK s.heap k' c) (q : Q false s) :
    wpAny (model P w) A (searchCouldBeSeen (.ref b) ys) Q E s := by
  unfold searchCouldBeSeen
  refine wpAny_bind ?_
  refine wpAny_forIn_list _ (fun rest r u => r.1 = none ∧ u = s ∧ ∀ y ∈ rest, ∃ k' c, y = Value.ref c ∧ IsK s.heap k' c) _ (fun v rest r u inv => ?_) (fun r u inv => ?_) _ _ ⟨rfl, rfl, hy⟩
  · obtain ⟨_, rfl, all⟩ := inv
    obtain ⟨k', c, rfl, hc⟩ := all v List.mem_cons_self
    have fine : wpAny (model P w) A (pure (ForInStep.yield ((none : Option Bool), PUnit.unit)) : Sem (ForInStep (Option Bool × PUnit))) (fun r s' => match r with | .yield b' => b'.1 = none ∧ s' = u ∧ ∀ y ∈ rest, ∃ k' c, y = Value.ref c ∧ IsK u.heap k' c | .done b' => True) E u := wpAny_pure ⟨rfl, rfl, fun x m => all x (List.mem_cons_of_mem _ m)⟩
    dsimp only
    by_cases same : (b == c || (carriedByValue (.ref b) && carriedByValue (.ref c))) = true
    · refine wp_if_pos same ?_
      exact wpAny_pure ⟨rfl, rfl, fun x m => all x (List.mem_cons_of_mem _ m)⟩
    · refine wp_if_neg same ?_
      refine wpAny_bind (quiet_key k _ 8 u hk.1 hk.2 _ _ _ ?_)
      simp only [Bool.not_true, Bool.false_eq_true, if_false]
      refine wpAny_bind (quiet_key k' _ 8 u hc.1 hc.2 _ _ _ ?_)
      simp only [Bool.not_true, Bool.false_eq_true, if_false]
      refine wpAny_bind ((key_asks k _ 8 u hk.1 hk.2).1 _ _ _ ?_)
      simp only [Bool.false_eq_true, if_false]
      refine wpAny_bind ((key_asks k' _ 8 u hc.1 hc.2).1 _ _ _ ?_)
      simp only [Bool.false_eq_true, if_false]
      exact wpAny_pure ⟨rfl, rfl, fun x m => all x (List.mem_cons_of_mem _ m)⟩
  · obtain ⟨r1, r2⟩ := r
    obtain ⟨rfl, rfl, _⟩ := inv
    exact wpAny_pure q
end
end DL.ST
set_option Elab.async false
set_option linter.all false
set_option maxRecDepth 100000
set_option maxHeartbeats 1600000
namespace DL.ST
open PySem PySem.Spec L2
open PyProof.Rows hiding St
/-! ### a set of keys; looking for one -/
abbrev KA := Addr × NestedKey
def rowsN (w : World) (L : List KA) : List (Int × Value) := L.map fun p => (p.2.hash w, Value.ref p.1)
def hashesN (w : World) (L : List KA) : List Int := L.map fun p => p.2.hash w
structure SetN (w : World) (h : Heap) (a : Addr) (L : List KA) (es : Array (Int × Value)) (ep : Nat) (t : SetTable) : Prop where
  ob : ∃ o, h.get? a = some o ∧ o.ExactSet ∧ o.data = .set es ep t
  rows : es.toList = rowsN w L
  tab : TabG t (hashesN w L)
  nd : (L.map (·.2)).Nodup
  key : ∀ p ∈ L, IsK h p.2 p.1
  led : w.params.followText "set-order" = true ∨ t.led = true
  room : L.length * 5 < t.mask * 3
  few : t.mask ≤ 4095
section
variable {P : Program} {w : World} {A : Around} {E : Value → Shared → Prop} {s : Shared} {a : Addr} {L : List KA} {es : Array (Int × Value)} {ep : Nat} {t : SetTable}
theorem SetN.count (R : SetN w s.heap a L es ep t) : es.size = L.length := by
  have := congrArg List.length R.rows
  simpa [rowsN] using this
theorem SetN.places (R : SetN w s.heap a L es ep t) : t.place.toList.length = L.length := by
  have := R.tab.len
  simpa [hashesN] using this
theorem SetN.fit (R : SetN w s.heap a L es ep t) : t.fits es.size = true := by
  have h1 := R.places
  have h2 := R.count
  have h3 := R.room
  rw [Array.length_toList] at h1
  unfold SetTable.fits SetTable.fill
  rw [R.tab.clean, Bool.and_eq_true, beq_iff_eq, decide_eq_true_eq]
  exact ⟨by omega, show t.place.size + 0 ≤ t.mask by omega⟩
theorem SetN.row (R : SetN w s.heap a L es ep t) {i : Nat} {p : KA} (h : L[i]? = some p) : es[i]? = some (p.2.hash w, Value.ref p.1) := by
  rw [← Array.getElem?_toList, R.rows, rowsN, List.getElem?_map, h]; rfl
theorem SetN.steady (R : SetN w s.heap a L es ep t) : ¬ t.gaveWay = true := by
  unfold SetTable.gaveWay
  rw [R.tab.size.odd]
  decide
theorem no_dummy (m : Nat) : ∀ (n : Nat) (p : SetTable.Probe), p.dummy = none → (nth m p n).dummy = none
  | 0, _, h => h
  | n + 1, p, h => no_dummy m n (adv m p) (by unfold adv; split <;> exact h)
/-- the n-th look on the way of a hash -/
abbrev lookAt (m : Nat) (h : Int) (n : Nat) : SetTable.Probe := nth m (runAt m (SetTable.bits h % (m + 1)) (SetTable.bits h)) n
theorem look_add (m : Nat) (h : Int) (c q : Nat) : nth m (lookAt m h c) q = lookAt m h (c + q) := (nth_add m c _ q).symm
theorem seek (R : SetN w s.heap a L es ep t) {x : Addr} {k : NestedKey} (hx : IsK s.heap k x) (hu : A.units + 8 < cLine) {K : Nat} (hKf : K < 10 * SetTable.turns t.mask)
    (out : way t.mask (k.hash w) K ∉ t.place.toList) (inn : ∀ c, c < K → way t.mask (k.hash w) c ∈ t.place.toList) {Q : SetFound → Shared → Prop}
    (yes : k ∈ L.map (·.2) → Q (.there none) s) (no : k ∉ L.map (·.2) → Q (.free (way t.mask (k.hash w) K) false) s) :
    ∀ (f c : Nat) (at0 : Option SetTable.Probe), at0.getD (t.probeStart (k.hash w)) = lookAt t.mask (k.hash w) c → c ≤ K → K < f + c →
      (∀ (i : Nat) p, L[i]? = some p → p.2 = k → ∃ d, c ≤ d ∧ d < K ∧ t.place.toList[i]? = some (way t.mask (k.hash w) d)) →
      wpAny (model P w) A (setSearchFrom a (.ref x) (k.hash w) true f at0) Q E s
  | 0, c, _, _, le, lt, _ => absurd lt (by omega)
  | f + 1, c, at0, e0, le, lt, still => by
    obtain ⟨o, ho, hex, hd⟩ := R.ob
    rw [setSearchFrom_succ]
    refine wpAny_bind (wpAny_setState_of ho hd R.fit ?_)
    dsimp only
    refine wp_if_neg R.steady ?_
    try refine wpAny_bind (wpAny_pure ?_)
    have jj : ∀ q, (nth t.mask (lookAt t.mask (k.hash w) c) q).j = way t.mask (k.hash w) (c + q) := fun q => congrArg SetTable.Probe.j (look_add t.mask (k.hash w) c q)
    have hashAt : ∀ (i : Nat) p, L[i]? = some p → (es[i]?.map (·.1)).getD 0 = p.2.hash w := fun i p hp => by rw [R.row hp]; rfl
    have spec := go_spec t R.tab.up R.tab.clean (fun i => (es[i]?.map (·.1)).getD 0) (k.hash w) (10 * SetTable.turns t.mask) (K - c) (lookAt t.mask (k.hash w) c) (no_dummy _ c _ rfl) (by omega)
      (fun q hq => by rw [jj]; exact inn (c + q) (by omega)) (by rw [jj, Nat.add_sub_cancel' le]; exact out)
    have probed : t.probe (fun i => (es[i]?.map (·.1)).getD 0) (k.hash w) (at0.getD (t.probeStart (k.hash w))) = SetTable.probe.go t (fun i => (es[i]?.map (·.1)).getD 0) (k.hash w) (10 * SetTable.turns t.mask) (lookAt t.mask (k.hash w) c) := by rw [e0]; rfl
    rcases spec with ⟨q, i, hq, hi, hh, none', found⟩ | ⟨none', found⟩
    · rw [jj] at hi
      have pr : t.probe (fun i => (es[i]?.map (·.1)).getD 0) (k.hash w) (at0.getD (t.probeStart (k.hash w))) = some (.candidate (way t.mask (k.hash w) (c + q)) i (lookAt t.mask (k.hash w) (c + (q + 1)))) := by rw [probed, found, look_add, look_add]
      rw [pr]
      dsimp only
      have il : i < L.length := by rw [← R.places]; exact (List.getElem?_eq_some_iff.mp hi).1
      obtain ⟨p, hp⟩ : ∃ p, L[i]? = some p := ⟨_, List.getElem?_eq_getElem il⟩
      have mp := List.mem_of_getElem? hp
      have slot : t.slot (way t.mask (k.hash w) (c + q)) = .live i := slot_live R.tab.up hi
      have rest : wpAny (model P w) A (searchRest a (.ref x) (k.hash w) true f es t (way t.mask (k.hash w) (c + q)) i (lookAt t.mask (k.hash w) (c + (q + 1)))) Q E s := by
        unfold searchRest
        rw [R.row hp]
        dsimp only
        refine wpAny_bind (wpAny_holding ((nestedKind P w).eqBool (x := p.2) (y := k) hu (R.key p mp) hx ?_))
        refine wpAny_bind (wpAny_setState_of ho hd R.fit ?_)
        dsimp only
        by_cases same : p.2 = k
        · refine wp_if_pos (by simp [same]) (wpAny_pure (yes (List.mem_map.mpr ⟨p, mp, same⟩)))
        · refine wp_if_neg (by simp [same]) ?_
          try refine wpAny_bind (wpAny_pure ?_)
          rw [sameMem]
          dsimp only
          simp only [if_true, slot, R.row hp]
          refine wpAny_bind (wpAny_isSame_ref_self (wpAny_bind (wpAny_pure ?_)))
          simp only [if_true]
          refine wp_if_neg (by simp [same]) ?_
          refine seek R hx hu hKf out inn yes no f (c + (q + 1)) _ rfl (by omega) (by omega) fun i0 p0 h0 k0 => ?_
          obtain ⟨d, d1, d2, d3⟩ := still i0 p0 h0 k0
          have gt : c + q < d := by
            refine Classical.byContradiction fun ng => ?_
            by_cases eq2 : d = c + q
            · rw [eq2] at d3
              have := slot_live R.tab.up d3
              rw [slot] at this
              injection this with this
              rw [← this, hp] at h0
              cases h0
              exact same k0
            · exact none' (d - c) i0 (by omega) (by rw [jj, Nat.add_sub_cancel' d1]; exact d3) ((hashAt i0 p0 h0).trans (congrArg _ k0))
          exact ⟨d, by omega, d2, d3⟩
      by_cases hl : t.led = true
      · refine wp_if_neg (by simp [hl]) ?_
        try refine wpAny_bind (wpAny_pure ?_)
        exact rest
      · refine wp_if_pos (by simp [hl]) ?_
        refine wpAny_bind (unseen hx (fun y hy => ?_) ?_)
        · obtain ⟨e, he, ee⟩ := List.mem_map.mp hy
          have he2 : e ∈ es.toList := by
            have : e ∈ es ∧ e.1 = k.hash w := by simpa using he
            simpa using this.1
          rw [R.rows] at he2
          obtain ⟨p2, hp2, e2⟩ := List.mem_map.mp he2
          exact ⟨p2.2, p2.1, by rw [← ee, ← e2], R.key p2 hp2⟩
        · refine wp_if_neg (by decide) ?_
          try refine wpAny_bind (wpAny_pure ?_)
          exact rest
    · have pr : t.probe (fun i => (es[i]?.map (·.1)).getD 0) (k.hash w) (at0.getD (t.probeStart (k.hash w))) = some (.empty (way t.mask (k.hash w) K) none) := by rw [probed, found, jj, Nat.add_sub_cancel' le]
      rw [pr]
      dsimp only
      refine wpAny_pure (no fun m => ?_)
      obtain ⟨p0, m0, k0⟩ := List.mem_map.mp m
      obtain ⟨i0, h0⟩ := List.getElem?_of_mem m0
      obtain ⟨d, d1, d2, d3⟩ := still i0 p0 h0 k0
      exact none' (d - c) i0 (by omega) (by rw [jj, Nat.add_sub_cancel' d1]; exact d3) ((hashAt i0 p0 h0).trans (congrArg _ k0))
theorem seek_all (R : SetN w s.heap a L es ep t) {x : Addr} {k : NestedKey} (hx : IsK s.heap k x) (hu : A.units + 8 < cLine) {Q : SetFound → Shared → Prop}
    (yes : k ∈ L.map (·.2) → Q (.there none) s)
    (no : ∀ K, k ∉ L.map (·.2) → way t.mask (k.hash w) K ∉ t.place.toList → (∀ c, c < K → way t.mask (k.hash w) c ∈ t.place.toList) → Q (.free (way t.mask (k.hash w) K) false) s) :
    wpAny (model P w) A (setSearch a (.ref x) (k.hash w) true) Q E s := by
  have hroom := R.room
  obtain ⟨K, hKf, out, inn⟩ := R.tab.gap (by unfold hashesN; rw [List.length_map]; omega) (k.hash w)
  have big : K < 100000 + 0 := by
    have := R.tab.size.le
    unfold SetTable.turns at hKf
    omega
  unfold setSearch
  refine seek R hx hu hKf out inn yes (fun hn => no K hn out inn) 100000 0 none rfl (Nat.zero_le _) big fun i p hp hk => ?_
  have hi : (hashesN w L)[i]? = some (k.hash w) := by unfold hashesN; rw [List.getElem?_map, hp, ← hk]; rfl
  have il : i < t.place.toList.length := by rw [R.places]; exact (List.getElem?_eq_some_iff.mp hp).1
  have hj := List.getElem?_eq_getElem il
  obtain ⟨c, lt, e⟩ := R.tab.ahead out hi hj
  exact ⟨c, Nat.zero_le _, lt, by rw [hj, e]⟩
end
end DL.ST
set_option Elab.async false
set_option linter.all false
set_option maxRecDepth 100000
set_option maxHeartbeats 1600000
namespace DL.ST
open PySem PySem.Spec L2
open PyProof.Rows hiding St
/-! ### one put in -/
section
variable {P : Program} {w : World} {A : Around} {E : Value → Shared → Prop} {s : Shared}
theorem IsK.beside {h h' : Heap} {k : NestedKey} {a b : Addr} {o : Obj} {es : Array (Int × Value)} {ep : Nat} {t : SetTable} (hb : IsK h k b) (ho : h.get? a = some o) (hd : o.data = .set es ep t) (hs : Heap.SameBut a h h') : IsK h' k b :=
  ⟨NestedIs.at (fun c u vs n hc hu => (hs.2 c fun e => by
    subst e
    rw [ho] at hc
    cases hc
    rw [hd] at hu
    cases hu).trans hc) k _ hb.1, hb.2⟩
theorem TabG.dull {t : SetTable} {hs : List Int} (T : TabG t hs) (b : Bool) : TabG { t with plain := b } hs := ⟨T.up, T.clean, T.many, T.size, T.found⟩
theorem rows_in (L : List KA) (p : Nat) (x : KA) : rowsN w (L.take p ++ x :: L.drop p) = (rowsN w L).take p ++ (x.2.hash w, Value.ref x.1) :: (rowsN w L).drop p := by
  unfold rowsN
  rw [List.map_append, List.map_cons, List.map_take, List.map_drop]
theorem hashes_in (L : List KA) (p : Nat) (x : KA) : hashesN w (L.take p ++ x :: L.drop p) = (hashesN w L).take p ++ x.2.hash w :: (hashesN w L).drop p := by
  unfold hashesN
  rw [List.map_append, List.map_cons, List.map_take, List.map_drop]
/-- the rows in another order -/
theorem reorder (L : List KA) (es : Array (Int × Value)) (order : Array Nat) (hr : es.toList = rowsN w L) (hp : order.toList.Perm (List.range L.length)) :
    ∃ L2, (order.filterMap (es[·]?)).toList = rowsN w L2 ∧ L2.Perm L ∧ hashesN w L2 = order.toList.map fun i => (es.map (·.1)).getD i 0 := by
  have ent : ∀ i (h : i < L.length), es[i]? = some ((L[i]).2.hash w, Value.ref (L[i]).1) := fun i h => by
    rw [← Array.getElem?_toList, hr, rowsN, List.getElem?_map, List.getElem?_eq_getElem h]; rfl
  have key : ∀ l : List Nat, (∀ i ∈ l, i < L.length) → l.filterMap (fun i => es[i]?) = rowsN w (l.filterMap fun i => L[i]?) ∧ hashesN w (l.filterMap fun i => L[i]?) = l.map fun i => (es.map (·.1)).getD i 0 := by
    intro l
    induction l with
    | nil => intro _; exact ⟨rfl, rfl⟩
    | cons i l ih =>
      intro hl
      have hi := hl i List.mem_cons_self
      obtain ⟨e1, e2⟩ := ih fun j hj => hl j (List.mem_cons_of_mem _ hj)
      rw [List.filterMap_cons_some (ent i hi), List.filterMap_cons_some (List.getElem?_eq_getElem hi), e1]
      refine ⟨rfl, ?_⟩
      have e3 : (es.map (·.1)).getD i 0 = (L[i]).2.hash w := by
        have : (es.map (·.1))[i]? = some ((L[i]).2.hash w) := by rw [Array.getElem?_map, ent i hi]; rfl
        simp [Array.getD_eq_getD_getElem?, this]
      rw [List.map_cons, e3, ← e2]
      rfl
  obtain ⟨e1, e2⟩ := key order.toList fun i hi => List.mem_range.mp (hp.mem_iff.mp hi)
  refine ⟨_, by simpa using e1, ?_, e2⟩
  have h2 : ∀ n, n ≤ L.length → (List.range n).filterMap (fun i => L[i]?) = L.take n := by
    intro n
    induction n with
    | zero => intro _; rfl
    | succ n ih =>
      intro hn
      rw [List.range_succ, List.filterMap_append, ih (Nat.le_of_lt hn), List.take_succ, List.getElem?_eq_getElem hn, List.filterMap_cons_some (List.getElem?_eq_getElem hn)]
      rfl
  have h3 := hp.filterMap (fun i => L[i]?)
  rw [h2 L.length (Nat.le_refl _), List.take_length] at h3
  exact h3
variable {a : Addr} {L : List KA} {es : Array (Int × Value)} {ep : Nat} {t : SetTable}
theorem relayN {o : Obj} (ho : s.heap.get? a = some o) (hex : o.ExactSet) (hd : o.data = .set es ep t) (rows : es.toList = rowsN w L) (tab : TabG t (hashesN w L)) (nd : (L.map (·.2)).Nodup) (key : ∀ p ∈ L, IsK s.heap p.2 p.1) (led : w.params.followText "set-order" = true ∨ t.led = true)
    (le : L.length ≤ t.mask) {wanted M : Nat} (hw : SetTable.sizeAbove wanted - 1 = M) (hM : Msk2 M) (h2 : M ≤ 4095) (h3 : SetTable.sizeAbove wanted ≤ 4096) (room : L.length * 5 < M * 3) {Q : Unit → Shared → Prop}
    (q : ∀ h' L' es' ep' t', Heap.SameBut a s.heap h' → SetN w h' a L' es' ep' t' → L'.Perm L → Q () { s with heap := h' }) : wpAny (model P w) A (setRelay a wanted) Q E s := by
  have many : es.size = L.length := by
    have := congrArg List.length rows
    simpa [rowsN] using this
  have placed : t.place.size = L.length := by
    have := tab.many
    simpa [hashesN] using this
  have fit : t.fits es.size = true := by
    unfold SetTable.fits SetTable.fill
    rw [tab.clean, Bool.and_eq_true, beq_iff_eq, decide_eq_true_eq]
    exact ⟨by omega, show t.place.size + 0 ≤ t.mask by omega⟩
  obtain ⟨t2, order, e, perm, T2, em, el, _⟩ := relaid_G t (hs := es.map (·.1)) (wanted := wanted) hw hM (by rw [Array.size_map, many]; omega)
  rw [Array.size_map, many] at perm
  obtain ⟨L2, r1, r2, r3⟩ := reorder L es order rows perm
  rw [← r3] at T2
  have sz : (order.filterMap (es[·]?)).size = es.size := by
    have := congrArg List.length r1
    rw [Array.length_toList, rowsN, List.length_map, r2.length_eq] at this
    rw [this, many]
  rw [setRelay_eq]
  refine wpAny_bind (wpAny_setState_of ho hd fit ?_)
  dsimp only
  refine wp_if_neg (by rw [sizeLine_eq]; omega) ?_
  try refine wpAny_bind (wpAny_pure ?_)
  rw [e]
  dsimp only
  refine wpAny_bind ?_
  refine wp_if_neg (by rw [sz]; simp) ?_
  try refine wpAny_bind (wpAny_pure ?_)
  refine wpAny_pure ?_
  dsimp only
  refine wpAny_storeSet_of ho hd ?_ (by rw [sz, many, sizeLine_eq]; omega)
  have sb : Heap.SameBut a s.heap (s.heap.update a (Obj.putSet (order.filterMap (es[·]?)) t2)) := Heap.SameBut.update ..
  refine q _ L2 (order.filterMap (es[·]?)) (ep + 1) t2 sb ⟨⟨_, store_at ho hd, ⟨hex.1, hex.2.1, hex.2.2⟩, rfl⟩, r1, T2, ((r2.map (·.2)).nodup_iff).mpr nd, fun p m => (key p (r2.mem_iff.mp m)).beside ho hd sb, by rw [el]; exact led, by rw [r2.length_eq, em]; exact room, by rw [em]; exact h2⟩ r2
theorem addN (R : SetN w s.heap a L es ep t) {x : Addr} {k : NestedKey} (hx : IsK s.heap k x) (hu : A.units + 8 < cLine) (few : L.length + 1 ≤ 1200) {Q : Bool → Shared → Prop}
    (q : ∀ b h' L' es' ep' t', Heap.SameBut a s.heap h' → SetN w h' a L' es' ep' t' → (k ∈ L.map (·.2) → L' = L) → (k ∉ L.map (·.2) → L'.Perm ((x, k) :: L)) → Q b { s with heap := h' }) :
    wpAny (model P w) A (setAddHashed a (.ref x) (k.hash w)) Q E s := by
  obtain ⟨o, ho, hex, hd⟩ := R.ob
  have many := R.count
  have room := R.room
  unfold setAddHashed
  refine wpAny_holding ?_
  rw [show (100000 : Nat) = 99999 + 1 from rfl, setAddHashedIn_succ]
  refine wpAny_bind (wpAny_setState_of ho hd R.fit ?_)
  dsimp only
  refine wp_if_neg (by simp [byScan, Value.scannable]) ?_
  try refine wpAny_bind (wpAny_pure ?_)
  refine wpAny_bind (seek_all R hx hu (fun m => wpAny_pure (q false s.heap L es ep t (Heap.SameBut.refl a s.heap) R (fun _ => rfl) fun z => absurd m z)) fun K new out inn => ?_)
  dsimp only
  refine wpAny_bind (wpAny_setState_of ho hd R.fit ?_)
  dsimp only
  obtain ⟨p1, p2, p3, p4, p5, p6, p7⟩ := R.tab.putG out inn
  generalize t.put (way t.mask (k.hash w) K) = pt at p1 p3 p4 p5 p6 p7 ⊢
  generalize SetTable.below t.place (way t.mask (k.hash w) K) = p at p1 p2 p3
  obtain ⟨t1, p0⟩ := pt
  dsimp only at p1 p3 p4 p5 p6 p7 ⊢
  subst p1
  have rest : ∀ t2 : SetTable, TabG t2 (hashesN w (L.take p0 ++ (x, k) :: L.drop p0)) → t2.mask = t.mask → t2.led = t.led → t2.fill = L.length + 1 →
      wpAny (model P w) A (do
        storeSet a (SetTable.insertAt es p0 (k.hash w, Value.ref x)) t2
        if (!false && t2.tooFull) = true then
          setRelay a (SetTable.grown (es.size + 1))
          pure true
        else pure true) Q E s := by
    intro t2 T2 em el ef
    have rows2 : (SetTable.insertAt es p0 (k.hash w, Value.ref x)).toList = rowsN w (L.take p0 ++ (x, k) :: L.drop p0) := by rw [SetTable.toList_insertAt, rows_in, R.rows]
    have pm : (L.take p0 ++ (x, k) :: L.drop p0).Perm ((x, k) :: L) := put_perm L p0 (x, k)
    generalize SetTable.insertAt es p0 (k.hash w, Value.ref x) = es2 at rows2 ⊢
    generalize L.take p0 ++ (x, k) :: L.drop p0 = L2 at T2 rows2 pm
    have len2 : L2.length = L.length + 1 := pm.length_eq
    have many2 : es2.size = L.length + 1 := by
      have := congrArg List.length rows2
      rw [Array.length_toList, rowsN, List.length_map, len2] at this
      exact this
    refine wpAny_bind (wpAny_storeSet_of ho hd ?_ (by rw [many2, sizeLine_eq]; omega))
    have sb : Heap.SameBut a s.heap (s.heap.update a (Obj.putSet es2 t2)) := Heap.SameBut.update ..
    have ho2 := store_at (es' := es2) (t' := t2) ho hd
    generalize s.heap.update a (Obj.putSet es2 t2) = h2 at sb ho2 ⊢
    have nd2 : (L2.map (·.2)).Nodup := ((pm.map (·.2)).nodup_iff).mpr (List.nodup_cons.mpr ⟨new, R.nd⟩)
    have key2 : ∀ p ∈ L2, IsK h2 p.2 p.1 := fun p m => by
      rcases List.mem_cons.mp (pm.mem_iff.mp m) with rfl | m
      · exact hx.beside ho hd sb
      · exact (R.key p m).beside ho hd sb
    have led2 : w.params.followText "set-order" = true ∨ t2.led = true := by rw [el]; exact R.led
    have R2few := R.few
    by_cases full : t2.tooFull = true
    · refine wp_if_pos (by simp [full]) ?_
      have f := full
      unfold SetTable.tooFull at f
      rw [decide_eq_true_eq, ef, em] at f
      have le1023 : t.mask ≤ 1023 := by
        obtain ⟨j, j1, j2, j3⟩ := R.tab.size
        have : j < 13 := Nat.lt_of_not_le fun le => by
          have : 2 ^ 13 ≤ 2 ^ j := Nat.pow_le_pow_right (by omega) le
          omega
        have : j < 12 := Nat.lt_of_not_le fun le => by
          have e12 : j = 12 := by omega
          subst e12
          omega
        have : j < 11 := Nat.lt_of_not_le fun le => by
          have e11 : j = 11 := by omega
          subst e11
          omega
        have : 2 ^ j ≤ 2 ^ 10 := Nat.pow_le_pow_right (by omega) (by omega)
        omega
      obtain ⟨M, g1, g2, g3, g4, g5⟩ := grows R.tab.size le1023 (n := L.length + 1) (by omega) (by omega)
      rw [many]
      refine wpAny_bind (relayN (s := { s with heap := h2 }) ho2 ⟨hex.1, hex.2.1, hex.2.2⟩ rfl rows2 T2 nd2 key2 led2 (by rw [len2, em]; omega) g1 g2 g3 g4 (by rw [len2]; exact g5) fun h3 L3 es3 ep3 t3 sb3 R3 pm3 => ?_)
      exact wpAny_pure (q true h3 L3 es3 ep3 t3 (sb.trans sb3) R3 (fun z => absurd z new) fun _ => pm3.trans pm)
    · refine wp_if_neg (by simp [full]) ?_
      have f := full
      unfold SetTable.tooFull at f
      rw [decide_eq_true_eq, ef] at f
      exact wpAny_pure (q true h2 L2 es2 (ep + 1) t2 sb ⟨⟨_, ho2, ⟨hex.1, hex.2.1, hex.2.2⟩, rfl⟩, rows2, T2, nd2, key2, led2, by rw [len2]; omega, by rw [em]; exact R.few⟩ (fun z => absurd z new) fun _ => pm)
  have hf : t1.fill = L.length + 1 := by
    rw [p7]
    unfold hashesN
    rw [List.length_map]
  rw [← hashes_in L p0 (x, k)] at p3
  have both : ∀ b : Bool, wpAny (model P w) A (do
        storeSet a (SetTable.insertAt es p0 (k.hash w, Value.ref x)) (if b = true then t1 else { t1 with plain := false })
        if (!false && (if b = true then t1 else { t1 with plain := false }).tooFull) = true then
          setRelay a (SetTable.grown (es.size + 1))
          pure true
        else pure true) Q E s := fun b => by
    cases b with
    | true => exact rest t1 p3 p4 p5 hf
    | false => exact rest { t1 with plain := false } (p3.dull false) p4 p5 hf
  by_cases hp : t1.plain = true
  · refine wp_if_pos hp ?_
    exact wpAny_bind ((key_asks k _ 8 s hx.1 hx.2).2 _ _ _ fun b => both b)
  · refine wp_if_neg hp ?_
    exact wpAny_bind (wpAny_pure (both true))
end
end DL.ST
set_option Elab.async false
set_option linter.all false
set_option maxRecDepth 100000
set_option maxHeartbeats 3200000
namespace DL.ST
open PySem PySem.Spec L2
open PyProof.Rows hiding St
/-! ### set(xs), xs a list or a tuple of nested keys -/
/-- what a set holds of the first n keys -/
structure Held (M : List KA) (n : Nat) (L : List KA) : Prop where
  from' : ∀ z ∈ L, z ∈ M.take n
  every : ∀ z ∈ M.take n, z.2 ∈ L.map (·.2)
  few : L.length ≤ n
theorem Held.none (M : List KA) : Held M 0 [] := ⟨fun _ m => (by cases m), fun _ m => (by simp at m), Nat.le_refl _⟩
theorem Held.next {M L L' : List KA} {n : Nat} {z : KA} (g : Held M n L) (h : M[n]? = some z) (c1 : z.2 ∈ L.map (·.2) → L' = L) (c2 : z.2 ∉ L.map (·.2) → L'.Perm (z :: L)) : Held M (n + 1) L' := by
  have e := take_next h
  rcases Classical.em (z.2 ∈ L.map (·.2)) with c | c
  · rw [c1 c]
    refine ⟨fun y m => by rw [e]; exact List.mem_append_left _ (g.from' y m), fun y m => ?_, Nat.le_succ_of_le g.few⟩
    rw [e] at m
    rcases List.mem_append.mp m with q | q
    · exact g.every y q
    · rw [List.mem_singleton.mp q]; exact c
  · have pm := c2 c
    refine ⟨fun y m => ?_, fun y m => ?_, by rw [pm.length_eq, List.length_cons]; exact Nat.succ_le_succ g.few⟩
    · rw [e]
      rcases List.mem_cons.mp (pm.mem_iff.mp m) with q | q
      · rw [q]; exact List.mem_append_right _ (List.mem_singleton.mpr rfl)
      · exact List.mem_append_left _ (g.from' y q)
    · rw [(pm.map (·.2)).mem_iff, List.map_cons]
      rw [e] at m
      rcases List.mem_append.mp m with q | q
      · exact List.mem_cons_of_mem _ (g.every y q)
      · rw [List.mem_singleton.mp q]; exact List.mem_cons_self
section
variable {P : Program} {w : World} {A : Around} {E : Value → Shared → Prop} {s : Shared}
theorem IsK.stays {h h' : Heap} {k : NestedKey} {b : Addr} (x : IsK h k b) (hk : ∀ c o, h.get? c = some o → h'.get? c = some o) : IsK h' k b :=
  ⟨NestedIs.at (fun c o _ _ e _ => hk c o e) k _ x.1, x.2⟩
theorem SetN.stays {h h' : Heap} {a : Addr} {L : List KA} {es : Array (Int × Value)} {ep : Nat} {t : SetTable} (R : SetN w h a L es ep t) (ha : ∀ o, h.get? a = some o → h'.get? a = some o) (hk : ∀ p ∈ L, IsK h' p.2 p.1) : SetN w h' a L es ep t := by
  obtain ⟨o, ho, r⟩ := R.ob
  exact { R with ob := ⟨o, ha o ho, r⟩, key := hk }
theorem setN_new {h : Heap} {a : Addr} (ho : h.get? a = some (newS w)) : SetN w h a [] #[] 0 (.fresh 0 0 (!w.params.followText "set-order")) where
  ob := ⟨_, ho, ⟨rfl, rfl, rfl⟩, rfl⟩
  rows := rfl
  tab := ⟨List.Pairwise.nil, rfl, rfl, ⟨3, by decide, by decide, rfl⟩, fun i h j e => (by simp [hashesN] at e)⟩
  nd := List.nodup_nil
  key := fun _ m => (by cases m)
  led := by
    show _ ∨ (!w.params.followText "set-order") = true
    cases w.params.followText "set-order" <;> simp
  room := show 0 * 5 < 7 * 3 by decide
  few := show 7 ≤ 4095 by decide
/-- the loop that puts the keys in, one by one -/
theorem put_keys {it : Addr} {fp wr : List Addr} {G : Array GenState → Array GenState → Prop} {n : Nat} {Pv : Nat → Value → Prop} {Wh : Nat → Shared → Prop} {R : Result → Shared → Prop}
    (W : WalksS P w A.in1 it fp wr G n Pv Wh) (S : Addr) (off : S ∉ fp) (M : List KA) (en : n = M.length) (few : M.length ≤ 1200) (each : ∀ j v, Pv j v → ∃ z, M[j]? = some z ∧ v = .ref z.1)
    (g0 : Heap) (keys : ∀ z ∈ M, IsK g0 z.2 z.1) (newS0 : g0.get? S = none) (newW : ∀ b ∈ wr, g0.get? b = none) (hu : A.units + 32 < cLine) :
    ∀ (left j : Nat) (s : Shared), n - j = left → j ≤ n → Wh j s → (∀ b o, g0.get? b = some o → s.heap.get? b = some o) → (∃ L es ep t, SetN w s.heap S L es ep t ∧ Held M j L) →
      (∀ u L es ep t, Moved (S :: wr) G s u → SetN w u.heap S L es ep t → Held M n L → (∀ b o, g0.get? b = some o → u.heap.get? b = some o) → R (.ok (.ret .none)) u) →
      codeAny (model P w) A (.builtin "set.update.loop" ⟨[.ref S, .ref it], []⟩) R s := by
  have offW : S ∉ wr := fun m => off (W.sub _ m)
  have wider : ∀ b ∈ wr, b ∈ S :: wr := fun b m => List.mem_cons_of_mem _ m
  have stay : ∀ {u v : Shared}, Moved wr G u v → (∀ b o, g0.get? b = some o → u.heap.get? b = some o) → ∀ b o, g0.get? b = some o → v.heap.get? b = some o := fun mv k b o e =>
    mv.heap b o (fun m => by rw [newW b m] at e; cases e) (k b o e)
  intro left
  induction left with
  | zero =>
    intro j s el le wh k ⟨L, es, ep, t, T, g⟩ q
    obtain rfl : j = n := by omega
    refine codeAny_builtin F.entry_set_update_loop ?_
    rw [Around.under_plainId F.plain_set_update_loop _]
    show wpAny _ A.in1 (pyNext (.ref it) >>= _) _ _ s
    refine wpAny_bind (W.done s _ _ wh fun u mv => ?_)
    have k2 := stay mv k
    exact (show wpAny _ A.in1 (ret Value.none) _ _ u from wpAny_pure (q u L es ep t (mv.mono wider) (T.stays (fun o e => mv.heap S o offW e) fun z m => (keys z (List.mem_of_mem_take (g.from' z m))).stays k2) g k2))
  | succ left ih =>
    intro j s el le wh k ⟨L, es, ep, t, T, g⟩ q
    have lt : j < n := by omega
    refine codeAny_builtin F.entry_set_update_loop ?_
    rw [Around.under_plainId F.plain_set_update_loop _]
    show wpAny _ A.in1 (pyNext (.ref it) >>= _) _ _ s
    refine wpAny_bind (W.item j s _ _ lt wh fun v u pv wh1 mv => ?_)
    obtain ⟨z, hz, rfl⟩ := each j v pv
    have k2 := stay mv k
    have T2 : SetN w u.heap S L es ep t := T.stays (fun o e => mv.heap S o offW e) fun y m => (keys y (List.mem_of_mem_take (g.from' y m))).stays k2
    have hx : IsK u.heap z.2 z.1 := (keys z (List.mem_of_getElem? hz)).stays k2
    show wpAny _ A.in1 (holding [Value.ref z.1] (setAdd S (.ref z.1)) >>= _) _ _ u
    refine wpAny_bind (wpAny_holding ?_)
    unfold setAdd
    refine wpAny_holding ?_
    refine wpAny_bind (pyHash_key z.2 _ _ u _ hx.1 (by have := hx.2; simp only [Around.in1_units]; omega) ?_)
    refine addN (s := { u with toks := u.toks + z.2.draws }) T2 hx (by simp only [Around.in1_units]; omega) (by have := g.few; omega) fun b h2 L2 es2 ep2 t2 sb T3 c1 c2 => ?_
    have k3 : ∀ b o, g0.get? b = some o → h2.get? b = some o := fun b o e => (sb.2 b (fun y => by rw [y, newS0] at e; cases e)).trans (k2 b o e)
    refine wpAny_pure ⟨plainId_quiet F.plain_set_update_loop _, ih (j + 1) _ (by omega) lt (W.frame _ u _ _ wh1 (Nat.le_add_right _ _) fun b m o e => ?_) k3 ⟨L2, es2, ep2, t2, T3, g.next hz c1 c2⟩ fun u2 L3 es3 ep3 t3 mv2 T4 g4 k4 => ?_⟩
    · exact (sb.2 b (fun y : b = S => off (y ▸ m))).trans e
    · exact q u2 L3 es3 ep3 t3 (Moved.trans W.gtrans ((mv.mono wider).then_heap (Nat.le_add_right _ _) fun b o m e => (sb.2 b (fun y => m (y ▸ List.mem_cons_self))).trans e) mv2) T4 g4 k4
/-- of a list or of a tuple -/
theorem set_of_keys {l : Addr} {items : Array Value} (M : List KA) {Q : Value → Shared → Prop} (free : A.handled = none) (isl : s.heap.IsList l items ∨ s.heap.IsTuple l items) (refs : items.toList = M.map fun z => Value.ref z.1) (keys : ∀ z ∈ M, IsK s.heap z.2 z.1) (few : M.length ≤ 1200) (hu : A.units + 64 < cLine)
    (fin : ∀ (g : Heap) (tk : Nat) (L : List KA) es ep t, SetN w g s.heap.objs.size L es ep t → Held M M.length L → (∀ b o, s.heap.get? b = some o → g.get? b = some o) → Q (.ref s.heap.objs.size) { s with heap := g, toks := tk }) :
    wpAny (model P w) A (call (.type "set") [.ref l]) Q E s := by
  have count : items.size = M.length := by
    have := congrArg List.length refs
    rw [Array.length_toList, List.length_map] at this
    exact this
  have vals : ∀ (j : Nat) (v : Value), items[j]? = some v → ∃ z, M[j]? = some z ∧ v = .ref z.1 := fun j v hv => by
    rw [← Array.getElem?_toList, refs, List.getElem?_map] at hv
    obtain ⟨z, e1, e2⟩ := Option.map_eq_some_iff.mp hv
    exact ⟨z, e1, e2.symm⟩
  have none_at : ∀ b, s.heap.objs.size ≤ b → s.heap.get? b = none := fun b le => by
    cases e : s.heap.get? b with
    | none => rfl
    | some o => exact absurd (Nat.lt_of_lt_of_le (Heap.lt_size e) le) (Nat.lt_irrefl _)
  obtain ⟨c, tl, mro⟩ := F.called_set.mro
  have f1 := F.called_set.made; have f2 := F.called_set.sub; have f3 := F.called_set.notType; have f4 := F.called_set.canCreate
  refine wpAny_call (codeAny_of_tree (show wpAny _ _ (callAny (.type "set") _) _ _ _ from wpAny_pure ⟨Code.quiet_builtin _ (by decide +kernel), codeAny_builtin F.entry_type_call ?_⟩))
  rw [Around.under_plain (weight_type_call_type "set" [.ref l] []) rfl]
  have f5 := F.typeCall_set_1 (.ref l)
  repeat (any_goals (first | assumption | wp_step))
  refine codeAny_mono (code_set_led1 (.ref l) (E := E) (Q₁ := fun ob t => ob = .ref s.heap.objs.size ∧ t = { s with heap := s.heap.push (newS w) }) ⟨rfl, rfl⟩) fun r t back => ?_
  match r, back with
  | .error _, back => exact back
  | .ok (.ret ob), back =>
    obtain ⟨rfl, rfl⟩ := back
    have ty : Shared.TypeIs { s with heap := s.heap.push (newS w) } (.ref s.heap.objs.size) "set" := ⟨_, newS_at s.heap, rfl⟩
    have f6 := F.called_set.init.lookup; have f7 := F.called_set.init.bind (.ref s.heap.objs.size)
    repeat (any_goals (first | assumption | wp_step))
    have size1 : (s.heap.push (newS w)).objs.size = s.heap.objs.size + 1 := Heap.size_push ..
    have keep1 : ∀ b o, s.heap.get? b = some o → (s.heap.push (newS w)).get? b = some o := fun b o e => Heap.get?_push_of_some _ e
    refine codeAny_mono (codeAny_call_builtin (R := wants (fun r u => r = .none ∧ ∃ g tk L es ep t, u = { s with heap := g, toks := tk } ∧ SetN w g s.heap.objs.size L es ep t ∧ Held M M.length L ∧ (∀ b o, s.heap.get? b = some o → g.get? b = some o)) E) F.called_set.init.plain F.entry_set_init (check_set_init_1 ty ?_)) fun r u back => ?_
    · rcases isl with isl | isl
      · obtain ⟨⟨lc, ld, la, ls⟩, at0, c0, cap, d0⟩ := isl
        dsimp only at c0 d0
        subst c0 d0
        have at1 := keep1 _ _ at0
        have f8 := F.sub_list_set; have f9 := F.sub_list_frozenset
        have f10 : (Value.type "list" == Value.type "dict") = false := by decide
        have isl1 : (s.heap.push (newS w)).IsList l items := ⟨_, at1, rfl, cap, rfl⟩
        unfold Builtin.«set.__init__» noKeywords Builtin.Frozenset.updateFrom
        generalize way : pyIter = it
        wp_walk
        subst way
        refine wpAny_pyIter_list isl1 (wpAny_bind (wpAny_runValue ?_))
        have ll := Heap.lt_size at0
        have n1 : l ≠ (s.heap.push (newS w)).objs.size := size1 ▸ Nat.ne_of_lt (Nat.lt_succ_of_lt ll)
        refine put_keys ((Walks.list (by simp [free]) _ l n1 items).toS) s.heap.objs.size ?_ M count few vals s.heap keys (none_at _ (Nat.le_refl _)) (fun b m => none_at b (by rw [List.mem_singleton.mp m, Heap.size_push]; exact Nat.le_succ _)) (by simp only [Around.in1_units]; omega) (items.size - 0) 0 _ (by omega) (Nat.zero_le _) ⟨⟨_, Heap.get?_push_size _ rfl, rfl, rfl⟩, isl1.push _⟩
          (fun b o e => Heap.get?_push_of_some _ (keep1 b o e)) ⟨[], #[], 0, _, setN_new (Heap.get?_push_of_some _ (newS_at s.heap)), Held.none M⟩ fun u L es ep t moved T g k => ?_
        · simp only [List.mem_cons, List.not_mem_nil, or_false, not_or]
          exact ⟨size1 ▸ Nat.ne_of_lt (Nat.lt_succ_self _), Nat.ne_of_gt ll⟩
        · obtain ⟨g1, g2, d2, tk, os2⟩ := u
          obtain rfl : g2 = s.gens := moved.gens
          obtain rfl : d2 = s.drawn := moved.drawn
          obtain rfl : os2 = s.os := moved.os
          show wpAny _ _ _ _ _ _
          rw [count] at g
          exact wpAny_pure (show wpAny _ _ (ret Value.none) _ _ _ from wpAny_pure ⟨rfl, g1, tk, L, es, ep, t, rfl, T, g, k⟩)
      · obtain ⟨⟨lc, ld, la, ls⟩, at0, c0, cap, d0⟩ := isl
        dsimp only at c0 d0
        subst c0 d0
        have at1 := keep1 _ _ at0
        have f8 := F.sub_tuple_set; have f9 := F.sub_tuple_frozenset
        have f10 : (Value.type "tuple" == Value.type "dict") = false := by decide
        have isl1 : (s.heap.push (newS w)).IsTuple l items := ⟨_, at1, rfl, cap, rfl⟩
        unfold Builtin.«set.__init__» noKeywords Builtin.Frozenset.updateFrom
        generalize way : pyIter = it
        wp_walk
        subst way
        refine wpAny_pyIter_tuple isl1 (wpAny_bind (wpAny_runValue ?_))
        have ll := Heap.lt_size at0
        have n1 : l ≠ (s.heap.push (newS w)).objs.size := size1 ▸ Nat.ne_of_lt (Nat.lt_succ_of_lt ll)
        refine put_keys ((Walks.tuple (by simp [free]) _ l n1 items).toS) s.heap.objs.size ?_ M count few vals s.heap keys (none_at _ (Nat.le_refl _)) (fun b m => none_at b (by rw [List.mem_singleton.mp m, Heap.size_push]; exact Nat.le_succ _)) (by simp only [Around.in1_units]; omega) (items.size - 0) 0 _ (by omega) (Nat.zero_le _) ⟨⟨_, Heap.get?_push_size _ rfl, rfl, rfl⟩, isl1.push _⟩
          (fun b o e => Heap.get?_push_of_some _ (keep1 b o e)) ⟨[], #[], 0, _, setN_new (Heap.get?_push_of_some _ (newS_at s.heap)), Held.none M⟩ fun u L es ep t moved T g k => ?_
        · simp only [List.mem_cons, List.not_mem_nil, or_false, not_or]
          exact ⟨size1 ▸ Nat.ne_of_lt (Nat.lt_succ_self _), Nat.ne_of_gt ll⟩
        · obtain ⟨g1, g2, d2, tk, os2⟩ := u
          obtain rfl : g2 = s.gens := moved.gens
          obtain rfl : d2 = s.drawn := moved.drawn
          obtain rfl : os2 = s.os := moved.os
          show wpAny _ _ _ _ _ _
          rw [count] at g
          exact wpAny_pure (show wpAny _ _ (ret Value.none) _ _ _ from wpAny_pure ⟨rfl, g1, tk, L, es, ep, t, rfl, T, g, k⟩)
    · match r, back with
      | .error _, back => exact back
      | .ok (.ret r), back =>
        obtain ⟨rfl, g, tk, L, es, ep, t, rfl, T, hd, keep⟩ := back
        repeat (any_goals (first | assumption | wp_step))
        exact fin g tk L es ep t T hd keep
end
end DL.ST
set_option Elab.async false
set_option linter.all false
set_option maxRecDepth 100000
set_option maxHeartbeats 2000000
namespace DL.ST
open PySem PySem.Spec L2
open PyProof.Rows hiding St
open PySem.W (alike dataLt dataLe AllAlike EachIs)
/-! ### the set as an object of the calculus -/
def SetBare (w : World) (h : Heap) (a : Addr) (L : List KA) : Prop :=
  ∃ (es : Array (Int × Value)) (ep : Nat) (t : SetTable), (∃ o, h.get? a = some o ∧ o.ExactSet ∧ o.data = .set es ep t) ∧ es.toList = rowsN w L ∧ TabG t (hashesN w L) ∧ (L.map (·.2)).Nodup ∧
    (w.params.followText "set-order" = true ∨ t.led = true) ∧ L.length * 5 < t.mask * 3 ∧ t.mask ≤ 4095
def SetNO (w : World) (a : Addr) (L : List KA) : HO := .ext fun h => SetBare w h a L
theorem SetN.bare {w : World} {h : Heap} {a : Addr} {L : List KA} {es : Array (Int × Value)} {ep : Nat} {t : SetTable} (R : SetN w h a L es ep t) : SetBare w h a L :=
  ⟨es, ep, t, R.ob, R.rows, R.tab, R.nd, R.led, R.room, R.few⟩
theorem SetBare.whole {w : World} {h : Heap} {a : Addr} {L : List KA} (R : SetBare w h a L) (hk : ∀ p ∈ L, IsK h p.2 p.1) : ∃ es ep t, SetN w h a L es ep t := by
  obtain ⟨es, ep, t, q1, q2, q3, q4, q5, q6, q7⟩ := R
  exact ⟨es, ep, t, q1, q2, q3, q4, hk, q5, q6, q7⟩
theorem setNO_made {P : Program} {w : World} {H : Hp} {h : Heap} {a : Addr} {L : List KA} (R : SetBare w h a L) : ObjOk P w H h a (SetNO w a L) := by
  have ⟨es, ep, t, ⟨o, ho, r⟩, q⟩ := R
  refine ⟨R, ⟨o, ho⟩, fun h1 h2 p k => ?_⟩
  have p2 : SetBare w h1 a L := p
  have ⟨es2, ep2, t2, ⟨o2, ho2, r2⟩, q2⟩ := p2
  exact ⟨es2, ep2, t2, ⟨o2, k o2 ho2, r2⟩, q2⟩
section
variable {X : Cx} {pins : List (Addr × Obj)} {σ : St} {H : Hp} {s : Shared} {G : Addr → Prop}
mutual
/-- data that is a key is a key of the heap -/
theorem nested_of (I : Inv X pins σ H s) : ∀ (k : NestedKey) (v : V) (u : Value), Dq X.K G H v k.data → RelV v u → NestedIs s.heap k u
  | .none, _, _, h, r => by
    rw [NestedKey.data] at h
    cases h; cases r; exact .none
  | .num i, _, _, h, r => by
    rw [NestedKey.data] at h
    cases h
    obtain ⟨t, rfl⟩ := r
    exact .int i t
  | .text x, _, _, h, r => by
    rw [NestedKey.data] at h
    cases h
    obtain ⟨t, rfl⟩ := r
    exact .text x t
  | .tup ks, _, _, h, r => by
    rw [NestedKey.data] at h
    cases h with
    | tup h1 h2 =>
      cases r
      obtain ⟨its, rv, ⟨o, ho, hc, n, hd⟩, _⟩ := I.tuple h1
      exact .tup ho hc hd (nested_all I ks _ its h2 rv)
theorem nested_all (I : Inv X pins σ H s) : ∀ (ks : List NestedKey) (vs : List V) (us : List Value), DqAll X.K G H vs (NestedKey.datas ks) → Vals vs us → NestedAll s.heap ks us
  | [], _, _, h, r => by
    rw [NestedKey.datas] at h
    cases h; cases r; exact .nil
  | k :: ks, _, _, h, r => by
    rw [NestedKey.datas] at h
    cases h with
    | cons h1 h2 =>
      cases r with
      | cons r1 r2 => exact .cons (nested_of I k _ _ h1 r1) (nested_all I ks _ _ h2 r2)
end
end
/-- what is said of one key -/
def KeyV (K : PySem.W.Frag) (G : Addr → Prop) (H : Hp) (z : KA) : Prop := Dq K G H (.ref z.1) z.2.data ∧ z.2.depth ≤ 8
theorem KeyV.isK {X : Cx} {pins : List (Addr × Obj)} {σ : St} {H : Hp} {s : Shared} {G : Addr → Prop} {z : KA} (I : Inv X pins σ H s) (h : KeyV X.K G H z) : IsK s.heap z.2 z.1 := ⟨nested_of I z.2 _ _ h.1 rfl, h.2⟩
theorem ref_vals : ∀ {M : List KA} {us : List Value}, Vals (M.map fun z => V.ref z.1) us → us = M.map fun z => Value.ref z.1
  | [], _, .nil => rfl
  | z :: M, _, .cons r t => by
    cases r
    rw [ref_vals t]; rfl
def rSetN (K : PySem.W.Frag) (w : World) (G : Addr → Prop) : List V → Hp → VK → Prop := fun xs H Q => ∃ (l : Addr) (M : List KA), xs = [V.ref l] ∧ (SqL K H l (M.map fun z => V.ref z.1) ∨ SqT K H l (M.map fun z => V.ref z.1)) ∧ (∀ z ∈ M, KeyV K G H z) ∧ M.length ≤ 1200 ∧
  ∀ a L, H a = none → (∀ z ∈ L, z ∈ M) → (∀ z ∈ M, z.2 ∈ L.map (·.2)) → L.length ≤ M.length → Q (.ref a) (upd H a (SetNO w a L))
theorem cr_setN {X : Cx} {G : Addr → Prop} (hc : X.calm = true) (hu : X.A.units + 64 < cLine) : CallR X (.type "set") (rSetN X.K X.w G) := by
  intro pins s σ H xs us Q I r h
  obtain ⟨l, M, rfl, hl, hk, hf, q⟩ := h
  rw [Vals.ref1 r]
  have new : H s.heap.objs.size = none := I.hok.fresh (Nat.le_refl _)
  have key : ∃ its : List Value, (s.heap.IsList l its.toArray ∨ s.heap.IsTuple l its.toArray) ∧ its = M.map fun z => Value.ref z.1 := by
    rcases hl with hl | hl
    · obtain ⟨its, rv, pl, _⟩ := I.list hl
      exact ⟨its, .inl pl.isList, ref_vals rv⟩
    · obtain ⟨its, rv, pl, _⟩ := I.tuple hl
      exact ⟨its, .inr pl, ref_vals rv⟩
  obtain ⟨its, isl, e⟩ := key
  refine set_of_keys (P := X.prog) (w := X.w) M (I.ok.hd hc) isl (by simpa using e) (fun z m => (hk z m).isK I) hf hu fun g tk L es ep t T hd k => ?_
  refine ⟨.ref s.heap.objs.size, upd H s.heap.objs.size (SetNO X.w s.heap.objs.size L), I.laid (t' := tk) k (Nat.le_refl _) (setNO_made T.bare), rfl, q _ L new (fun z m => List.mem_of_mem_take (hd.from' z m)) (fun z m => hd.every z (by rw [List.take_length]; exact m)) hd.few⟩
section
variable {P : Program} {w : World} {A : Around} {E : Value → Shared → Prop} {s : Shared}
theorem keyed_rows {L : List KA} : ∀ {vs : List Value}, (∀ v ∈ vs, ∃ q ∈ L, v = Value.ref q.1) → ∃ M : List KA, vs = M.map (fun q => Value.ref q.1) ∧ ∀ q ∈ M, q ∈ L
  | [], _ => ⟨[], rfl, fun _ m => by cases m⟩
  | v :: vs, h => by
    obtain ⟨q, mq, e⟩ := h v List.mem_cons_self
    obtain ⟨M, e1, m1⟩ := keyed_rows (vs := vs) fun u mu => h u (List.mem_cons_of_mem _ mu)
    exact ⟨q :: M, by rw [List.map_cons, e, e1], fun r mr => (List.mem_cons.mp mr).elim (fun z => z ▸ mq) (m1 r)⟩
/-- sorted(a set of keys that can be told apart by <) -/
theorem sorted_setN {a : Addr} {L : List KA} {es : Array (Int × Value)} {ep : Nat} {t : SetTable} {R' : Value → D → Prop} {Q : Value → Shared → Prop} (R : SetN w s.heap a L es ep t) (hh : A.handled = none)
    (hr : ∀ q ∈ L, R' (.ref q.1) q.2.data ∧ ∃ as, Reads s.heap (.ref q.1) q.2.data as) (tups : TupsD (L.map fun q => q.2.data)) (hal : AllAlike (L.map fun q => q.2.data)) (hdp : ∀ q ∈ L, q.2.data.depth ≤ 16) (hu : A.units + 64 < cLine) (few : L.length ≤ 1200)
    (hQ : ∀ s' p (out : List Value) (c : Nat) (M : List KA), (∀ b o, s.heap.get? b = some o → s'.heap.get? b = some o) → s'.gens = s.gens → s'.os = s.os → s.heap.objs.size ≤ p →
      s'.heap.get? p = some (seqObj "list" out.toArray c) → M.Perm L → out.length = M.length → EachIs R' out ((M.map fun q => q.2.data).mergeSort (dataLe false id)) → Q (.ref p) s') :
    wpAny (model P w) A (call (.builtin "sorted") [.ref a]) Q E s := by
  obtain ⟨o, ho, hex, hd⟩ := R.ob
  have hsz := R.count
  refine Calls.call_function_entry kind_sorted plain_sorted entry_sorted (args_sorted1 _) ?_
  unfold Builtin.«sorted»
  refine wpAny_bind (m := checkCount "sorted" 1 1 _) (wpAny_pure ?_)
  refine wpAny_bind (collect_set (A := A.in1) hh ⟨o, ho, hex.1, hd⟩ R.fit (by unfold scanBound; omega) R.tab.up R.led fun s1 vs k1 hz g1 o1 pm => ?_)
  have hes : es.toList.map (·.2) = L.map fun q => Value.ref q.1 := by
    rw [R.rows]
    unfold rowsN
    rw [List.map_map]
    all_goals rfl
  rw [hes] at pm
  obtain ⟨M, ev, hs⟩ := keyed_rows (L := L) (vs := vs) fun v hv => by
    obtain ⟨q, mq, e⟩ := List.mem_map.mp (pm.mem_iff.mp hv)
    exact ⟨q, mq, e.symm⟩
  have one : ∀ q ∈ L, ∀ r ∈ L, q.1 = r.1 → q = r := fun q mq r mr e => by
    have a1 := (R.key q mq).1
    have a2 := (R.key r mr).1
    rw [e] at a1
    exact Prod.ext e (NestedIs.inj _ _ _ a1 a2)
  have p1 : M.Perm L := by
    have nL : L.Nodup := nodup_of R.nd
    have nref : (L.map fun q => Value.ref q.1).Nodup := List.pairwise_map.mpr (List.Pairwise.imp_of_mem (fun {q r} mq mr ne e => ne (one q mq r mr (by injection e))) nL)
    rw [ev] at pm
    have n1 : M.Nodup := nodup_of (pm.nodup_iff.mpr nref)
    refine (List.perm_ext_iff_of_nodup n1 nL).mpr fun q => ⟨hs q, fun mq => ?_⟩
    obtain ⟨r, mr, e⟩ := List.mem_map.mp (pm.mem_iff.mpr (List.mem_map.mpr ⟨q, mq, rfl⟩))
    injection e with e
    rw [← one r (hs r mr) q mq e]
    exact mr
  subst ev
  have big : (M.map fun q => Value.ref q.1).length ≤ sizeLine := by rw [List.length_map, p1.length_eq, sizeLine_eq]; omega
  refine wpAny_bind (wpAny_newList ?_ (by rw [List.length_map, p1.length_eq, sizeLine_eq]; omega))
  generalize eh : s1.heap.push (seqObj "list" (M.map fun q => Value.ref q.1).toArray 0) = h2
  have ha : h2.get? s1.heap.objs.size = some (seqObj "list" (M.map fun q => Value.ref q.1).toArray 0) := eh ▸ Heap.get?_push_size _ rfl
  have k2 : ∀ b o, s.heap.get? b = some o → h2.get? b = some o := fun b o q => eh ▸ Heap.get?_push_of_some _ (k1 b o q)
  have each : ∀ N : List KA, (∀ q ∈ N, q ∈ L) → EachIs R' (N.map fun q => Value.ref q.1) (N.map fun q => q.2.data) ∧ EachIs (fun v d => ∃ as, Reads s.heap v d as) (N.map fun q => Value.ref q.1) (N.map fun q => q.2.data) := fun N => by
    induction N with
    | nil => intro _; exact ⟨.nil, .nil⟩
    | cons q N ih =>
      intro h
      obtain ⟨i1, i2⟩ := ih fun r m => h r (List.mem_cons_of_mem _ m)
      obtain ⟨h1, h2⟩ := hr q (h q List.mem_cons_self)
      exact ⟨.cons h1 i1, .cons h2 i2⟩
  obtain ⟨e, er⟩ := each M hs
  have sub : ∀ d ∈ M.map (fun q => q.2.data), d ∈ L.map (fun q => q.2.data) := fun d m => by
    obtain ⟨q, mq, rfl⟩ := List.mem_map.mp m
    exact List.mem_map.mpr ⟨q, hs q mq, rfl⟩
  have hal2 : AllAlike (M.map fun q => q.2.data) := fun d m d' m' => hal d (sub d m) d' (sub d' m')
  have hk2 : TupsD (M.map fun q => q.2.data) := fun d m => tups d (sub d m)
  have hdp2 : ∀ d ∈ M.map (fun q => q.2.data), A.in1.in1.units + d.depth < cLine := fun d m => by
    obtain ⟨q, mq, rfl⟩ := List.mem_map.mp m
    have := hdp q (hs q mq)
    have : A.in1.in1.units = A.units + 2 := rfl
    omega
  have er2 : EachIs (fun v d => ∃ as, Reads (PySem.W.sortingHeap h2 s1.heap.objs.size (M.map fun q => Value.ref q.1)) v d as) (M.map fun q => Value.ref q.1) (M.map fun q => q.2.data) := by
    refine er.mono fun v d ⟨as, r⟩ => ⟨as, PyProof.Rows.Reads.keeps (fun b ob q => ?_) r⟩
    exact PySem.W.sortingHeap_old (Nat.ne_of_lt (Heap.lt_size (k1 b ob q))) (k2 b ob q)
  have S := SortsAt_dataT (prog := P) (w := w) (A := A.in1.in1) (s := { s1 with heap := PySem.W.sortingHeap h2 s1.heap.objs.size (M.map fun q => Value.ref q.1) }) er2 hal2 hk2 hdp2
  have fin := PySem.W.sortVals_data (enc := id) false e er2 (by rw [List.map_id]; exact hal2)
  rw [List.map_id] at fin
  refine wpAny_bind (wpAny_holding (wpAny_call_entry slot_list_sort ⟨_, ha, rfl⟩ entry_list_sort (PySem.W.list_sort_vals (s := { s1 with heap := h2 }) ha S big ⟨.none, rfl, wpAny_pure ?_⟩) (args_list_sort _)))
  obtain ⟨c, hat⟩ := sortedHeap_at (vs := M.map fun q => Value.ref q.1) (out := (PySem.W.sortVals (PySem.W.dataKind (PySem.W.sortingHeap h2 s1.heap.objs.size (M.map fun q => Value.ref q.1)) (M.map fun q => q.2.data)) false (M.map fun q => Value.ref q.1) (M.map fun q => Value.ref q.1)).toArray) ha
  refine ⟨_, rfl, hQ _ s1.heap.objs.size _ c M (fun b u q => ?_) g1 o1 hz hat p1 (by rw [PySem.W.sortVals_length false rfl, List.length_map]) fin⟩
  have l1 := Heap.lt_size (k1 b u q)
  show (sortedHeap _ s1.heap.objs.size _ _).get? b = some u
  rw [sortedHeap_old (Nat.ne_of_lt l1) (Heap.lt_size (k2 b u q))]
  exact k2 b u q
end
def rSortedN (K : PySem.W.Frag) (w : World) (G : Addr → Prop) : List V → Hp → VK → Prop := fun vs H Q => ∃ (a : Addr) (L : List KA), vs = [V.ref a] ∧ H a = some (SetNO w a L) ∧ (∀ z ∈ L, KeyV K G H z) ∧ TupsD (L.map fun q => q.2.data) ∧ AllAlike (L.map fun q => q.2.data) ∧ L.length ≤ 1200 ∧ (∀ q ∈ L, q.2.data.depth ≤ 16) ∧
  ∀ (M : List KA) (p : Addr) (ys : List V), M.Perm L → (M.map (·.2)).Nodup → H p = none → DqAll K G H ys (sortD (M.map fun q => q.2.data)) → Q (.ref p) (upd H p (.lst ys))
theorem cr_sortedN {X : Cx} {G : Addr → Prop} (hc : X.calm = true) (hu : X.A.units + 64 < cLine) : CallR X (.builtin "sorted") (rSortedN X.K X.w G) := by
  intro pins s σ H vs us Q I r h
  obtain ⟨a, L, rfl, ha, hk, ht, hal, hf, hdp, q⟩ := h
  have R0 : SetBare X.w s.heap a L := (I.hok a _ ha).1
  obtain ⟨es, ep, t, R⟩ := R0.whole fun z m => (hk z m).isK I
  rw [Vals.ref1 r]
  refine sorted_setN (P := X.prog) (R' := fun u d => ∃ x, RelV x u ∧ Dq X.K G H x d) R (I.ok.hd hc) (fun z m => ⟨⟨.ref z.1, rfl, (hk z m).1⟩, Dq.reads I _ _ _ (hk z m).1 rfl⟩) ht hal hdp (by omega) hf fun s' p out c M k g o hp hat pm hl ee => ?_
  obtain ⟨ys, rv, dy⟩ := dq_each ee
  have hn : H p = none := I.hok.fresh hp
  have J : Inv X pins σ (upd H p (.lst ys)) { s with heap := s'.heap, gens := s'.gens, drawn := s'.drawn, toks := s'.toks } :=
    I.call (ch := []) (Un.laid k hp hn) (I.hok.laid k hp ⟨by rw [rv.length, hl, pm.length_eq, sizeLine_eq]; omega, out, c, rv, hat⟩) (by rw [g]; exact I.bare) (fun _ z => nomatch z)
  have e : s' = { s with heap := s'.heap, gens := s'.gens, drawn := s'.drawn, toks := s'.toks } := by
    cases s'
    cases s
    cases o
    rfl
  rw [e]
  exact ⟨.ref p, _, J, rfl, q M p ys pm ((pm.map (·.2)).nodup_iff.mpr R.nd) hn dy⟩
/-! the reading -/
theorem keys_at {K : PySem.W.Frag} {F : Addr → Prop} {H : Hp} : ∀ {kk : List NestedKey} {vs : List V}, DqAll K F H vs (kk.map NestedKey.data) → (∀ k ∈ kk, (∃ r, k = .tup r) ∧ k.depth ≤ 8) → ∃ M : List KA, vs = M.map (fun q => V.ref q.1) ∧ (∀ z ∈ M, KeyV K F H z) ∧ M.map (·.2) = kk
  | [], _, h, _ => by
    cases h
    exact ⟨[], rfl, fun _ m => (by cases m), rfl⟩
  | k :: kk, _, h, hk => by
    cases h with
    | cons h1 h2 =>
      obtain ⟨M, e1, e2, e3⟩ := keys_at h2 fun x m => hk x (List.mem_cons_of_mem _ m)
      obtain ⟨⟨r, rfl⟩, hdp⟩ := hk k List.mem_cons_self
      have h1' := h1
      rw [NestedKey.data] at h1'
      cases h1' with
      | @tup a ws _ t1 t2 =>
        refine ⟨(a, .tup r) :: M, by rw [e1]; rfl, fun z m => ?_, by rw [List.map_cons, e3]⟩
        rcases List.mem_cons.mp m with rfl | m
        · exact ⟨h1, hdp⟩
        · exact e2 z m
mutual
theorem depth_data : ∀ k : NestedKey, k.data.depth = k.depth
  | .none => by simp [NestedKey.data, PyData.depth, NestedKey.depth]
  | .num _ => by simp [NestedKey.data, PyData.depth, NestedKey.depth]
  | .text _ => by simp [NestedKey.data, PyData.depth, NestedKey.depth]
  | .tup ks => by rw [NestedKey.data, PyData.depth, NestedKey.depth, depth_datas ks]
theorem depth_datas : ∀ ks : List NestedKey, PyData.depthAll (NestedKey.datas ks) = NestedKey.depthAll ks
  | [] => by simp [NestedKey.datas, PyData.depthAll, NestedKey.depthAll]
  | k :: ks => by rw [NestedKey.datas, PyData.depthAll, NestedKey.depthAll, depth_data k, depth_datas ks]
end
section
variable {C : Zn} {X : Cx} {e : Expr} {te : DT} {pos p p1 pos1 : Pos}
def dSortSetN (te : DT) : DT := fun δ Q => te δ fun r => match r.sup.bind itemsOf with
  | some ds => ∃ kk : List NestedKey, (ds = kk.map NestedKey.data ∧ (∀ k ∈ kk, (∃ r, k = .tup r) ∧ k.depth ≤ 8) ∧ AllAlike ds ∧ kk.length ≤ 1200) ∧ ∀ ms : List NestedKey, ms.Nodup → (∀ k, k ∈ ms ↔ k ∈ kk) → Q (.val (.own ((sortD (ms.map NestedKey.data)).map DV.sh)))
  | none => False
theorem d_sortSetN (hu : X.A.units + 64 < cLine) (hc : X.calm = true) (he : PD C X e te) (hm : X.mg "sorted" = none) (hm2 : X.mg "set" = none) (hg : Gl X "sorted" := by rfl) (hg2 : Gl X "set" := by rfl)
    (h1 : starEach [e] X.env = (false, eval e X.env) :: starEach [] X.env := by rfl) (hp1 : (backTo pos1 (starEach [] X.env)).any (·.1) = false := by rfl)
    (h2 : starEach [.Call (.Name "set" p1) [e] [] pos1] X.env = (false, eval (.Call (.Name "set" p1) [e] [] pos1) X.env) :: starEach [] X.env := by rfl) (hp2 : (backTo pos (starEach [] X.env)).any (·.1) = false := by rfl) :
    PD C X (.Call (.Name "sorted" p) [.Call (.Name "set" p1) [e] [] pos1] [] pos) (dSortSetN te) := by
  refine ⟨fun δ Q Q' m q => he.mono δ _ _ (fun r q => ?_) q, ?_⟩
  · split at q
    · obtain ⟨kk, q1, q⟩ := q
      exact ⟨kk, q1, fun ms z1 z2 => m _ (q ms z1 z2)⟩
    · exact q
  · refine (pe_callB (r := fun vs H Q => ∃ G, rSortedN X.K X.w G vs H Q) (fun pins s σ H xs us Q I r h => by
      obtain ⟨G, h⟩ := h
      exact cr_sortedN (G := G) hc hu pins s σ H xs us Q I r h) hg hm (by decide +kernel) (pa_cons (pe_callTy (r := fun vs H Q => ∃ G, rSetN X.K X.w G vs H Q) (fun pins s σ H xs us Q I r h => by
      obtain ⟨G, h⟩ := h
      exact cr_setN (G := G) hc hu pins s σ H xs us Q I r h) hg2 hm2 (by decide +kernel) (pa_cons he.run pa_nil h1) (by decide) (by decide) h1 hp1) pa_nil h2) (by decide) (by decide) h2 hp2).imp fun σ H Q q => ?_
    obtain ⟨δ, F, x, q⟩ := q
    refine ⟨δ, F, x, he.mono δ _ _ (fun r q F1 H1 v g rr => ?_) q⟩
    split at q
    · rename_i ds eb
      obtain ⟨d, es, ed⟩ := Option.bind_eq_some_iff.mp eb
      obtain ⟨kk, ⟨rfl, hk, hal, hlen⟩, q⟩ := q
      obtain ⟨F2, g2, _, sp⟩ := RR.sup x.bs g rr es
      have key : ∃ (a : Addr) (M : List KA), v = .ref a ∧ (SqL X.K H1 a (M.map fun z => V.ref z.1) ∨ SqT X.K H1 a (M.map fun z => V.ref z.1)) ∧ (∀ z ∈ M, KeyV X.K F2 H1 z) ∧ M.map (·.2) = kk := by
        cases d with
        | list ds' =>
          cases ed
          obtain ⟨a, vs, rfl, h3, h4⟩ := sp.lst
          obtain ⟨M, rfl, w2, w3⟩ := keys_at h4 hk
          exact ⟨a, M, rfl, .inl h3.sq, w2, w3⟩
        | tuple ds' =>
          cases ed
          obtain ⟨a, vs, rfl, h3, h4⟩ := sp.tup
          obtain ⟨M, rfl, w2, w3⟩ := keys_at h4 hk
          exact ⟨a, M, rfl, .inr h3, w2, w3⟩
        | _ => cases ed
      obtain ⟨a, M, rfl, h3, w2, w3⟩ := key
      have mlen : M.length = kk.length := by rw [← w3, List.length_map]
      have mdat : (M.map fun q => q.2.data) = kk.map NestedKey.data := by rw [← w3, List.map_map]; rfl
      refine ⟨F2, a, M, rfl, h3, w2, by omega, fun b L nb sub all fewer => ?_⟩
      have gl := Go.laid (o := SetNO X.w b L) g2.ok nb
      have isk : ∀ z ∈ L, z.2 ∈ kk := fun z m => w3 ▸ List.mem_map.mpr ⟨z, sub z m, rfl⟩
      have subd : ∀ d ∈ L.map (fun q => q.2.data), d ∈ kk.map NestedKey.data := fun d m => by
        obtain ⟨z, mz, rfl⟩ := List.mem_map.mp m
        exact List.mem_map.mpr ⟨z.2, isk z mz, rfl⟩
      refine ⟨F2, b, L, rfl, upd_same, fun z m => ⟨Dq.mono (gl.keep g2.ok) _ _ (w2 z (sub z m)).1, (w2 z (sub z m)).2⟩, fun d m => ?_, fun d m d' m' => hal d (subd d m) d' (subd d' m'), by omega, fun z m => ?_, fun M1 p' ys pm nd np dy => ?_⟩
      · obtain ⟨z, mz, rfl⟩ := List.mem_map.mp m
        obtain ⟨⟨r, e⟩, _⟩ := hk z.2 (isk z mz)
        exact ⟨_, by rw [e, NestedKey.data]⟩
      · rw [depth_data]
        have := (hk z.2 (isk z m)).2
        omega
      · obtain ⟨g3, r3⟩ := RR.newl (K := X.K) x.bs (g2.trans x.bs gl) dy np
        have em : (M1.map fun q => q.2.data) = (M1.map (·.2)).map NestedKey.data := by rw [List.map_map]; rfl
        rw [em] at r3
        refine q (M1.map (·.2)) nd (fun k => ?_) F2 _ _ g3 r3
        rw [List.mem_map]
        constructor
        · rintro ⟨z, m, rfl⟩
          exact isk z (pm.mem_iff.mp m)
        · intro m
          rw [← w3] at m
          obtain ⟨z, mz, rfl⟩ := List.mem_map.mp m
          obtain ⟨y, my, ey⟩ := List.mem_map.mp (all z mz)
          exact ⟨y, pm.mem_iff.mpr my, ey⟩
    · exact q.elim
@[simp] theorem dSortSetN_e {δ : DE} {Q : R → Prop} (te : DT) : dSortSetN te δ Q = te δ fun r => match r.sup.bind itemsOf with
  | some ds => ∃ kk : List NestedKey, (ds = kk.map NestedKey.data ∧ (∀ k ∈ kk, (∃ r, k = .tup r) ∧ k.depth ≤ 8) ∧ AllAlike ds ∧ kk.length ≤ 1200) ∧ ∀ ms : List NestedKey, ms.Nodup → (∀ k, k ∈ ms ↔ k ∈ kk) → Q (.val (.own ((sortD (ms.map NestedKey.data)).map DV.sh)))
  | none => False := rfl
end
end DL.ST
set_option Elab.async false
set_option linter.all false
set_option maxRecDepth 100000
set_option maxHeartbeats 2000000
namespace DL
open PySem PySem.Spec L2
open PyProof.Rows hiding St
section
variable {C : Zn} {X : Cx} {pos : Pos}
/-- {}, to be keyed by tuples -/
def tDit0 (P : Program) (w : World) : TE := fun _ H Q => ∀ p, H p = none → Q (.ref p) (upd H p (HOT P w p []))
theorem pe_dit0 : PE X (.Dict [] [] pos) (tDit0 X.prog X.w) := ⟨fun pins s σ H Q I h =>
  wpAny_Dict_empty ⟨.ref s.heap.objs.size, _, I.laid (a := s.heap.objs.size) (o := HOT X.prog X.w s.heap.objs.size []) (t' := s.toks) (fun _ _ q => Heap.get?_push_of_some _ q) (Nat.le_refl _)
    (keysAt_ok ⟨beq_eq_false_iff_ne.mpr (Nat.ne_of_gt I.big), [], rfl, { cls := .type "dict", data := .dict #[] }, #[], 0, Heap.get?_push_size _ rfl, ⟨rfl, rfl, rfl⟩, rfl, rfl⟩), rfl, h _ (I.hok.fresh (Nat.le_refl _))⟩⟩
def dDit0 : DT := fun _ Q => Q (.val (.dit []))
theorem d_dit0 (hZ : C.P = X.prog ∧ C.w = X.w) : PD C X (.Dict [] [] pos) dDit0 :=
  ⟨fun δ Q Q' m q => m _ q, pe_dit0.imp fun σ H Q q => by
    obtain ⟨δ, F, x, q⟩ := q
    intro p n
    obtain ⟨g, r⟩ := RR.newT (K := X.K) (C := C) x.bs (.refl x.bs) (ks := []) (fun _ m => by cases m) List.nodup_nil n
    rw [hZ.1, hZ.2] at g r
    exact q F _ _ g r⟩
@[simp] theorem dDit0_e {δ : DE} {Q : R → Prop} : dDit0 δ Q = Q (.val (.dit [])) := rfl
end
end DL
set_option Elab.async false
set_option linter.all false
set_option maxRecDepth 100000
set_option maxHeartbeats 1000000
namespace HL
open PySem PySem.Spec L2 DL
open PyProof.Rows hiding St
/-! ### closings: plain laws -/
theorem Rch.over {ps qs : List Pr} (h : ∀ p ∈ qs, Rch ps p.1 p.2) {a b : Nat} (r : Rch qs a b) : Rch ps a b := by
  induction r with
  | refl => exact .refl
  | step _ m ih => exact ih.trans (h _ m)
theorem clo_between {n : Nat} {ps qs : List Pr} (h1 : ∀ p ∈ ps, p ∈ qs) (h2 : ∀ p ∈ qs, Rch ps p.1 p.2) : clo n qs = clo n ps := by
  unfold clo
  refine prs_congr fun a b _ _ _ => ?_
  rw [Bool.eq_iff_iff, reach_iff, reach_iff]
  exact ⟨fun r => r.over h2, fun r => r.mono h1⟩
theorem clo_sub {n : Nat} {ps qs : List Pr} (h : ∀ p ∈ qs, p ∈ ps) {p : Pr} (m : p ∈ clo n qs) : p ∈ clo n ps := by
  obtain ⟨h1, h2, h3, h4⟩ := mem_prs.mp m
  exact mem_prs.mpr ⟨h1, h2, h3, reach_iff.mpr ((reach_iff.mp h4).mono h)⟩
theorem clo_has {n : Nat} {ps : List Pr} (G : Good n ps) {p : Pr} (m : p ∈ ps) : p ∈ clo n ps := by
  obtain ⟨h1, h2, h3⟩ := G.ok p m
  exact mem_prs.mpr ⟨h1, h2, h3, reach_iff.mpr (.step .refl m)⟩
theorem ren_at {n : Nat} {xs : List Nat} (r : Ren n xs) {i x : Nat} (e : xs[i]? = some x) : i < n := by
  have := (List.getElem?_eq_some_iff.mp e).1
  rwa [r.len] at this
theorem led_rowB {n : Nat} {ps : List Pr} {xs : List Nat} (r : Ren n xs) {i a b : Nat} (hi : xs[i]? = some a) (h : Rch (led n ps xs) a b) : ∃ j, xs[j]? = some b ∧ Rch ps i j := by
  induction h with
  | refl => exact ⟨i, hi, .refl⟩
  | @step b c _ m ih =>
    obtain ⟨j, hj, rj⟩ := ih
    obtain ⟨_, _, _, h4⟩ := mem_prs.mp m
    obtain ⟨p, hp, p1, p2⟩ := ledR_iff.mp h4
    have e : p.1 = j := r.inj p1 hj
    exact ⟨p.2, p2, .step rj (by rw [← e]; exact hp)⟩
theorem led_rowOn {n : Nat} {ps : List Pr} {xs : List Nat} (G : Good n ps) (r : Ren n xs) {i j a : Nat} (hi : xs[i]? = some a) (h : Rch ps i j) : ∃ b, xs[j]? = some b ∧ Rch (led n ps xs) a b := by
  induction h with
  | refl => exact ⟨a, hi, .refl⟩
  | @step j k _ m ih =>
    obtain ⟨b, hj, rj⟩ := ih
    obtain ⟨h1, h2, h3⟩ := G.ok _ m
    obtain ⟨c, hk⟩ := r.at h2
    refine ⟨c, hk, .step rj (mem_prs.mpr ⟨r.lt hj, r.lt hk, fun e => h3 ?_, ledR_iff.mpr ⟨_, m, hj, hk⟩⟩)⟩
    exact r.inj hj (by rw [show b = c from e]; exact hk)
theorem clo_led {n : Nat} {ps : List Pr} {xs : List Nat} (G : Good n ps) (r : Ren n xs) : clo n (led n ps xs) = led n (clo n ps) xs := by
  show prs n (reach (led n ps xs)) = prs n (ledR (clo n ps) xs)
  refine prs_congr fun a b ha hb ne => ?_
  rw [Bool.eq_iff_iff, reach_iff, ledR_iff]
  constructor
  · intro h
    obtain ⟨i, hi, ei⟩ := r.has ha
    obtain ⟨j, ej, rj⟩ := led_rowB r ei h
    refine ⟨(i, j), mem_prs.mpr ⟨hi, ren_at r ej, fun e => ne ?_, reach_iff.mpr rj⟩, ei, ej⟩
    have e : i = j := e
    rw [e, ej] at ei
    exact (Option.some.inj ei).symm
  · rintro ⟨p, hp, p1, p2⟩
    obtain ⟨_, _, _, h4⟩ := mem_prs.mp hp
    obtain ⟨c, hc, rc⟩ := led_rowOn G r p1 (reach_iff.mp h4)
    rw [p2] at hc
    cases hc
    exact rc
theorem mem_mirG {n : Nat} {ps : List Pr} (G : Good n ps) {a b : Nat} : (a, b) ∈ prs n (mirR ps) ↔ (b, a) ∈ ps := by
  rw [mem_prs]
  unfold mirR
  rw [decide_eq_true_eq]
  exact ⟨fun h => h.2.2.2, fun m => ⟨(G.ok _ m).2.1, (G.ok _ m).1, fun e => (G.ok _ m).2.2 e.symm, m⟩⟩
theorem rch_mir {n : Nat} {ps : List Pr} (G : Good n ps) {a b : Nat} : Rch (prs n (mirR ps)) a b ↔ Rch ps b a := by
  constructor
  · intro h
    induction h with
    | refl => exact .refl
    | step _ m ih => exact (Rch.step .refl ((mem_mirG G).mp m)).trans ih
  · intro h
    induction h with
    | refl => exact .refl
    | step _ m ih => exact (Rch.step .refl ((mem_mirG G).mpr m)).trans ih
theorem clo_mir {n : Nat} {ps : List Pr} (G : Good n ps) : clo n (prs n (mirR ps)) = prs n (mirR (clo n ps)) := by
  show prs n (reach (prs n (mirR ps))) = _
  refine prs_congr fun a b ha hb ne => ?_
  have G2 : Good n (clo n ps) := (hill_clo (ps := ps) G.lo G.hi).good
  rw [Bool.eq_iff_iff, reach_iff, rch_mir G]
  unfold mirR
  rw [decide_eq_true_eq]
  unfold clo
  rw [mem_prs]
  exact ⟨fun h => ⟨hb, ha, Ne.symm ne, reach_iff.mpr h⟩, fun h => reach_iff.mp h.2.2.2⟩
/-! ### how long a book is when it is shown -/
theorem digit_shown : ∀ a, a < 10 → (PyData.int (a : Nat)).shown.length = 1 := by
  intro a h
  have : a = 0 ∨ a = 1 ∨ a = 2 ∨ a = 3 ∨ a = 4 ∨ a = 5 ∨ a = 6 ∨ a = 7 ∨ a = 8 ∨ a = 9 := by omega
  rcases this with rfl | rfl | rfl | rfl | rfl | rfl | rfl | rfl | rfl | rfl <;> rfl
def tupLen (c k : Nat) : Nat := if k = 0 then 2 else if k = 1 then c + 3 else k * (c + 2)
theorem piled_same {c : Nat} : ∀ {ts : List Str}, (∀ t ∈ ts, t.length = c) → piled ts = ts.length * (c + 2)
  | [], _ => by simp [piled]
  | t :: ts, h => by
    rw [piled_cons, piled_same fun x m => h x (List.mem_cons_of_mem _ m), h t List.mem_cons_self, List.length_cons, Nat.succ_mul]
    omega
theorem tup_len {c : Nat} {ts : List Str} (h : ∀ t ∈ ts, t.length = c) : (tupleText ts).length = tupLen c ts.length := by
  unfold tupleText tupLen
  rw [Str.length_append, Str.length_append]
  have e1 : ((("(" : String) : Str)).length = 1 := rfl
  have e2 : (((",)" : String) : Str)).length = 2 := rfl
  have e3 : (((")" : String) : Str)).length = 1 := rfl
  rw [e1]
  match ts, h with
  | [], _ => rfl
  | [x], h =>
    have := h x List.mem_cons_self
    show 1 + x.length + _ = _
    simp only [List.length_singleton]
    simp [e2]
    omega
  | x :: y :: r, h =>
    have j := join_length_add (x :: y :: r) (by simp)
    rw [piled_same h] at j
    have n1 : ¬ ((x :: y :: r).length == 1) = true := by simp
    rw [if_neg n1, e3, if_neg (by simp), if_neg (by simp)]
    omega
theorem shownAll_map (xs : List D) : PyData.shownAll xs = xs.map PyData.shown := by
  induction xs with
  | nil => rfl
  | cons x xs ih => rw [PyData.shownAll, List.map_cons, ih]
theorem pair_shown {p : Pr} (h : p.1 < 10 ∧ p.2 < 10) : (prD p).shown.length = 6 := by
  show (tupleText [_, _]).length = 6
  rw [tup_len (c := 1) fun t m => by
    rcases List.mem_cons.mp m with rfl | m
    · exact digit_shown _ h.1
    · rw [List.mem_singleton.mp m]; exact digit_shown _ h.2]
  rfl
theorem pairs_shown {ps : List Pr} (h : ∀ p ∈ ps, p.1 < 10 ∧ p.2 < 10) : (PyData.tuple (ps.map prD)).shown.length = tupLen 6 ps.length := by
  show (tupleText (PyData.shownAll (ps.map prD))).length = _
  rw [shownAll_map, tup_len (c := 6), List.length_map, List.length_map]
  intro t m
  obtain ⟨d, hd, rfl⟩ := List.mem_map.mp m
  obtain ⟨p, hp, rfl⟩ := List.mem_map.mp hd
  exact pair_shown (h p hp)
theorem book_shown {n : Nat} {ps : List Pr} (h : ∀ p ∈ ps, p.1 < 10 ∧ p.2 < 10) : (bookD n ps).shown.length = (PyData.int (n : Nat)).shown.length + tupLen 6 ps.length + 4 := by
  have := pairs_shown h
  show (tupleText [(PyData.int (n : Nat)).shown, (PyData.tuple (ps.map prD)).shown]).length = _
  unfold tupleText
  rw [Str.length_append, Str.length_append]
  have j := join_length_add [(PyData.int (n : Nat)).shown, (PyData.tuple (ps.map prD)).shown] (by simp)
  rw [piled_cons, piled_cons, this] at j
  have e1 : ((("(" : String) : Str)).length = 1 := rfl
  have e3 : (((")" : String) : Str)).length = 1 := rfl
  have e4 : piled [] = 0 := rfl
  rw [e4] at j
  have n1 : ¬ ([(PyData.int (n : Nat)).shown, (PyData.tuple (ps.map prD)).shown].length == 1) = true := by simp
  rw [if_neg n1, e1, e3]
  omega
theorem tupLen_inj {c j k : Nat} (hc : 2 ≤ c) (lt : j < k) : tupLen c j < tupLen c k := by
  have m1 : 2 ≤ k → 2 * (c + 2) ≤ k * (c + 2) := fun h => Nat.mul_le_mul_right _ h
  have m2 : (j + 1) * (c + 2) ≤ k * (c + 2) := Nat.mul_le_mul_right _ lt
  rw [Nat.succ_mul] at m2
  unfold tupLen
  generalize k * (c + 2) = x at m1 m2 ⊢
  generalize j * (c + 2) = y at m2 ⊢
  split <;> split <;> (try split) <;> (try split) <;> omega
theorem shown_tells {n : Nat} {ps : List Pr} (G : Good n ps) : (bookD n (clo n ps)).shown = (bookD n ps).shown ↔ clo n ps = ps := by
  constructor
  · intro e
    refine Classical.byContradiction fun ne => ?_
    have hi := G.hi
    have G2 : Good n (clo n ps) := (hill_clo (ps := ps) G.lo G.hi).good
    have small : ∀ {qs : List Pr}, Good n qs → ∀ p ∈ qs, p.1 < 10 ∧ p.2 < 10 := fun g p m => by
      have := g.ok p m
      omega
    obtain ⟨p, m, out⟩ : ∃ p, p ∈ clo n ps ∧ p ∉ ps := Classical.byContradiction fun no => ne (prs_ext G.st fun p => ⟨clo_has G, fun m => Classical.byContradiction fun q => no ⟨p, m, q⟩⟩).symm
    have more : (p :: ps).length ≤ (clo n ps).length := nodup_le _ _ (List.nodup_cons.mpr ⟨out, strict_nodup plt_irrefl G.st⟩) fun q mq => by
      rcases List.mem_cons.mp mq with rfl | mq
      · exact m
      · exact clo_has G mq
    rw [List.length_cons] at more
    have l1 := book_shown (n := n) (small G)
    have l2 := book_shown (n := n) (small G2)
    rw [e] at l2
    have := tupLen_inj (c := 6) (by omega) (show ps.length < (clo n ps).length by omega)
    omega
  · intro e
    rw [e]
/-! ### ponds by rows of pairs -/
theorem pond_rows {n : Nat} {ps : List Pr} {x : Nat} (hx : x < n) : ((List.range n).filter fun y => decide (y = x) || (rch1 ps x y && rch1 ps y x)) = pondL n (clo n ps) x := by
  unfold pondL
  refine List.filter_congr fun y my => ?_
  have hy := List.mem_range.mp my
  by_cases e : y = x
  · subst e
    simp [le]
  · have e' : x ≠ y := fun z => e z.symm
    have l1 : le (clo n ps) y x = reach ps y x := by
      rw [Bool.eq_iff_iff, le_iff]
      unfold clo
      rw [mem_prs]
      exact ⟨fun h => h.elim (fun z => absurd z e) fun h => h.2.2.2, fun h => .inr ⟨hy, hx, e, h⟩⟩
    have l2 : le (clo n ps) x y = reach ps x y := by
      rw [Bool.eq_iff_iff, le_iff]
      unfold clo
      rw [mem_prs]
      exact ⟨fun h => h.elim (fun z => absurd z e') fun h => h.2.2.2, fun h => .inr ⟨hx, hy, e', h⟩⟩
    rw [l1, l2, rch1_reach e, rch1_reach e', decide_eq_false e, Bool.false_or, Bool.and_comm]
/-! ### a book of any pairs -/
noncomputable def bookR (ps : List Pr) (a b : Nat) : Bool := decide ((a, b) ∈ ps)
theorem mem_bookR {n : Nat} {ps : List Pr} (h : ∀ p ∈ ps, p.1 < n ∧ p.2 < n ∧ p.1 ≠ p.2) (p : Pr) : p ∈ prs n (bookR ps) ↔ p ∈ ps := by
  rw [mem_prs]
  unfold bookR
  rw [decide_eq_true_eq]
  exact ⟨fun q => q.2.2.2, fun m => ⟨(h p m).1, (h p m).2.1, (h p m).2.2, m⟩⟩
def pairN (p : Pr) : NestedKey := .tup [.num p.1, .num p.2]
theorem pairN_inj {p q : Pr} (h : pairN p = pairN q) : p = q := by
  unfold pairN at h
  injection h with h
  injection h with h1 h2
  injection h2 with h2 _
  injection h1 with h1
  injection h2 with h2
  exact Prod.ext (by omega) (by omega)
theorem of_nest {ps : List Pr} : ∀ {ms : List NestedKey}, (∀ k ∈ ms, k ∈ ps.map pairN) → ∃ qs : List Pr, ms = qs.map pairN ∧ ∀ p ∈ qs, p ∈ ps
  | [], _ => ⟨[], rfl, fun _ m => by cases m⟩
  | k :: ms, h => by
    obtain ⟨p, mp, e⟩ := List.mem_map.mp (h k List.mem_cons_self)
    obtain ⟨qs, e2, m2⟩ := of_nest fun x m => h x (List.mem_cons_of_mem _ m)
    exact ⟨p :: qs, by rw [e2, ← e]; rfl, fun x m => (List.mem_cons.mp m).elim (fun z => z ▸ mp) (m2 x)⟩
theorem sort_nest {n : Nat} {ps : List Pr} (h : ∀ p ∈ ps, p.1 < n ∧ p.2 < n ∧ p.1 ≠ p.2) {ms : List NestedKey} (nd : ms.Nodup) (hm : ∀ k, k ∈ ms ↔ k ∈ ps.map pairN) : sortD (ms.map NestedKey.data) = (prs n (bookR ps)).map prD := by
  obtain ⟨qs, e, sub⟩ := of_nest fun k m => (hm k).mp m
  subst e
  rw [List.map_map, show (NestedKey.data ∘ pairN) = prD from rfl]
  refine sort_mem (nodup_of nd) fun p => ?_
  rw [mem_bookR h]
  refine ⟨sub p, fun m => ?_⟩
  obtain ⟨q, mq, e⟩ := List.mem_map.mp ((hm (pairN p)).mpr (List.mem_map.mpr ⟨p, m, rfl⟩))
  exact pairN_inj e ▸ mq
theorem nest_ok (ps : List Pr) : (∀ k ∈ ps.map pairN, (∃ r, k = NestedKey.tup r) ∧ k.depth ≤ 8) := fun k m => by
  obtain ⟨p, _, rfl⟩ := List.mem_map.mp m
  exact ⟨⟨_, rfl⟩, by simp [pairN, NestedKey.depth, NestedKey.depthAll]⟩
theorem nest_data (ps : List Pr) : ps.map prD = (ps.map pairN).map NestedKey.data := by
  rw [List.map_map]; rfl
end HL
set_option Elab.async false
set_option linter.all false
set_option maxRecDepth 100000
set_option maxHeartbeats 1000000
namespace HL
open PySem PySem.Spec L2 DL
open PyProof.Rows hiding St
/-! ### k01: drawn books -/
def g_is_book : Sg := pr (fun x : Nat × List Pr => [.sh (bookD x.1 x.2)]) (fun x => Good x.1 x.2) (fun _ dv => dv = .sh (.bool true))
def n_is_book : List Str := ["thing"]
def t_is_book : DS := dRet (dCall g_is_book_value (dCons (dVar 0) (dNil)))
theorem p_is_book (ds : List DV) (Q : DV → Prop) (h : g_is_book ds Q) : t_is_book { nx := fun _ => Q (.sh .none), rt := Q } (startD n_is_book ds) := by
  obtain ⟨⟨n, ps⟩, rfl, G, q⟩ := h
  simp [t_is_book, startD, n_is_book]
  refine pr_call (n, ps) rfl G ?_
  rintro dv rfl
  exact q _ rfl
def g__law_book : Sg := pr (fun n : Nat => [.tok 0, .sh (.int n)]) (fun n => 1 ≤ n ∧ n ≤ 10) (fun n dv => ∃ ps, Good n ps ∧ dv = .sh (bookD n ps))
def n__law_book : List Str := ["deck", "n", "pairs", "many", "turn", "order", "at", "pair"]
def t__law_book : DS := dSeq2 (dPar 2 3 (dCons (dLst (dNil)) (dCons (dCall g__law_pick (dCons (dVar 0) (dCons (dTup (dCons (dC (.int 0)) (dCons (dC (.int 1)) (dCons (dOp fSub (dVar 1) (dC (.int 1))) (dCons (dVar 1) (dCons (dOpR fMul (dC (.int 2)) (dVar 1)) (dCons (dOpR fMul (dC (.int 4)) (dVar 1)) (dNil)))))))) (dNil)))) (dNil)))) (dSeq2 (dFor (dRange1 (dVar 3)) (gN 4) (dAppend 2 (dTup (dCons (dCall g__law_draw (dCons (dVar 0) (dCons (dVar 1) (dNil)))) (dCons (dCall g__law_draw (dCons (dVar 0) (dCons (dVar 1) (dNil)))) (dNil)))))) (dSeq2 (dIfS (dTest (dOp (fRel sDep rEqv) (dCall g__law_draw (dCons (dVar 0) (dCons (dC (.int 3)) (dNil)))) (dC (.int 0)))) (dSeq2 (dSet 5 (dCall g__law_order (dCons (dVar 0) (dCons (dVar 1) (dNil))))) (dExtend 2 (dLc (dRange1 (dOp fSub (dVar 1) (dC (.int 1)))) (gN 6) (dTest (dOp (fRel sLt fun d e => rLtD e d) (dCall g__law_draw (dCons (dVar 0) (dCons (dC (.int 4)) (dNil)))) (dC (.int 0)))) (dTup (dCons (dOpR fIx (dVar 5) (dVar 6)) (dCons (dOpR fIx (dVar 5) (dOpR fAdd (dVar 6) (dC (.int 1)))) (dNil)))) [6]))) (dNext)) (dRet (dTup (dCons (dVar 1) (dCons (dCB (on1 fTuple) (dCons (ST.dSortSetN (dLc (dSeqQ (dVar 2)) (gN 7) (dTest (dOp (fRel sDep fun d e => !rEqv d e) (dOpR fIx (dVar 7) (dC (.int 0))) (dOpR fIx (dVar 7) (dC (.int 1))))) (dVar 7) [7])) (dNil))) (dNil)))))))
def rest_book : DS := dRet (dTup (dCons (dVar 1) (dCons (dCB (on1 fTuple) (dCons (ST.dSortSetN (dLc (dSeqQ (dVar 2)) (gN 7) (dTest (dOp (fRel sDep fun d e => !rEqv d e) (dOpR fIx (dVar 7) (dC (.int 0))) (dOpR fIx (dVar 7) (dC (.int 1))))) (dVar 7) [7])) (dNil))) (dNil))))
theorem p_rest_book {n : Nat} (h1 : 1 ≤ n) (h2 : n ≤ 10) {Q : DV → Prop} {N : DE → Prop} (q : ∀ ps, Good n ps → Q (.sh (bookD n ps))) (ps : List Pr) (hp : ∀ p ∈ ps, p.1 < n ∧ p.2 < n) (hl : ps.length ≤ 100) (x3 x4 x5 x6 : Option DV) :
    rest_book { nx := N, rt := Q } [some (.tok 0), some (.sh (.int (n : Nat))), some (ownL (ps.map prD)), x3, x4, x5, x6, none] := by
  have hs : (1000 : Nat) ≤ sizeLine := by decide
  simp [rest_book, sup_br, noLsts_prs, -List.map_map]
  intro _
  refine lcRun_fn prD (fun p : Pr => if decide (p.1 ≠ p.2) = true then some (DV.sh (prD p)) else none) ps [] (by simp; omega) (fun p m P hP => ?_) ?_
  · simp [prD]
    by_cases e : p.1 = p.2
    · have e' : ((p.1 : Int) = p.2) := by omega
      simp [e] at hP ⊢
      exact hP
    · have e' : ¬ ((p.1 : Int) = p.2) := by omega
      simp [e] at hP
      simp [e']
      exact hP
  · simp only [List.nil_append]
    rw [filterMap_if (fun p : Pr => decide (p.1 ≠ p.2)) (fun p => DV.sh (prD p)), own_prs]
    have hf : ∀ p ∈ ps.filter (fun p => decide (p.1 ≠ p.2)), p.1 < n ∧ p.2 < n ∧ p.1 ≠ p.2 := fun p m => by
      obtain ⟨m1, m2⟩ := List.mem_filter.mp m
      exact ⟨(hp p m1).1, (hp p m1).2, of_decide_eq_true m2⟩
    have hlf : (ps.filter fun p => decide (p.1 ≠ p.2)).length ≤ ps.length := List.length_filter_le _ _
    generalize ps.filter (fun p => decide (p.1 ≠ p.2)) = fs at hf hlf
    rw [sup_own]
    refine ⟨fs.map pairN, ⟨nest_data fs, nest_ok fs, alike_prs fs, by rw [List.length_map]; omega⟩, fun ms nd hm => ?_⟩
    rw [sort_nest hf nd hm]
    exact q _ (good_prs h1 h2)
theorem p__law_book (ds : List DV) (Q : DV → Prop) (h : g__law_book ds Q) : t__law_book { nx := fun _ => Q (.sh .none), rt := Q } (startD n__law_book ds) := by
  obtain ⟨n, rfl, ⟨h1, h2⟩, q⟩ := h
  have hs : (1000 : Nat) ≤ sizeLine := by decide
  have fin := fun N => p_rest_book (Q := Q) (N := N) h1 h2 fun ps G => q _ ⟨ps, G, rfl⟩
  have e : t__law_book = dSeq2 _ (dSeq2 _ (dSeq2 _ rest_book)) := rfl
  rw [e]
  generalize rest_book = RB at fin ⊢
  clear e
  simp [startD, n__law_book]
  refine ⟨.inl ⟨by decide, by omega⟩, .inl ⟨by decide, by omega⟩, ?_⟩
  refine pr_call (false, [PyData.int 0, PyData.int 1, PyData.int ((n : Int) - 1), PyData.int n, PyData.int (2 * n), PyData.int (4 * n)]) rfl ⟨by simp, by simp⟩ ?_
  rintro dv ⟨d, md, rfl⟩
  obtain ⟨k, hk, rfl⟩ : ∃ k : Nat, k ≤ 40 ∧ d = PyData.int (k : Nat) := by
    simp at md
    rcases md with rfl | rfl | rfl | rfl | rfl | rfl
    · exact ⟨0, by omega, rfl⟩
    · exact ⟨1, by omega, rfl⟩
    · exact ⟨n - 1, by omega, by congr 1; omega⟩
    · exact ⟨n, by omega, rfl⟩
    · exact ⟨2 * n, by omega, by congr 1⟩
    · exact ⟨4 * n, by omega, by congr 1⟩
  simp
  refine ⟨small_n (by omega), ?_⟩
  rw [rangeD_nat]
  have okw : ∀ many : Nat, 0 < many → many ≤ 100 → (0 < many ∧ many < 1073741824) := fun many a b => ⟨a, by omega⟩
  refine forRun_nat k (fun i δ => ∃ (ps : List Pr) (x4 : Option DV), (∀ p ∈ ps, p.1 < n ∧ p.2 < n) ∧ ps.length = i ∧ δ = [some (.tok 0), some (.sh (.int (n : Nat))), some (ownL (ps.map prD)), some (.sh (.int (k : Nat))), x4, none, none, none]) (fun i δ hi hI N hN => ?_) (fun δ hI => ?_) ⟨[], none, by simp, rfl, rfl⟩
  · obtain ⟨ps, x4, hp, hl, rfl⟩ := hI
    simp [-List.map_map]
    refine ⟨by omega, ?_⟩
    refine draw_nat (many := n) rfl (okw _ (by omega) (by omega)) fun a ha => ?_
    refine draw_nat (many := n) rfl (okw _ (by omega) (by omega)) fun b hb => ?_
    simp [-List.map_map]
    refine hN _ ⟨ps ++ [(a, b)], some (.sh (.int (i : Nat))), fun p m => ?_, by simp [hl], ?_⟩
    · rcases List.mem_append.mp m with m | m
      · exact hp p m
      · rw [List.mem_singleton.mp m]; exact ⟨ha, hb⟩
    · simp [ownL, prD]
  · obtain ⟨ps, x4, hp, hl, rfl⟩ := hI
    simp [-List.map_map]
    refine draw_nat (many := 3) rfl (by omega) fun z hz => ?_
    simp [-List.map_map]
    split
    · refine pr_call n rfl h2 ?_
      rintro dv ⟨xs, rfl, r⟩
      refine ⟨by unfold small; omega, ?_⟩
      rw [rangeD_pred n h1]
      refine lcP (ok := fun p => p.1 < n ∧ p.2 < n) (fun i : Nat => PyData.int i) _ (by simp; omega) (fun i m P hP hN => ?_) fun qs hq hlq => ?_
      · simp at m
        simp
        refine draw_nat (many := 4) rfl (by omega) fun z hz => ?_
        obtain ⟨x, ex⟩ := r.at (show i < n by omega)
        obtain ⟨y, ey⟩ := r.at (show i + 1 < n by omega)
        have ey' := lotD_at ey
        rw [Int.natCast_add] at ey'
        simp
        split
        · have ey2 : atI (xs.map fun x : Nat => PyData.int x) ((i : Int) + 1) = some (.int (y : Nat)) := ey'
          simp [lotD_at ex, ey2]
          exact hP (x, y) ⟨r.lt ex, r.lt ey⟩
        · exact hN
      · simp at hlq
        refine ⟨by simp; omega, ?_⟩
        rw [← List.map_append, ← List.map_append]
        refine fin _ (ps ++ qs) (fun p m => ?_) (by simp; omega) _ _ _ _
        rcases List.mem_append.mp m with m | m
        · exact hp p m
        · exact hq p m
    · exact fin _ ps hp (by omega) _ _ _ _
end HL
set_option Elab.async false
set_option linter.all false
set_option maxRecDepth 100000
set_option maxHeartbeats 1000000
namespace HL
open PySem PySem.Spec L2 DL
open PyProof.Rows hiding St
def g__law_are_ponds : Sg := pr (fun x : Nat × List Pr × List (List Nat) => [.sh (bookD x.1 (clo x.1 x.2.1)), .sh (.list (reachD x.1 (rch1 x.2.1))), .sh (.tuple (x.2.2.map lotD))]) (fun x => x.1 ≤ 10 ∧ IsPonds x.1 (clo x.1 x.2.1) x.2.2) (fun _ dv => dv = .sh (.bool true))
def n__law_are_ponds : List Str := ["hill", "met", "told", "due", "x", "y"]
def t__law_are_ponds : DS := dSeq2 (dSet 3 (dDit0)) (dSeq2 (dFor (dRange1 (dOpR fIx (dVar 0) (dC (.int 0)))) (gN 4) (dSetT 3 (dCB (on1 fTuple) (dCons (dLc (dRange1 (dOpR fIx (dVar 0) (dC (.int 0)))) (gN 5) (dOr (dTest (dOp (fRel sDep rEqv) (dVar 5) (dVar 4))) (dAnd (dTest (dOpR fIx (dOpR fIx (dVar 1) (dVar 4)) (dVar 5))) (dTest (dOpR fIx (dOpR fIx (dVar 1) (dVar 5)) (dVar 4))))) (dVar 5) [5]) (dNil))) (dC (.bool true)))) (dRet (dOp (fRel sDep rEqv) (dCB (on1 fRepr) (dCons (dVar 2) (dNil))) (dCB (on1 fRepr) (dCons (dCB (on1 fTuple) (dCons (dSortT 3) (dNil))) (dNil))))))
theorem p__law_are_ponds (ds : List DV) (Q : DV → Prop) (h : g__law_are_ponds ds Q) : t__law_are_ponds { nx := fun _ => Q (.sh .none), rt := Q } (startD n__law_are_ponds ds) := by
  obtain ⟨⟨n, ps, L⟩, rfl, ⟨hn, hL⟩, q⟩ := h
  simp at hn
  have hs : (1000 : Nat) ≤ sizeLine := by decide
  have fin := q _ rfl
  have hL : IsPonds n (clo n ps) L := hL
  simp [t__law_are_ponds, startD, n__law_are_ponds, bookD]
  refine ⟨small_n (by omega), ?_⟩
  rw [rangeD_nat]
  refine forRun_nat n (fun i δ => ∃ (M : List (List Nat)) (x4 x5 : Option DV), M.Nodup ∧ (∀ l, l ∈ M ↔ ∃ x, x < i ∧ l = pondL n (clo n ps) x) ∧ M.length ≤ i ∧ δ = [some (.sh (bookD n (clo n ps))), some (.sh (.list (reachD n (rch1 ps)))), some (.sh (.tuple (L.map lotD))), some (.dit (M.map keyN)), x4, x5]) (fun i δ hi hI N hN => ?_) (fun δ hI => ?_) ⟨[], none, none, List.nodup_nil, by simp, by simp, rfl⟩
  · obtain ⟨M, x4, x5, nd, hM, hl, rfl⟩ := hI
    simp [bookD]
    refine ⟨by omega, small_n (by omega), ?_⟩
    rw [rangeD_nat]
    refine lcRun_fn (fun y : Nat => PyData.int y) (fun y => if (decide (y = i) || (rch1 ps i y && rch1 ps y i)) = true then some (DV.sh (.int (y : Nat))) else none) _ [] (by simp; omega) (fun y my P hP => ?_) ?_
    · simp at my
      simp [reachD_at hi, reachD_at my, boolsD_at my, boolsD_at hi]
      by_cases e : y = i
      · subst e
        simp at hP ⊢
        exact hP
      · have e' : ¬ ((y : Int) = i) := by omega
        rw [if_neg e']
        by_cases c1 : rch1 ps i y = true <;> by_cases c2 : rch1 ps y i = true <;> simp [e, c1, c2] at hP ⊢ <;> exact hP
    · simp only [List.nil_append]
      rw [filterMap_if (fun y => decide (y = i) || (rch1 ps i y && rch1 ps y i)) (fun y => DV.sh (.int (y : Nat))), pond_rows hi]
      have e3 : (pondL n (clo n ps) i).map (fun y => DV.sh (PyData.int (y : Nat))) = ((pondL n (clo n ps) i).map fun y : Nat => PyData.int y).map DV.sh := by rw [List.map_map]; rfl
      rw [e3]
      simp [-List.map_map]
      rw [show PyData.tuple ((pondL n (clo n ps) i).map fun y : Nat => PyData.int y) = lotD (pondL n (clo n ps) i) from rfl, onKey_lot]
      obtain ⟨M2, w1, w2, w3, w4⟩ := fold_put (pondL n (clo n ps)) [i] M nd
      rw [List.foldl_cons, List.foldl_nil] at w1
      rw [w1]
      refine hN _ ⟨M2, some (.sh (.int (i : Nat))), x5, w2, fun l => ?_, by simp at w4; omega, rfl⟩
      rw [w3, hM]
      constructor
      · rintro (⟨x, hx, rfl⟩ | ⟨x, hx, rfl⟩)
        · exact ⟨x, by omega, rfl⟩
        · rw [List.mem_singleton.mp hx]; exact ⟨i, by omega, rfl⟩
      · rintro ⟨x, hx, rfl⟩
        by_cases e : x = i
        · exact .inr ⟨x, List.mem_singleton.mpr e, rfl⟩
        · exact .inl ⟨x, by omega, rfl⟩
  · obtain ⟨M, x4, x5, nd, hM, hl, rfl⟩ := hI
    obtain ⟨L2, s1, s2, s3⟩ := sort_lots nd
    have e : L2 = L := strict_ext ltL_irrefl ltL_trans s1 hL.1 fun l => by rw [s2, hM, hL.2]
    subst e
    have e2 : (M.map keyN).map tupD = M.map lotD := by
      rw [List.map_map]
      exact List.map_congr_left fun l _ => tupD_keyN l
    have ne : ∀ l ∈ M, l ≠ [] := fun l m z => by
      obtain ⟨x, hx, rfl⟩ := (hM l).mp m
      have : x ∈ pondL n (clo n ps) x := by
        unfold pondL
        rw [List.mem_filter]
        exact ⟨List.mem_range.mpr hx, by simp [le]⟩
      rw [z] at this
      cases this
    simp [-List.map_map]
    rw [e2, s3]
    have sh : sShow (.tuple (L2.map lotD)) := (sh_ponds hL hn).show
    refine ⟨sh, ⟨(lots_ok ne).1, by omega⟩, sh, ?_⟩
    rw [decide_eq_true rfl]
    exact fin
end HL
set_option Elab.async false
set_option linter.all false
set_option maxRecDepth 100000
set_option maxHeartbeats 2000000
namespace HL
open PySem PySem.Spec L2 DL
open PyProof.Rows hiding St
theorem rel_some {α : Type} {f : α → D} {xs : List α} {os : List (Option DV)} (h : Paired (fun (x : α) (o : Option DV) => o = some (.sh (f x)) ∨ o = none) xs os) : ∃ ys : List α, os.filterMap id = (ys.map f).map DV.sh ∧ ys.Sublist xs := by
  induction h with
  | nil => exact ⟨[], rfl, List.Sublist.refl _⟩
  | @cons x o xs os r t ih =>
    obtain ⟨ys, e, sb⟩ := ih
    rcases r with rfl | rfl
    · refine ⟨x :: ys, ?_, sb.cons₂ x⟩
      rw [List.filterMap_cons]
      simp only [id]
      rw [e]; rfl
    · exact ⟨ys, by rw [List.filterMap_cons]; simp only [id]; exact e, sb.cons x⟩
/-- a comprehension that keeps some of the items, by lots -/
theorem lcSome {α : Type} {pat : DP} {tst : DB} {elt : DT} {δ : DE} {Q : List DV → Prop} (f : α → D) (xs : List α) (hz : xs.length ≤ sizeLine)
    (st : ∀ x ∈ xs, ∀ P : Option DV → Prop, P (some (.sh (f x))) → P none → pat (f x) δ fun δ' => tst δ' fun k => if k = true then elt δ' fun r => (match r.fx with | some dv => P (some dv) | none => False) else P none)
    (h : ∀ ys : List α, ys.Sublist xs → Q ((ys.map f).map DV.sh)) : lcRun pat tst elt δ (xs.map f) [] Q := by
  refine lcRun_rel f (fun x o => o = some (.sh (f x)) ∨ o = none) xs [] (by simpa using hz) (fun x m P hP => st x m P (hP _ (.inl rfl)) (hP _ (.inr rfl))) fun os p => ?_
  obtain ⟨ys, e, sb⟩ := rel_some p
  simp only [List.nil_append]
  rw [e]
  exact h ys sb
theorem Good.sub {n : Nat} {ps qs : List Pr} (G : Good n ps) (h : qs.Sublist ps) : Good n qs := ⟨G.lo, G.hi, fun p m => G.ok p (h.subset m), G.st.sublist h⟩
theorem inD_prs (p : Pr) (qs : List Pr) : rInD (prD p) (.tuple (qs.map prD)) = decide (p ∈ qs) := rInD_prs p.1 p.2 qs
def g__law_is_closed_right : Sg := pr (fun x : Nat × List Pr => [.tok 0, .sh (bookD x.1 x.2)]) (fun x => Good x.1 x.2) (fun _ dv => dv = .sh (.bool true))
def n__law_is_closed_right : List Str := ["deck", "book", "n", "met", "told", "due", "a", "more", "less", "b", "pair"]
def t__law_is_closed_right : DS := dSeq2 (dUnp [2, 3, 4] (dCons (dOpR fIx (dVar 1) (dC (.int 0))) (dCons (dCall g__law_reached (dCons (dOpR fIx (dVar 1) (dC (.int 0))) (dCons (dOpR fIx (dVar 1) (dC (.int 1))) (dNil)))) (dCons (dCall g_closing (dCons (dVar 1) (dNil))) (dNil))))) (dSeq2 (dSet 5 (dLst (dNil))) (dSeq2 (dFor (dRange1 (dVar 2)) (gN 6) (dExtend 5 (dLc (dRange1 (dVar 2)) (gN 9) (dAnd (dTest (dOp (fRel sDep fun d e => !rEqv d e) (dVar 6) (dVar 9))) (dTest (dOpR fIx (dOpR fIx (dVar 3) (dVar 6)) (dVar 9)))) (dTup (dCons (dVar 6) (dCons (dVar 9) (dNil)))) [9]))) (dSeq2 (dIfS (dTest (dOp (fRel sDep fun d e => !rEqv d e) (dCB (on1 fRepr) (dCons (dTup (dCons (dVar 4) (dCons (dCallK g_closing (pick [0]) (dCons (dVar 1) (dNil))) (dNil)))) (dNil))) (dCB (on1 fRepr) (dCons (dOpR fMul (dTup (dCons (dTup (dCons (dVar 2) (dCons (dCB (on1 fTuple) (dCons (dVar 5) (dNil))) (dNil)))) (dNil))) (dC (.int 2))) (dNil))))) (dRet (dC (.bool false))) (dNext)) (dSeq2 (dIfS (dOr (dTest (dOp (fRel sIs fun d e => !rIsD d e) (dCall g_is_hill (dCons (dVar 4) (dNil))) (dC (.bool true)))) (dOr (dTest (dOp (fRel sDep fun d e => !rEqv d e) (dCB (on1 fRepr) (dCons (dCall g_closing (dCons (dVar 4) (dNil))) (dNil))) (dCB (on1 fRepr) (dCons (dVar 4) (dNil))))) (dTest (dOp (fRel sDep fun d e => !rEqv d e) (dCall g_is_hill (dCons (dVar 1) (dNil))) (dOp (fRel sDep rEqv) (dCB (on1 fRepr) (dCons (dVar 4) (dNil))) (dCB (on1 fRepr) (dCons (dVar 1) (dNil)))))))) (dRet (dC (.bool false))) (dNext)) (dFrz 3 (dSeq2 (dIfS (dNot (dTest (dCall g__law_are_ponds (dCons (dVar 4) (dCons (dVar 3) (dCons (dCall g_ponds (dCons (dVar 4) (dNil))) (dNil))))))) (dRet (dC (.bool false))) (dNext)) (dSeq2 (dIfS (dTest (dOp (fRel sDep fun d e => !rEqv d e) (dVar 5) (dLst (dNil)))) (dFrz 5 (dSeq2 (dSet 7 (dTup (dCons (dVar 2) (dCons (dCB (on1 fTuple) (dCons (ST.dSortSetN (dOpR fAdd (dOpR fIx (dVar 1) (dC (.int 1))) (dTup (dCons (dCall g__law_pick (dCons (dVar 0) (dCons (dVar 5) (dNil)))) (dNil))))) (dNil))) (dNil))))) (dIfS (dOr (dTest (dOp (fRel sIs fun d e => !rIsD d e) (dCall g_is_book (dCons (dVar 7) (dNil))) (dC (.bool true)))) (dTest (dOp (fRel sDep fun d e => !rEqv d e) (dCB (on1 fRepr) (dCons (dCall g_closing (dCons (dVar 7) (dNil))) (dNil))) (dCB (on1 fRepr) (dCons (dVar 4) (dNil)))))) (dRet (dC (.bool false))) (dNext)))) (dNext)) (dSeq2 (dSet 8 (dTup (dCons (dVar 2) (dCons (dCB (on1 fTuple) (dCons (dLc (dSeqQ (dOpR fIx (dVar 1) (dC (.int 1)))) (gN 10) (dTest (dOp (fRel sLt fun d e => rLtD e d) (dCall g__law_draw (dCons (dVar 0) (dCons (dC (.int 3)) (dNil)))) (dC (.int 0)))) (dVar 10) [10]) (dNil))) (dNil))))) (dRet (dOp (fRel sDep rEqv) (dLc (dSeqQ (dOpR fIx (dCall g_closing (dCons (dVar 8) (dNil))) (dC (.int 1)))) (gN 10) (dTest (dOp (fRel sIn fun d e => !rInD d e) (dVar 10) (dOpR fIx (dVar 4) (dC (.int 1))))) (dVar 10) [10]) (dLst (dNil))))))))))))
def rest_closed : DS := dSeq2 (dIfS (dTest (dOp (fRel sDep fun d e => !rEqv d e) (dCB (on1 fRepr) (dCons (dTup (dCons (dVar 4) (dCons (dCallK g_closing (pick [0]) (dCons (dVar 1) (dNil))) (dNil)))) (dNil))) (dCB (on1 fRepr) (dCons (dOpR fMul (dTup (dCons (dTup (dCons (dVar 2) (dCons (dCB (on1 fTuple) (dCons (dVar 5) (dNil))) (dNil)))) (dNil))) (dC (.int 2))) (dNil))))) (dRet (dC (.bool false))) (dNext)) (dSeq2 (dIfS (dOr (dTest (dOp (fRel sIs fun d e => !rIsD d e) (dCall g_is_hill (dCons (dVar 4) (dNil))) (dC (.bool true)))) (dOr (dTest (dOp (fRel sDep fun d e => !rEqv d e) (dCB (on1 fRepr) (dCons (dCall g_closing (dCons (dVar 4) (dNil))) (dNil))) (dCB (on1 fRepr) (dCons (dVar 4) (dNil))))) (dTest (dOp (fRel sDep fun d e => !rEqv d e) (dCall g_is_hill (dCons (dVar 1) (dNil))) (dOp (fRel sDep rEqv) (dCB (on1 fRepr) (dCons (dVar 4) (dNil))) (dCB (on1 fRepr) (dCons (dVar 1) (dNil)))))))) (dRet (dC (.bool false))) (dNext)) (dFrz 3 (dSeq2 (dIfS (dNot (dTest (dCall g__law_are_ponds (dCons (dVar 4) (dCons (dVar 3) (dCons (dCall g_ponds (dCons (dVar 4) (dNil))) (dNil))))))) (dRet (dC (.bool false))) (dNext)) (dSeq2 (dIfS (dTest (dOp (fRel sDep fun d e => !rEqv d e) (dVar 5) (dLst (dNil)))) (dFrz 5 (dSeq2 (dSet 7 (dTup (dCons (dVar 2) (dCons (dCB (on1 fTuple) (dCons (ST.dSortSetN (dOpR fAdd (dOpR fIx (dVar 1) (dC (.int 1))) (dTup (dCons (dCall g__law_pick (dCons (dVar 0) (dCons (dVar 5) (dNil)))) (dNil))))) (dNil))) (dNil))))) (dIfS (dOr (dTest (dOp (fRel sIs fun d e => !rIsD d e) (dCall g_is_book (dCons (dVar 7) (dNil))) (dC (.bool true)))) (dTest (dOp (fRel sDep fun d e => !rEqv d e) (dCB (on1 fRepr) (dCons (dCall g_closing (dCons (dVar 7) (dNil))) (dNil))) (dCB (on1 fRepr) (dCons (dVar 4) (dNil)))))) (dRet (dC (.bool false))) (dNext)))) (dNext)) (dSeq2 (dSet 8 (dTup (dCons (dVar 2) (dCons (dCB (on1 fTuple) (dCons (dLc (dSeqQ (dOpR fIx (dVar 1) (dC (.int 1)))) (gN 10) (dTest (dOp (fRel sLt fun d e => rLtD e d) (dCall g__law_draw (dCons (dVar 0) (dCons (dC (.int 3)) (dNil)))) (dC (.int 0)))) (dVar 10) [10]) (dNil))) (dNil))))) (dRet (dOp (fRel sDep rEqv) (dLc (dSeqQ (dOpR fIx (dCall g_closing (dCons (dVar 8) (dNil))) (dC (.int 1)))) (gN 10) (dTest (dOp (fRel sIn fun d e => !rInD d e) (dVar 10) (dOpR fIx (dVar 4) (dC (.int 1))))) (dVar 10) [10]) (dLst (dNil)))))))))
def rest_less : DS := dSeq2 (dSet 8 (dTup (dCons (dVar 2) (dCons (dCB (on1 fTuple) (dCons (dLc (dSeqQ (dOpR fIx (dVar 1) (dC (.int 1)))) (gN 10) (dTest (dOp (fRel sLt fun d e => rLtD e d) (dCall g__law_draw (dCons (dVar 0) (dCons (dC (.int 3)) (dNil)))) (dC (.int 0)))) (dVar 10) [10]) (dNil))) (dNil))))) (dRet (dOp (fRel sDep rEqv) (dLc (dSeqQ (dOpR fIx (dCall g_closing (dCons (dVar 8) (dNil))) (dC (.int 1)))) (gN 10) (dTest (dOp (fRel sIn fun d e => !rInD d e) (dVar 10) (dOpR fIx (dVar 4) (dC (.int 1))))) (dVar 10) [10]) (dLst (dNil))))
theorem p_rest_less {n : Nat} {ps : List Pr} (G : Good n ps) {Q : DV → Prop} {N : DE → Prop} (q : Q (.sh (.bool true))) (x3 x5 x6 x7 x9 : Option DV) :
    rest_less { nx := N, rt := Q } [some (.tok 0), some (.sh (bookD n ps)), some (.sh (.int (n : Nat))), x3, some (.sh (bookD n (clo n ps))), x5, x6, x7, none, x9, none] := by
  have hn := G.hi
  have bl := book_len G
  have hs : (1000 : Nat) ≤ sizeLine := by decide
  simp [rest_less, -List.map_map]
  intro _
  refine lcSome prD ps (by omega) (fun p m P hP hN => ?_) fun qs hq => ?_
  · simp
    refine draw_nat (many := 3) rfl (by omega) fun z hz => ?_
    simp
    split
    · exact hP
    · exact hN
  · simp [-List.map_map]
    refine pr_call (n, qs) rfl (G.sub hq) ?_
    rintro dv rfl
    simp [bookD, -List.map_map]
    intro _
    refine lcRun_fn prD (fun _ => none) (clo n qs) [] (by have := book_len (hill_clo (ps := qs) G.lo G.hi).good; simp; omega) (fun p m P hP => ?_) ?_
    · have m2 := clo_sub (fun x mx => hq.subset mx) m
      simp [inD_prs, m2]
      exact ⟨sIn_prs _ _, hP⟩
    · have e : (clo n qs).filterMap (fun _ => (none : Option DV)) = [] := by
        generalize clo n qs = l
        induction l with
        | nil => rfl
        | cons a l ih => rw [List.filterMap_cons]; exact ih
      rw [e]
      show on2 (fRel sDep rEqv) (R.val (DV.own (([] : List D).map DV.sh))) (R.val (DV.own (([] : List D).map DV.sh))) _
      have er : rEqv (.list []) (.list []) = true := rfl
      have ed : sDep (.list []) (.list []) := sDep_le (m := 1) (by simp [PyData.depth, PyData.depthAll])
      simp [er, ed, -List.map_nil]
      exact q
theorem p_rest_closed {n : Nat} {ps : List Pr} (G : Good n ps) {Q : DV → Prop} {N : DE → Prop} (q : Q (.sh (.bool true))) (x6 x9 : Option DV) :
    rest_closed { nx := N, rt := Q } [some (.tok 0), some (.sh (bookD n ps)), some (.sh (.int (n : Nat))), some (ownL (reachD n (rch1 ps))), some (.sh (bookD n (clo n ps))), some (ownL ((clo n ps).map prD)), x6, none, none, x9, none] := by
  have hn := G.hi
  have hs : (1000 : Nat) ≤ sizeLine := by decide
  have G2 : Hill n (clo n ps) := hill_clo G.lo G.hi
  have sh : ∀ {qs : List Pr}, Good n qs → Sh 46002 3 (bookD n qs) := fun g => sh_book (by omega) (fun p m => by have := g.ok p m; omega) (Nat.le_trans (book_len g) (by omega))
  have fin := fun N x3 x5 x6 x7 x9 => p_rest_less (Q := Q) (N := N) G q x3 x5 x6 x7 x9
  have e : rest_closed = dSeq2 _ (dSeq2 _ (dFrz 3 (dSeq2 _ (dSeq2 _ rest_less)))) := rfl
  rw [e]
  generalize rest_less = RL at fin ⊢
  clear e
  simp [-List.map_map]
  refine pr_call (n, ps) rfl G ?_
  rintro dv rfl
  have s2 : sShow (.tuple [bookD n (clo n ps), bookD n (clo n ps)]) := (sh_2 (sh G2.good) (sh G2.good)).show
  have eb : PyData.tuple [PyData.int n, PyData.tuple ((clo n ps).map prD)] = bookD n (clo n ps) := rfl
  simp [fTuple_b (noLsts_prs _), fMul_2, eb, s2, -List.map_map]
  refine pr_call (n, clo n ps) rfl G2.good ?_
  rintro dv rfl
  simp [G2.clo, -List.map_map]
  refine pr_call (n, clo n ps) rfl G2.good ?_
  rintro dv rfl
  simp [G2.clo, (sh G2.good).show, -List.map_map]
  refine pr_call (n, ps) rfl G ?_
  rintro dv rfl
  refine ⟨(sh G).show, ?_⟩
  have ed : decide ((bookD n (clo n ps)).shown = (bookD n ps).shown) = decide (clo n ps = ps) := by
    rw [Bool.eq_iff_iff, decide_eq_true_eq, decide_eq_true_eq]
    exact shown_tells G
  simp [ed, -List.map_map]
  refine pr_call (n, clo n ps) rfl G2 ?_
  rintro dv ⟨L, rfl, hL⟩
  simp [-List.map_map]
  refine pr_call (n, ps, L) rfl ⟨hn, hL⟩ ?_
  rintro dv rfl
  simp [-List.map_map]
  by_cases c0 : clo n ps = []
  · have e1 : rEqv (.list ((clo n ps).map prD)) (.list []) = true := by rw [c0]; rfl
    rw [e1]
    exact fin _ _ _ _ _ _
  · obtain ⟨p0, r0, e0⟩ : ∃ p r, clo n ps = p :: r := by
      cases h : clo n ps with
      | nil => exact absurd h c0
      | cons p r => exact ⟨p, r, rfl⟩
    have ne : rEqv (.list ((clo n ps).map prD)) (.list []) = false := by rw [e0]; rfl
    simp [ne, -List.map_map]
    refine pr_call (true, (clo n ps).map prD) rfl ⟨by rw [e0]; simp, by have := book_len G2.good; simp; omega⟩ ?_
    rintro dv ⟨d, md, rfl⟩
    obtain ⟨p, mp, rfl⟩ := List.mem_map.mp md
    have bl := book_len G
    have okm : ∀ x ∈ ps ++ [p], x.1 < n ∧ x.2 < n ∧ x.1 ≠ x.2 := fun x m => by
      rcases List.mem_append.mp m with m | m
      · exact G.ok x m
      · rw [List.mem_singleton.mp m]; exact G2.good.ok p mp
    have em : ps.map prD ++ [prD p] = ((ps ++ [p]).map pairN).map NestedKey.data := by rw [← nest_data, List.map_append]; rfl
    have al : PySem.W.AllAlike (ps.map prD ++ [prD p]) := by
      have := alike_prs (ps ++ [p])
      rw [List.map_append] at this
      exact this
    refine ⟨by simp; omega, (ps ++ [p]).map pairN, ⟨em, nest_ok _, al, by simp; omega⟩, fun ms nd hm => ?_⟩
    rw [sort_nest okm nd hm]
    have G3 : Good n (prs n (bookR (ps ++ [p]))) := good_prs G.lo G.hi
    have same : clo n (prs n (bookR (ps ++ [p]))) = clo n ps := clo_between (fun x m => (mem_bookR okm x).mpr (List.mem_append_left _ m)) fun x m => by
      rcases List.mem_append.mp ((mem_bookR okm x).mp m) with m | m
      · exact .step .refl m
      · rw [List.mem_singleton.mp m]
        exact reach_iff.mp (mem_prs.mp mp).2.2.2
    refine pr_call (n, prs n (bookR (ps ++ [p]))) rfl G3 ?_
    rintro dv rfl
    simp [-List.map_map]
    refine pr_call (n, prs n (bookR (ps ++ [p]))) rfl G3 ?_
    rintro dv rfl
    simp [same, (sh G2.good).show, -List.map_map]
    exact fin _ _ _ _ _ _
theorem p__law_is_closed_right (ds : List DV) (Q : DV → Prop) (h : g__law_is_closed_right ds Q) : t__law_is_closed_right { nx := fun _ => Q (.sh .none), rt := Q } (startD n__law_is_closed_right ds) := by
  obtain ⟨⟨n, ps⟩, rfl, G, q⟩ := h
  have G : Good n ps := G
  have hn := G.hi
  have hs : (1000 : Nat) ≤ sizeLine := by decide
  have fin := fun N => p_rest_closed (Q := Q) (N := N) G (q _ rfl)
  have e : t__law_is_closed_right = dSeq2 _ (dSeq2 _ (dSeq2 _ rest_closed)) := rfl
  rw [e]
  generalize rest_closed = RB at fin ⊢
  clear e
  simp [startD, n__law_is_closed_right]
  have sl : ∀ a, (stepsL ps a).length ≤ n := fun a => by
    have nd : (stepsL ps a).Nodup := by
      unfold stepsL
      refine List.pairwise_map.mpr (List.Pairwise.imp_of_mem (fun {p q} mp mq lt e => ?_) (G.st.filter _))
      have h1 := of_decide_eq_true (List.mem_filter.mp mp).2
      have h2 := of_decide_eq_true (List.mem_filter.mp mq).2
      unfold plt at lt
      omega
    have := nodup_le _ (List.range n) nd fun x m => List.mem_range.mpr (G.ok _ (mem_steps.mp m)).2.1
    simpa using this
  have bl := book_len G
  refine pr_call (n, true, ps) rfl ⟨hn, fun p m => ⟨(G.ok p m).1, (G.ok p m).2.1⟩, fun a => by have := sl a; show (stepsL ps a).length + ps.length < 120; omega⟩ ?_
  rintro dv rfl
  refine pr_call (n, ps) rfl G ?_
  rintro dv rfl
  refine ⟨small_n (by omega), ?_⟩
  rw [rangeD_nat]
  refine forRun_nat n (fun i δ => ∃ x6 x9 : Option DV, δ = [some (.tok 0), some (.sh (bookD n ps)), some (.sh (.int (n : Nat))), some (ownL (reachD n (rch1 ps))), some (.sh (bookD n (clo n ps))), some (ownL (((List.range i).flatMap fun a => ((List.range n).filter fun b => decide (a ≠ b) && rch1 ps a b).map fun b => prD (a, b)))), x6, none, none, x9, none]) (fun a δ ha hI N hN => ?_) (fun δ hI => ?_) ⟨none, none, rfl⟩
  · obtain ⟨x6, x9, rfl⟩ := hI
    have hlen : (((List.range a).flatMap fun a => ((List.range n).filter fun b => decide (a ≠ b) && rch1 ps a b).map fun b => prD (a, b))).length ≤ a * 10 := by
      have := flatMap_len (k := 10) (f := fun a => ((List.range n).filter fun b => decide (a ≠ b) && rch1 ps a b).map fun b => prD (a, b)) (fun a => by
        rw [List.length_map]
        refine Nat.le_trans (List.length_filter_le _ _) ?_
        simpa using hn) (List.range a)
      simpa using this
    have hstep : ((List.range (a + 1)).flatMap fun a => ((List.range n).filter fun b => decide (a ≠ b) && rch1 ps a b).map fun b => prD (a, b)) = ((List.range a).flatMap fun a => ((List.range n).filter fun b => decide (a ≠ b) && rch1 ps a b).map fun b => prD (a, b)) ++ ((List.range n).filter fun b => decide (a ≠ b) && rch1 ps a b).map fun b => prD (a, b) := by
      rw [List.range_succ, List.flatMap_append]; simp
    generalize ((List.range a).flatMap fun a => ((List.range n).filter fun b => decide (a ≠ b) && rch1 ps a b).map fun b => prD (a, b)) = A at hlen hstep
    simp [-List.map_map]
    refine ⟨small_n (by omega), ?_⟩
    rw [rangeD_nat]
    refine lcRun_fn (fun i : Nat => PyData.int i) (fun b => if (decide (a ≠ b) && rch1 ps a b) = true then some (DV.sh (prD (a, b))) else none) _ [] (by simp; omega) (fun b mb P hP => ?_) ?_
    · simp at mb
      simp [reachD_at ha, boolsD_at mb]
      by_cases e : a = b
      · subst e
        simp at hP ⊢
        exact hP
      · have e' : ¬ ((a : Int) = b) := by omega
        by_cases c : rch1 ps a b = true
        · simp [e, c] at hP
          simp [e', c]
          simpa [prD] using hP
        · simp [e, c] at hP
          simp [e', c]
          exact hP
    · simp only [List.nil_append]
      rw [filterMap_if (fun b => decide (a ≠ b) && rch1 ps a b) (fun b => DV.sh (prD (a, b)))]
      refine ⟨?_, ?_⟩
      · rw [List.length_map]
        have h1 : ((List.range n).filter fun b => decide (a ≠ b) && rch1 ps a b).length ≤ n := by
          have := List.length_filter_le (fun b => decide (a ≠ b) && rch1 ps a b) (List.range n)
          simpa using this
        omega
      · have h := hN _ ⟨some (.sh (.int (a : Nat))), x9, rfl⟩
        rw [hstep] at h
        unfold ownL at h
        rw [List.map_append, List.map_map (f := fun b => prD (a, b))] at h
        exact h
  · obtain ⟨x6, x9, rfl⟩ := hI
    have e : ((List.range n).flatMap fun a => ((List.range n).filter fun b => decide (a ≠ b) && rch1 ps a b).map fun b => prD (a, b)) = (clo n ps).map prD := by
      unfold clo
      rw [← prs_congr (fun a b _ _ ne => rch1_reach ne)]
      unfold prs
      rw [List.map_flatMap]
      refine flatMap_eq fun a _ => ?_
      rw [List.map_map]; rfl
    rw [e]
    exact fin _ _ _
end HL
set_option Elab.async false
set_option linter.all false
set_option maxRecDepth 100000
set_option maxHeartbeats 2000000
namespace HL
open PySem PySem.Spec L2 DL
open PyProof.Rows hiding St
def g__law_goes_along : Sg := pr (fun x : Nat × List Pr => [.tok 0, .sh (bookD x.1 x.2)]) (fun x => Good x.1 x.2) (fun _ dv => dv = .sh (.bool true))
def n__law_goes_along : List Str := ["deck", "book", "n", "order", "led", "turned", "a", "b"]
def t__law_goes_along : DS := dSeq2 (dUnp [2, 3] (dCons (dOpR fIx (dVar 1) (dC (.int 0))) (dCons (dCall g__law_order (dCons (dVar 0) (dCons (dOpR fIx (dVar 1) (dC (.int 0))) (dNil)))) (dNil)))) (dSeq2 (dSet 4 (dTup (dCons (dVar 2) (dCons (dCB (on1 fTuple) (dCons (dCB (on1 fSorted) (dCons (dLc (dSeqQ (dOpR fIx (dVar 1) (dC (.int 1)))) (gT 2 (gsCons (gN 6) (gsCons (gN 7) (gsNil)))) (dYes) (dTup (dCons (dOpR fIx (dVar 3) (dVar 6)) (dCons (dOpR fIx (dVar 3) (dVar 7)) (dNil)))) [6, 7]) (dNil))) (dNil))) (dNil))))) (dSeq2 (dIfS (dTest (dOp (fRel sDep fun d e => !rEqv d e) (dCB (on1 fRepr) (dCons (dCall g_closing (dCons (dVar 4) (dNil))) (dNil))) (dCB (on1 fRepr) (dCons (dCall g_led_hill (dCons (dCall g_closing (dCons (dVar 1) (dNil))) (dCons (dVar 3) (dNil)))) (dNil))))) (dRet (dC (.bool false))) (dNext)) (dSeq2 (dSet 5 (dTup (dCons (dVar 2) (dCons (dCB (on1 fTuple) (dCons (dCB (on1 fSorted) (dCons (dLc (dSeqQ (dOpR fIx (dVar 1) (dC (.int 1)))) (gT 2 (gsCons (gN 6) (gsCons (gN 7) (gsNil)))) (dYes) (dTup (dCons (dVar 7) (dCons (dVar 6) (dNil)))) [6, 7]) (dNil))) (dNil))) (dNil))))) (dRet (dOp (fRel sDep rEqv) (dCB (on1 fRepr) (dCons (dCall g_closing (dCons (dVar 5) (dNil))) (dNil))) (dCB (on1 fRepr) (dCons (dCall g_mirror (dCons (dCall g_closing (dCons (dVar 1) (dNil))) (dNil))) (dNil))))))))
theorem p__law_goes_along (ds : List DV) (Q : DV → Prop) (h : g__law_goes_along ds Q) : t__law_goes_along { nx := fun _ => Q (.sh .none), rt := Q } (startD n__law_goes_along ds) := by
  obtain ⟨⟨n, ps⟩, rfl, G, q⟩ := h
  have G : Good n ps := G
  have hn := G.hi
  have bl := book_len G
  have hs : (1000 : Nat) ≤ sizeLine := by decide
  have G2 : Hill n (clo n ps) := hill_clo G.lo G.hi
  have sh : ∀ {qs : List Pr}, Good n qs → Sh 46002 3 (bookD n qs) := fun g => sh_book (by omega) (fun p m => by have := g.ok p m; omega) (Nat.le_trans (book_len g) (by omega))
  have fin := q _ rfl
  simp [t__law_goes_along, startD, n__law_goes_along]
  refine pr_call n rfl hn ?_
  rintro dv ⟨xs, rfl, r⟩
  simp [-List.map_map]
  intro _
  refine lcRun_map prD (fun p => DV.sh (prD (xs[p.1]?.getD 0, xs[p.2]?.getD 0))) ps (by omega) (fun p m P hP => ?_) ?_
  · obtain ⟨g1, g2, g3⟩ := G.ok p m
    obtain ⟨x, ex⟩ := r.at g1
    obtain ⟨y, ey⟩ := r.at g2
    simp only [ex, ey] at hP
    simp [prD, lotD_at ex, lotD_at ey] at hP ⊢
    exact hP
  · have e : ps.map (fun p => DV.sh (prD (xs[p.1]?.getD 0, xs[p.2]?.getD 0))) = ((ledL ps xs).map prD).map DV.sh := by unfold ledL; rw [List.map_map, List.map_map]; rfl
    rw [e]
    refine led_run G r ?_
    simp [-List.map_map]
    have GL : Good n (led n ps xs) := good_prs G.lo G.hi
    refine pr_call (n, led n ps xs) rfl GL ?_
    rintro dv rfl
    refine ⟨(sh (hill_clo (ps := led n ps xs) G.lo G.hi).good).show, ?_⟩
    refine pr_call (n, ps) rfl G ?_
    rintro dv rfl
    simp [-List.map_map]
    refine pr_call (n, clo n ps, xs) rfl ⟨G2, r⟩ ?_
    rintro dv rfl
    simp [clo_led G r, -List.map_map]
    refine ⟨(sh (led_hill_ok G2 r).good).show, fun _ => ?_⟩
    refine lcRun_map prD (fun p => DV.sh (prD (p.2, p.1))) ps (by omega) (fun p m P hP => ?_) ?_
    · simp [prD] at hP ⊢
      exact hP
    · have e : ps.map (fun p => DV.sh (prD (p.2, p.1))) = ((ps.map (fun p : Pr => ((p.2, p.1) : Pr))).map prD).map DV.sh := by rw [List.map_map, List.map_map]; rfl
      rw [e, fSorted_o]
      refine ⟨sort_ok _, ?_⟩
      rw [sort_mem (map_nodup (fun a b e => by
        have := Prod.mk.inj e
        exact Prod.ext this.2 this.1) (strict_nodup plt_irrefl G.st)) (mir_mem G)]
      simp [-List.map_map]
      refine pr_call (n, prs n (mirR ps)) rfl (good_prs G.lo G.hi) ?_
      rintro dv rfl
      simp [-List.map_map]
      refine ⟨(sh (hill_clo (ps := prs n (mirR ps)) G.lo G.hi).good).show, ?_⟩
      refine pr_call (n, ps) rfl G ?_
      rintro dv rfl
      simp [-List.map_map]
      refine pr_call (n, clo n ps) rfl G2 ?_
      rintro dv rfl
      simp [clo_mir G, -List.map_map]
      exact ⟨(sh (good_prs (r := mirR (clo n ps)) G.lo G.hi)).show, fin⟩
def t_law : DS := dSeq2 (dFor (dRange1 (dC (.int 4))) (gN 2) (dSeq2 (dSet 3 (dOpR fAdd (dC (.int 1)) (dCall g__law_draw (dCons (dVar 1) (dCons (dC (.int 10)) (dNil)))))) (dSeq2 (dSet 4 (dIf (dTest (dOp (fRel sLt fun d e => rLtD e d) (dCall g__law_draw (dCons (dVar 1) (dCons (dC (.int 4)) (dNil)))) (dC (.int 0)))) (dCall g__law_book (dCons (dVar 1) (dCons (dVar 3) (dNil)))) (dCall g__law_hill (dCons (dVar 1) (dCons (dVar 3) (dNil)))))) (dIfS (dOr (dNot (dTest (dCall g__law_is_closed_right (dCons (dVar 1) (dCons (dVar 4) (dNil)))))) (dNot (dTest (dCall g__law_goes_along (dCons (dVar 1) (dCons (dVar 4) (dNil))))))) (dRet (dC (.bool false))) (dNext))))) (dRet (dC (.bool true)))
theorem p_law : t_law { nx := fun _ => False, rt := fun dv => dv = .sh (.bool true) } (lawD 3) := by
  simp [t_law, lawD]
  have e4 : rangeD 0 4 = (List.range 4).map fun i : Nat => PyData.int i := rangeD_nat 4
  refine ⟨by unfold small; omega, ?_⟩
  rw [e4]
  refine forRun_nat 4 (fun i δ => ∃ x2 x3 x4, δ = [some (.tok 1), some (.tok 0), x2, x3, x4]) (fun i δ hi hI N hN => ?_) (fun δ hI => ?_) ⟨none, none, none, rfl⟩
  · obtain ⟨x2, x3, x4, rfl⟩ := hI
    simp
    refine draw_nat (many := 10) rfl (by omega) fun a ha => ?_
    simp
    refine draw_nat (many := 4) rfl (by omega) fun b hb => ?_
    simp
    split
    · refine pr_call (1 + a) (by simp) (by omega) ?_
      rintro dv ⟨ps, G, rfl⟩
      simp
      refine pr_call (1 + a, ps) rfl G ?_
      rintro dv rfl
      simp
      refine pr_call (1 + a, ps) rfl G ?_
      rintro dv rfl
      simp
      exact hN _ ⟨_, _, _, rfl⟩
    · refine pr_call (1 + a) (by simp) (by omega) ?_
      rintro dv ⟨ps, G, rfl⟩
      simp
      refine pr_call (1 + a, ps) rfl G.good ?_
      rintro dv rfl
      simp
      refine pr_call (1 + a, ps) rfl G.good ?_
      rintro dv rfl
      simp
      exact hN _ ⟨_, _, _, rfl⟩
  · obtain ⟨x2, x3, x4, rfl⟩ := hI
    simp
end HL
set_option Elab.async false
set_option linter.all false
set_option maxRecDepth 100000
set_option maxHeartbeats 4000000
namespace K01
open PySem PySem.Spec L2 DL
open PyProof.Rows hiding St
open HL
abbrev dkZ (P : Program) (w : World) (aD aC aS : Addr) : Zn := deckZ "cells" "draws" P w aD aC aS
def topS (i : Nat) : Stmt := PySem.Challenge.pw_pourasked_k01_closings_of_books.main.body.getD i (.Pass ⟨0, 0, 0, 0⟩)
abbrev s__law_deck : Stmt := topS 29
theorem sc__law_deck : FnScope ["script", "mixed", "cell"] ["script"] (defScope s__law_deck) := ⟨rfl, rfl, rfl, by decide +kernel, rfl, by decide +kernel, by decide +kernel⟩
theorem b__law_deck : Bnd "_law_deck" s__law_deck ["script"] := fun _ _ _ _ _ _ us hl => match us, hl with | [_], _ => rfl
abbrev s__law_draw : Stmt := topS 30
theorem sc__law_draw : FnScope ["deck", "many", "number", "cell"] ["deck", "many"] (defScope s__law_draw) := ⟨rfl, rfl, rfl, by decide +kernel, rfl, by decide +kernel, by decide +kernel⟩
theorem b__law_draw : Bnd "_law_draw" s__law_draw ["deck", "many"] := fun _ _ _ _ _ _ us hl => match us, hl with | [_, _], _ => rfl
abbrev s__law_pick : Stmt := topS 31
theorem sc__law_pick : FnScope ["deck", "some"] ["deck", "some"] (defScope s__law_pick) := ⟨rfl, rfl, rfl, by decide +kernel, rfl, by decide +kernel, by decide +kernel⟩
theorem b__law_pick : Bnd "_law_pick" s__law_pick ["deck", "some"] := fun _ _ _ _ _ _ us hl => match us, hl with | [_, _], _ => rfl
abbrev s__law_order : Stmt := topS 34
theorem sc__law_order : FnScope ["deck", "n", "left", "found", "turn"] ["deck", "n"] (defScope s__law_order) := ⟨rfl, rfl, rfl, by decide +kernel, rfl, by decide +kernel, by decide +kernel⟩
theorem b__law_order : Bnd "_law_order" s__law_order ["deck", "n"] := fun _ _ _ _ _ _ us hl => match us, hl with | [_, _], _ => rfl
abbrev s__law_book : Stmt := topS 37
theorem sc__law_book : FnScope ["deck", "n", "pairs", "many", "turn", "order", "at", "pair"] ["deck", "n"] (defScope s__law_book) := ⟨rfl, rfl, rfl, by decide +kernel, rfl, by decide +kernel, by decide +kernel⟩
theorem b__law_book : Bnd "_law_book" s__law_book ["deck", "n"] := fun _ _ _ _ _ _ us hl => match us, hl with | [_, _], _ => rfl
abbrev s__law_reached : Stmt := topS 32
theorem sc__law_reached : FnScope ["n", "pairs", "steps", "found", "at", "met", "todo", "turn", "near", "a", "b"] ["n", "pairs"] (defScope s__law_reached) := ⟨rfl, rfl, rfl, by decide +kernel, rfl, by decide +kernel, by decide +kernel⟩
theorem b__law_reached : Bnd "_law_reached" s__law_reached ["n", "pairs"] := fun _ _ _ _ _ _ us hl => match us, hl with | [_, _], _ => rfl
abbrev s__law_closed : Stmt := topS 33
theorem sc__law_closed : FnScope ["n", "pairs", "met", "found", "a", "b"] ["n", "pairs"] (defScope s__law_closed) := ⟨rfl, rfl, rfl, by decide +kernel, rfl, by decide +kernel, by decide +kernel⟩
theorem b__law_closed : Bnd "_law_closed" s__law_closed ["n", "pairs"] := fun _ _ _ _ _ _ us hl => match us, hl with | [_, _], _ => rfl
abbrev s__law_led : Stmt := topS 35
theorem sc__law_led : FnScope ["hill", "order", "a", "b"] ["hill", "order"] (defScope s__law_led) := ⟨rfl, rfl, rfl, by decide +kernel, rfl, by decide +kernel, by decide +kernel⟩
theorem b__law_led : Bnd "_law_led" s__law_led ["hill", "order"] := fun _ _ _ _ _ _ us hl => match us, hl with | [_, _], _ => rfl
abbrev s__law_hill : Stmt := topS 36
theorem sc__law_hill : FnScope ["deck", "n", "way", "pairs", "low", "a", "size", "wide", "part", "hill", "turn", "pair", "at", "b"] ["deck", "n"] (defScope s__law_hill) := ⟨rfl, rfl, rfl, by decide +kernel, rfl, by decide +kernel, by decide +kernel⟩
theorem b__law_hill : Bnd "_law_hill" s__law_hill ["deck", "n"] := fun _ _ _ _ _ _ us hl => match us, hl with | [_, _], _ => rfl
abbrev s_is_integer : Stmt := topS 7
theorem sc_is_integer : FnScope ["thing"] ["thing"] (defScope s_is_integer) := ⟨rfl, rfl, rfl, by decide +kernel, rfl, by decide +kernel, by decide +kernel⟩
theorem b_is_integer : Bnd "is_integer" s_is_integer ["thing"] := fun _ _ _ _ _ _ us hl => match us, hl with | [_], _ => rfl
abbrev s_is_between : Stmt := topS 8
theorem sc_is_between : FnScope ["thing", "least", "most"] ["thing", "least", "most"] (defScope s_is_between) := ⟨rfl, rfl, rfl, by decide +kernel, rfl, by decide +kernel, by decide +kernel⟩
theorem b_is_between : Bnd "is_between" s_is_between ["thing", "least", "most"] := fun _ _ _ _ _ _ us hl => match us, hl with | [_, _, _], _ => rfl
abbrev s_is_pair_of : Stmt := topS 9
theorem sc_is_pair_of : FnScope ["n", "thing"] ["n", "thing"] (defScope s_is_pair_of) := ⟨rfl, rfl, rfl, by decide +kernel, rfl, by decide +kernel, by decide +kernel⟩
theorem b_is_pair_of : Bnd "is_pair_of" s_is_pair_of ["n", "thing"] := fun _ _ _ _ _ _ us hl => match us, hl with | [_, _], _ => rfl
abbrev s_is_book_value : Stmt := topS 10
theorem sc_is_book_value : FnScope ["thing", "pair", "one", "other"] ["thing"] (defScope s_is_book_value) := ⟨rfl, rfl, rfl, by decide +kernel, rfl, by decide +kernel, by decide +kernel⟩
theorem b_is_book_value : Bnd "is_book_value" s_is_book_value ["thing"] := fun _ _ _ _ _ _ us hl => match us, hl with | [_], _ => rfl
abbrev s_need_book : Stmt := topS 13
theorem sc_need_book : FnScope ["book"] ["book"] (defScope s_need_book) := ⟨rfl, rfl, rfl, by decide +kernel, rfl, by decide +kernel, by decide +kernel⟩
theorem b_need_book : Bnd "need_book" s_need_book ["book"] := fun _ _ _ _ _ _ us hl => match us, hl with | [_], _ => rfl
abbrev s_lows : Stmt := topS 14
theorem sc_lows : FnScope ["hill", "found", "a", "b", "x"] ["hill"] (defScope s_lows) := ⟨rfl, rfl, rfl, by decide +kernel, rfl, by decide +kernel, by decide +kernel⟩
theorem b_lows : Bnd "lows" s_lows ["hill"] := fun _ _ _ _ _ _ us hl => match us, hl with | [_], _ => rfl
abbrev s_hill_of_lows : Stmt := topS 16
theorem sc_hill_of_lows : FnScope ["found", "n", "pairs", "a", "b"] ["found"] (defScope s_hill_of_lows) := ⟨rfl, rfl, rfl, by decide +kernel, rfl, by decide +kernel, by decide +kernel⟩
theorem b_hill_of_lows : Bnd "hill_of_lows" s_hill_of_lows ["found"] := fun _ _ _ _ _ _ us hl => match us, hl with | [_], _ => rfl
abbrev s_closing_of : Stmt := topS 17
theorem sc_closing_of : FnScope ["book", "found", "middle", "b"] ["book"] (defScope s_closing_of) := ⟨rfl, rfl, rfl, by decide +kernel, rfl, by decide +kernel, by decide +kernel⟩
theorem b_closing_of : Bnd "closing_of" s_closing_of ["book"] := fun _ _ _ _ _ _ us hl => match us, hl with | [_], _ => rfl
abbrev s_closing : Stmt := topS 22
theorem sc_closing : FnScope ["book"] ["book"] (defScope s_closing) := ⟨rfl, rfl, rfl, by decide +kernel, rfl, by decide +kernel, by decide +kernel⟩
theorem b_closing : Bnd "closing" s_closing ["book"] := fun _ _ _ _ _ _ us hl => match us, hl with | [_], _ => rfl
abbrev s__law_are_ponds : Stmt := topS 38
theorem sc__law_are_ponds : FnScope ["hill", "met", "told", "due", "x", "y"] ["hill", "met", "told"] (defScope s__law_are_ponds) := ⟨rfl, rfl, rfl, by decide +kernel, rfl, by decide +kernel, by decide +kernel⟩
theorem b__law_are_ponds : Bnd "_law_are_ponds" s__law_are_ponds ["hill", "met", "told"] := fun _ _ _ _ _ _ us hl => match us, hl with | [_, _, _], _ => rfl
abbrev s_is_hill_value : Stmt := topS 11
theorem sc_is_hill_value : FnScope ["thing"] ["thing"] (defScope s_is_hill_value) := ⟨rfl, rfl, rfl, by decide +kernel, rfl, by decide +kernel, by decide +kernel⟩
theorem b_is_hill_value : Bnd "is_hill_value" s_is_hill_value ["thing"] := fun _ _ _ _ _ _ us hl => match us, hl with | [_], _ => rfl
abbrev s_is_hill : Stmt := topS 20
theorem sc_is_hill : FnScope ["thing"] ["thing"] (defScope s_is_hill) := ⟨rfl, rfl, rfl, by decide +kernel, rfl, by decide +kernel, by decide +kernel⟩
theorem b_is_hill : Bnd "is_hill" s_is_hill ["thing"] := fun _ _ _ _ _ _ us hl => match us, hl with | [_], _ => rfl
abbrev s_need_hill : Stmt := topS 12
theorem sc_need_hill : FnScope ["hill"] ["hill"] (defScope s_need_hill) := ⟨rfl, rfl, rfl, by decide +kernel, rfl, by decide +kernel, by decide +kernel⟩
theorem b_need_hill : Bnd "need_hill" s_need_hill ["hill"] := fun _ _ _ _ _ _ us hl => match us, hl with | [_], _ => rfl
abbrev s_highs : Stmt := topS 15
theorem sc_highs : FnScope ["hill", "found", "a", "b", "x"] ["hill"] (defScope s_highs) := ⟨rfl, rfl, rfl, by decide +kernel, rfl, by decide +kernel, by decide +kernel⟩
theorem b_highs : Bnd "highs" s_highs ["hill"] := fun _ _ _ _ _ _ us hl => match us, hl with | [_], _ => rfl
abbrev s_lot_of : Stmt := topS 18
theorem sc_lot_of : FnScope ["mask", "x"] ["mask"] (defScope s_lot_of) := ⟨rfl, rfl, rfl, by decide +kernel, rfl, by decide +kernel, by decide +kernel⟩
theorem b_lot_of : Bnd "lot_of" s_lot_of ["mask"] := fun _ _ _ _ _ _ us hl => match us, hl with | [_], _ => rfl
abbrev s_ponds : Stmt := topS 27
theorem sc_ponds : FnScope ["hill", "below", "above", "x"] ["hill"] (defScope s_ponds) := ⟨rfl, rfl, rfl, by decide +kernel, rfl, by decide +kernel, by decide +kernel⟩
theorem b_ponds : Bnd "ponds" s_ponds ["hill"] := fun _ _ _ _ _ _ us hl => match us, hl with | [_], _ => rfl
abbrev s_is_book : Stmt := topS 21
theorem sc_is_book : FnScope ["thing"] ["thing"] (defScope s_is_book) := ⟨rfl, rfl, rfl, by decide +kernel, rfl, by decide +kernel, by decide +kernel⟩
theorem b_is_book : Bnd "is_book" s_is_book ["thing"] := fun _ _ _ _ _ _ us hl => match us, hl with | [_], _ => rfl
abbrev s__law_is_closed_right : Stmt := topS 39
theorem sc__law_is_closed_right : FnScope ["deck", "book", "n", "met", "told", "due", "a", "more", "less", "b", "pair"] ["deck", "book"] (defScope s__law_is_closed_right) := ⟨rfl, rfl, rfl, by decide +kernel, rfl, by decide +kernel, by decide +kernel⟩
theorem b__law_is_closed_right : Bnd "_law_is_closed_right" s__law_is_closed_right ["deck", "book"] := fun _ _ _ _ _ _ us hl => match us, hl with | [_, _], _ => rfl
abbrev s_is_renaming : Stmt := topS 24
theorem sc_is_renaming : FnScope ["n", "thing", "item"] ["n", "thing"] (defScope s_is_renaming) := ⟨rfl, rfl, rfl, by decide +kernel, rfl, by decide +kernel, by decide +kernel⟩
theorem b_is_renaming : Bnd "is_renaming" s_is_renaming ["n", "thing"] := fun _ _ _ _ _ _ us hl => match us, hl with | [_, _], _ => rfl
abbrev s_led_hill : Stmt := topS 25
theorem sc_led_hill : FnScope ["hill", "names", "a", "b"] ["hill", "names"] (defScope s_led_hill) := ⟨rfl, rfl, rfl, by decide +kernel, rfl, by decide +kernel, by decide +kernel⟩
theorem b_led_hill : Bnd "led_hill" s_led_hill ["hill", "names"] := fun _ _ _ _ _ _ us hl => match us, hl with | [_, _], _ => rfl
abbrev s_mirror : Stmt := topS 23
theorem sc_mirror : FnScope ["hill", "a", "b"] ["hill"] (defScope s_mirror) := ⟨rfl, rfl, rfl, by decide +kernel, rfl, by decide +kernel, by decide +kernel⟩
theorem b_mirror : Bnd "mirror" s_mirror ["hill"] := fun _ _ _ _ _ _ us hl => match us, hl with | [_], _ => rfl
abbrev s__law_goes_along : Stmt := topS 40
theorem sc__law_goes_along : FnScope ["deck", "book", "n", "order", "led", "turned", "a", "b"] ["deck", "book"] (defScope s__law_goes_along) := ⟨rfl, rfl, rfl, by decide +kernel, rfl, by decide +kernel, by decide +kernel⟩
theorem b__law_goes_along : Bnd "_law_goes_along" s__law_goes_along ["deck", "book"] := fun _ _ _ _ _ _ us hl => match us, hl with | [_, _], _ => rfl
abbrev s_law : Stmt := topS 41
theorem sc_law : FnScope ["script", "deck", "turn", "n", "book"] ["script"] (defScope s_law) := ⟨rfl, rfl, rfl, by decide +kernel, rfl, by decide +kernel, by decide +kernel⟩
theorem bk_closing_book : BndK "closing" s_closing ["book"] ["book"] [0] := fun _ _ _ _ _ _ us hl => by
  match us, hl with
  | _ :: _, _ => rfl
  | [], h => simp [pick] at h
theorem m__law_pick : MonoG g__law_pick := pr_mono
theorem l__law_pick : ∀ ds Q, g__law_pick ds Q → ds.length = 2 := pr_len fun _ => rfl
theorem m__law_order : MonoG g__law_order := pr_mono
theorem l__law_order : ∀ ds Q, g__law_order ds Q → ds.length = 2 := pr_len fun _ => rfl
theorem m__law_book : MonoG g__law_book := pr_mono
theorem l__law_book : ∀ ds Q, g__law_book ds Q → ds.length = 2 := pr_len fun _ => rfl
theorem m__law_reached : MonoG g__law_reached := pr_mono
theorem l__law_reached : ∀ ds Q, g__law_reached ds Q → ds.length = 2 := pr_len fun _ => rfl
theorem m__law_closed : MonoG g__law_closed := pr_mono
theorem l__law_closed : ∀ ds Q, g__law_closed ds Q → ds.length = 2 := pr_len fun _ => rfl
theorem m__law_led : MonoG g__law_led := pr_mono
theorem l__law_led : ∀ ds Q, g__law_led ds Q → ds.length = 2 := pr_len fun _ => rfl
theorem m__law_hill : MonoG g__law_hill := pr_mono
theorem l__law_hill : ∀ ds Q, g__law_hill ds Q → ds.length = 2 := pr_len fun _ => rfl
theorem m_is_integer : MonoG g_is_integer := pr_mono
theorem l_is_integer : ∀ ds Q, g_is_integer ds Q → ds.length = 1 := pr_len fun _ => rfl
theorem m_is_between : MonoG g_is_between := pr_mono
theorem l_is_between : ∀ ds Q, g_is_between ds Q → ds.length = 3 := pr_len fun _ => rfl
theorem m_is_pair_of : MonoG g_is_pair_of := pr_mono
theorem l_is_pair_of : ∀ ds Q, g_is_pair_of ds Q → ds.length = 2 := pr_len fun _ => rfl
theorem m_is_book_value : MonoG g_is_book_value := pr_mono
theorem l_is_book_value : ∀ ds Q, g_is_book_value ds Q → ds.length = 1 := pr_len fun _ => rfl
theorem m_need_book : MonoG g_need_book := pr_mono
theorem l_need_book : ∀ ds Q, g_need_book ds Q → ds.length = 1 := pr_len fun _ => rfl
theorem m_lows : MonoG g_lows := pr_mono
theorem l_lows : ∀ ds Q, g_lows ds Q → ds.length = 1 := pr_len fun _ => rfl
theorem m_hill_of_lows : MonoG g_hill_of_lows := pr_mono
theorem l_hill_of_lows : ∀ ds Q, g_hill_of_lows ds Q → ds.length = 1 := pr_len fun _ => rfl
theorem m_closing_of : MonoG g_closing_of := pr_mono
theorem l_closing_of : ∀ ds Q, g_closing_of ds Q → ds.length = 1 := pr_len fun _ => rfl
theorem m_closing : MonoG g_closing := pr_mono
theorem l_closing : ∀ ds Q, g_closing ds Q → ds.length = 1 := pr_len fun _ => rfl
theorem m__law_are_ponds : MonoG g__law_are_ponds := pr_mono
theorem l__law_are_ponds : ∀ ds Q, g__law_are_ponds ds Q → ds.length = 3 := pr_len fun _ => rfl
theorem m_is_hill_value : MonoG g_is_hill_value := pr_mono
theorem l_is_hill_value : ∀ ds Q, g_is_hill_value ds Q → ds.length = 1 := pr_len fun _ => rfl
theorem m_is_hill : MonoG g_is_hill := pr_mono
theorem l_is_hill : ∀ ds Q, g_is_hill ds Q → ds.length = 1 := pr_len fun _ => rfl
theorem m_need_hill : MonoG g_need_hill := pr_mono
theorem l_need_hill : ∀ ds Q, g_need_hill ds Q → ds.length = 1 := pr_len fun _ => rfl
theorem m_highs : MonoG g_highs := pr_mono
theorem l_highs : ∀ ds Q, g_highs ds Q → ds.length = 1 := pr_len fun _ => rfl
theorem m_lot_of : MonoG g_lot_of := pr_mono
theorem l_lot_of : ∀ ds Q, g_lot_of ds Q → ds.length = 1 := pr_len fun _ => rfl
theorem m_ponds : MonoG g_ponds := pr_mono
theorem l_ponds : ∀ ds Q, g_ponds ds Q → ds.length = 1 := pr_len fun _ => rfl
theorem m_is_book : MonoG g_is_book := pr_mono
theorem l_is_book : ∀ ds Q, g_is_book ds Q → ds.length = 1 := pr_len fun _ => rfl
theorem m__law_is_closed_right : MonoG g__law_is_closed_right := pr_mono
theorem l__law_is_closed_right : ∀ ds Q, g__law_is_closed_right ds Q → ds.length = 2 := pr_len fun _ => rfl
theorem m_is_renaming : MonoG g_is_renaming := pr_mono
theorem l_is_renaming : ∀ ds Q, g_is_renaming ds Q → ds.length = 2 := pr_len fun _ => rfl
theorem m_led_hill : MonoG g_led_hill := pr_mono
theorem l_led_hill : ∀ ds Q, g_led_hill ds Q → ds.length = 2 := pr_len fun _ => rfl
theorem m_mirror : MonoG g_mirror := pr_mono
theorem l_mirror : ∀ ds Q, g_mirror ds Q → ds.length = 1 := pr_len fun _ => rfl
theorem m__law_goes_along : MonoG g__law_goes_along := pr_mono
theorem l__law_goes_along : ∀ ds Q, g__law_goes_along ds Q → ds.length = 2 := pr_len fun _ => rfl
structure Top (K : PySem.W.Frag) (mg : Str → Option Value) : Prop where
  _law_deck : ∃ f fd, mg "_law_deck" = some (.ref f) ∧ Fun K "_law_deck" "_law_deck" s__law_deck f fd
  _law_draw : ∃ f fd, mg "_law_draw" = some (.ref f) ∧ Fun K "_law_draw" "_law_draw" s__law_draw f fd
  _law_pick : ∃ f fd, mg "_law_pick" = some (.ref f) ∧ Fun K "_law_pick" "_law_pick" s__law_pick f fd
  _law_order : ∃ f fd, mg "_law_order" = some (.ref f) ∧ Fun K "_law_order" "_law_order" s__law_order f fd
  _law_book : ∃ f fd, mg "_law_book" = some (.ref f) ∧ Fun K "_law_book" "_law_book" s__law_book f fd
  _law_reached : ∃ f fd, mg "_law_reached" = some (.ref f) ∧ Fun K "_law_reached" "_law_reached" s__law_reached f fd
  _law_closed : ∃ f fd, mg "_law_closed" = some (.ref f) ∧ Fun K "_law_closed" "_law_closed" s__law_closed f fd
  _law_led : ∃ f fd, mg "_law_led" = some (.ref f) ∧ Fun K "_law_led" "_law_led" s__law_led f fd
  _law_hill : ∃ f fd, mg "_law_hill" = some (.ref f) ∧ Fun K "_law_hill" "_law_hill" s__law_hill f fd
  is_integer : ∃ f fd, mg "is_integer" = some (.ref f) ∧ Fun K "is_integer" "is_integer" s_is_integer f fd
  is_between : ∃ f fd, mg "is_between" = some (.ref f) ∧ Fun K "is_between" "is_between" s_is_between f fd
  is_pair_of : ∃ f fd, mg "is_pair_of" = some (.ref f) ∧ Fun K "is_pair_of" "is_pair_of" s_is_pair_of f fd
  is_book_value : ∃ f fd, mg "is_book_value" = some (.ref f) ∧ Fun K "is_book_value" "is_book_value" s_is_book_value f fd
  need_book : ∃ f fd, mg "need_book" = some (.ref f) ∧ Fun K "need_book" "need_book" s_need_book f fd
  lows : ∃ f fd, mg "lows" = some (.ref f) ∧ Fun K "lows" "lows" s_lows f fd
  hill_of_lows : ∃ f fd, mg "hill_of_lows" = some (.ref f) ∧ Fun K "hill_of_lows" "hill_of_lows" s_hill_of_lows f fd
  closing_of : ∃ f fd, mg "closing_of" = some (.ref f) ∧ Fun K "closing_of" "closing_of" s_closing_of f fd
  closing : ∃ f fd, mg "closing" = some (.ref f) ∧ Fun K "closing" "closing" s_closing f fd
  _law_are_ponds : ∃ f fd, mg "_law_are_ponds" = some (.ref f) ∧ Fun K "_law_are_ponds" "_law_are_ponds" s__law_are_ponds f fd
  is_hill_value : ∃ f fd, mg "is_hill_value" = some (.ref f) ∧ Fun K "is_hill_value" "is_hill_value" s_is_hill_value f fd
  is_hill : ∃ f fd, mg "is_hill" = some (.ref f) ∧ Fun K "is_hill" "is_hill" s_is_hill f fd
  need_hill : ∃ f fd, mg "need_hill" = some (.ref f) ∧ Fun K "need_hill" "need_hill" s_need_hill f fd
  highs : ∃ f fd, mg "highs" = some (.ref f) ∧ Fun K "highs" "highs" s_highs f fd
  lot_of : ∃ f fd, mg "lot_of" = some (.ref f) ∧ Fun K "lot_of" "lot_of" s_lot_of f fd
  ponds : ∃ f fd, mg "ponds" = some (.ref f) ∧ Fun K "ponds" "ponds" s_ponds f fd
  is_book : ∃ f fd, mg "is_book" = some (.ref f) ∧ Fun K "is_book" "is_book" s_is_book f fd
  _law_is_closed_right : ∃ f fd, mg "_law_is_closed_right" = some (.ref f) ∧ Fun K "_law_is_closed_right" "_law_is_closed_right" s__law_is_closed_right f fd
  is_renaming : ∃ f fd, mg "is_renaming" = some (.ref f) ∧ Fun K "is_renaming" "is_renaming" s_is_renaming f fd
  led_hill : ∃ f fd, mg "led_hill" = some (.ref f) ∧ Fun K "led_hill" "led_hill" s_led_hill f fd
  mirror : ∃ f fd, mg "mirror" = some (.ref f) ∧ Fun K "mirror" "mirror" s_mirror f fd
  _law_goes_along : ∃ f fd, mg "_law_goes_along" = some (.ref f) ∧ Fun K "_law_goes_along" "_law_goes_along" s__law_goes_along f fd
  law : ∃ f fd, mg "law" = some (.ref f) ∧ Fun K "law" "law" s_law f fd
  z_all : mg "all" = none
  z_bool : mg "bool" = none
  z_int : mg "int" = none
  z_isinstance : mg "isinstance" = none
  z_len : mg "len" = none
  z_list : mg "list" = none
  z_max : mg "max" = none
  z_min : mg "min" = none
  z_range : mg "range" = none
  z_repr : mg "repr" = none
  z_set : mg "set" = none
  z_sorted : mg "sorted" = none
  z_tuple : mg "tuple" = none
  z_zip : mg "zip" = none
  c_MOST_TERRACES : ∃ t, mg "MOST_TERRACES" = some (.int 10 t)
section
variable {P : Program} {w : World} {K : PySem.W.Frag} {mg : Str → Option Value} {base : Heap} {aD aC aS : Addr}
theorem valV_cells (aC : Addr) (m t : Int) : valV (deckK "cells" "draws" aC m t) (.inr "cells") = some (.ref aC) := by rfl
theorem valV_mixed (aC : Addr) (m t : Int) : valV (deckK "cells" "draws" aC m t) (.inr "mixed") = some (.int m) := by rfl
theorem valV_draws (aC : Addr) (m t : Int) : valV (deckK "cells" "draws" aC m t) (.inr "draws") = some (.int t) := by rfl
theorem put_draws (aC : Addr) (m t k : Int) : putK (deckK "cells" "draws" aC m t) (.inr "draws") (.int k) = deckK "cells" "draws" aC m k := by rfl
theorem cut63 {ns : List Int} (h : ns.length ≤ 63) : cutV (ns.map V.int) none (some 63) = ns.map V.int := by
  unfold cutV
  rw [HT.sIx_none, show HT.sIx (ns.map V.int).length (ns.map V.int).length (some 63) = min 63 (ns.map V.int).length from HT.sIx_nat _ _ 63]
  rw [List.drop_zero, List.length_map, Nat.min_eq_right h, Nat.sub_zero, ← List.length_map (f := V.int), List.take_length]
theorem upd_none {H : Hp} {a b : Addr} {o : HO} (h : upd H a o b = none) : b ≠ a ∧ H b = none := by
  by_cases e : b = a
  · subst e
    rw [upd_same] at h; cases h
  · rw [upd_ne e] at h
    exact ⟨e, h⟩
theorem sq_upd {K : PySem.W.Frag} {H : Hp} {a p : Addr} {o : HO} {xs : List V} (n : H p = none) (h : SqL K H a xs) : SqL K (upd H p o) a xs := by
  have k : ∀ b u, H b = some u → upd H p o b = some u := fun b u e => by
    rw [upd_ne (fun z => by rw [z, n] at e; cases e)]; exact e
  rcases h with (h | ⟨ob, h⟩) | h
  · exact .inl (.inl (k _ _ h))
  · exact .inl (.inr ⟨ob, k _ _ h⟩)
  · exact .inr h
theorem fn_deck {f : Addr} {fd : FuncData} (T : Top K mg) (U : Fun K "_law_deck" "_law_deck" s__law_deck f fd) : FnG P w K mg base CX0 1 f fd ["script"] (spDeck "cells" "draws" K) := by
  have S := sc__law_deck
  refine fnG_of (k := 0) U S (fun vs H Q E h => ?_) fun cdv A fr s H vs Q E hg hr h => ?_
  · obtain ⟨a, ns, rfl, _⟩ := h
    rfl
  · obtain ⟨a, ns, rfl, hs, h63, q⟩ := h
    refine ⟨_, PSs.nox (pss_cons (ps_set (i := 1) S.nd rfl (.inl rfl) pe_int)
      (pss_cons (ps_for PassesOwn.never rfl (pi_seq (pe_slice sl_list (pv 0) po_none (po_some pe_int))) (pg_name (i := 2) S.nd rfl (.inl rfl))
        (pss_one (ps_set (i := 1) S.nd rfl (.inl rfl) (pe_op op_mod (pe_callTy call_int1 (by rfl) T.z_int (by decide +kernel) (pa_cons (pe_op op_add (pe_op op_add (pe_op op_mul (pv 1) pe_int) (pe_op op_mod (pe_callTy call_int1 (by rfl) T.z_int (by decide +kernel) (pa_cons (pv 2) pa_nil)) pe_int)) pe_int) pa_nil)) pe_int))))
      (pss_one (ps_ret (pe_disp (pps_cons pe_str (pe_revL (pe_callTy call_list_of (by rfl) T.z_list (by decide +kernel) (pa_cons (pe_slice sl_list (pv 0) po_none (po_some pe_int)) pa_nil))) (pps_cons pe_str (pv 1) (pps_cons pe_str pe_int pps_nil))) (by rfl) (by rfl) (fun z => by cases z) (by decide)))))), ?_⟩
    refine ⟨.ref a, rfl, 63, rfl, a, ns.map V.int, rfl, hs, fun p np => ?_⟩
    rw [cut63 h63]
    have nx : ∀ b u, H b = some u → (upd H p (.lst (ns.map V.int))) b = some u := fun b u e => by
      rw [upd_ne (fun z => by rw [z, np] at e; cases e)]; exact e
    refine ⟨p, rfl, .inl ⟨_, .inl (.inl upd_same), fun _ => ⟨fun i k σ H1 => k + i = ns.length ∧ (∃ x2 m, σ = [some (.ref a), some (.int m), x2]) ∧ H1 = upd H p (.lst (ns.map V.int)), ⟨ns.length, rfl, ⟨_, _, rfl⟩, rfl⟩, fun i k σ H1 hW => ?_⟩⟩⟩
    obtain ⟨ek, ⟨x2, m, rfl⟩, rfl⟩ := hW
    have sp : SqL K (upd H p (.lst (ns.map V.int))) p (ns.map V.int) := .inl (.inl upd_same)
    by_cases hi : i < ns.length
    · have g : (ns.map V.int)[i]? = some (.int ns[i]) := by
        rw [List.getElem?_map, List.getElem?_eq_getElem hi]; rfl
      refine .inr ⟨⟨_, _, sp, g⟩, fun σ' H' => (∃ x2 m, σ' = [some (.ref a), some (.int m), x2]) ∧ H' = upd H p (.lst (ns.map V.int)), fun σ' H' hN => ⟨k - 1, by omega, by omega, hN.1, hN.2⟩, fun v H' hy => ?_⟩
      obtain ⟨rfl, fv⟩ := hy
      have ev : v = .int ns[i] := Option.some.inj ((fv _ sp).symm.trans g)
      subst ev
      exact ⟨.int m, rfl, m, _, rfl, rfl, .inr ⟨by decide, by decide⟩, .int ns[i], rfl, .inl ⟨_, rfl, _, _, rfl, rfl, (by show (0 : Int) < _; decide), _, _, rfl, rfl, _, _, rfl, rfl, .inl ⟨_, rfl, _, _, rfl, rfl, (by show (0 : Int) < _; decide), ⟨_, _, rfl⟩, rfl⟩⟩⟩
    · refine .inl ⟨⟨_, sp, by rw [List.length_map]; omega⟩, fun p2 np2 => ?_⟩
      obtain ⟨e2, n2⟩ := upd_none np2
      have hs2 := sq_upd (o := .dK []) np2 (sq_upd (o := .lst (ns.map V.int)) np hs)
      refine ⟨.ref a, rfl, 63, rfl, a, ns.map V.int, rfl, hs2, fun p3 np3 => ?_⟩
      rw [cut63 h63]
      obtain ⟨e3, n3'⟩ := upd_none np3
      obtain ⟨e3', n3⟩ := upd_none n3'
      refine ⟨p3, _, rfl, .inl (.inl (.inl upd_same)), fun p4 np4 => ?_⟩
      obtain ⟨e4, n4'⟩ := upd_none np4
      obtain ⟨e4', n4''⟩ := upd_none n4'
      obtain ⟨e4'', n4⟩ := upd_none n4''
      refine ⟨p4, _, rfl, .inl (.inl upd_same), fun p5 np5 => ?_⟩
      obtain ⟨e5, n5'⟩ := upd_none np5
      obtain ⟨e5', n5''⟩ := upd_none n5'
      obtain ⟨e5'', n5'''⟩ := upd_none n5''
      obtain ⟨e5''', n5⟩ := upd_none n5'''
      rw [← List.map_reverse]
      refine ⟨.int m, rfl, ?_, [(.inr "cells", .ref p5), (.inr "mixed", .int m), (.inr "draws", .int 0)], rfl, (by show 3 ≤ 15; decide), ?_⟩
      · rw [upd_ne (Ne.symm e5''), upd_ne (Ne.symm e4'), upd_ne (Ne.symm e3), upd_same]
      · refine q _ p2 p5 m (fun b u e => ?_) n2 n5 ⟨upd_same, ?_, by rw [List.length_reverse]; exact h63⟩
        · have no : ∀ c, H c = none → b ≠ c := fun c n z => by rw [z, n] at e; cases e
          rw [upd_ne (no _ n2), upd_ne (no _ n5), upd_ne (no _ n4), upd_ne (no _ n3), upd_ne (no _ n2), upd_ne (no _ np)]
          exact e
        · rw [upd_ne e5'', upd_same]
theorem fn_draw {f : Addr} {fd : FuncData} (T : Top K mg) (U : Fun K "_law_draw" "_law_draw" s__law_draw f fd) : FnG P w K mg base CX0 1 f fd ["deck", "many"] (spD (dkZ P w aD aC aS) K gDraw) := by
  have S := sc__law_draw
  refine fnG_of (k := 0) U S (fun vs H Q E h => ?_) fun cdv A fr s H vs Q E hg hr h => ?_
  · obtain ⟨F, ds, b, r, q⟩ := h
    rw [r.length]; exact len_draw _ _ q
  · obtain ⟨F, ds, b, r, many, rfl, ⟨hm1, hm2⟩, q⟩ := h
    have hu : (A.deeper (envOfC "_law_draw" (defScope s__law_draw) s.heap.objs.size f cdv)).units + 1 < cLine := by
      have := hr.units
      omega
    refine ⟨_, pss_cons (ps_dput hu (pv 0) pe_str (pe_op op_add (pe_dget hu (pv 0) pe_str (fun _ _ => rfl)) pe_int) rfl)
      (pss_cons (ps_set (i := 2) S.nd rfl (.inl rfl) (pe_op op_add (pe_dget hu (pv 0) pe_str (fun _ _ => rfl)) (pe_op op_mul pe_int (pe_dget hu (pv 0) pe_str (fun _ _ => rfl)))))
      (pss_cons (ps_if (pt_cmpR (op_neQ hr.units) (pe_dget hu (pv 0) pe_str (fun _ _ => rfl)) (pe_lst pa_nil) (nomark _))
        (pss_cons (ps_set (i := 3) S.nd rfl (.inl rfl) (pe_bm0 PySem.F.plainAttrs_list PySem.F.slot_list_pop PySem.F.type_list_pop mt_pop (pe_dget hu (pv 0) pe_str (fun _ _ => rfl))))
        (pss_cons (ps_if (pt_cmpR op_ge (pv 3) (pe_op op_pow pe_int pe_int) (nomark _))
          (pss_cons (ps_expr (pe_bm PySem.F.plainAttrs_list PySem.F.slot_list_append PySem.F.type_list_append mt_append (pe_dget hu (pv 0) pe_str (fun _ _ => rfl)) (pa_cons (pe_op op_fdiv (pv 3) (pe_callB (call_max2 rfl) (by rfl) T.z_max (by decide +kernel) (pa_cons pe_int (pa_cons (pv 1) pa_nil)))) pa_nil)))
            (pss_one (ps_ret (pe_op op_mod (pe_callTy call_int1 (by rfl) T.z_int (by decide +kernel) (pa_cons (pv 3) pa_nil)) (pv 1)))))
          pss_nil)
        (pss_one (ps_set (i := 2) S.nd rfl (.inl rfl) (pe_op op_add (pv 2) (pe_op op_mod (pe_callTy call_int1 (by rfl) T.z_int (by decide +kernel) (pa_cons (pv 3) pa_nil)) pe_int))))))
        pss_nil)
      (pss_cons (ps_set (i := 2) S.nd rfl (.inl rfl) (pe_op op_mod (pe_callTy call_int1 (by rfl) T.z_int (by decide +kernel) (pa_cons (pe_op op_add (pe_op op_mul (pv 2) pe_int) pe_int) pa_nil)) pe_int))
      (pss_cons (ps_set (i := 2) S.nd rfl (.inl rfl) (pe_op op_mod (pe_callTy call_int1 (by rfl) T.z_int (by decide +kernel) (pa_cons (pe_op op_add (pe_op op_add (pe_op op_mul (pv 2) (pv 2)) (pe_op op_mul pe_int (pe_dget hu (pv 0) pe_str (fun _ _ => rfl)))) pe_int) pa_nil)) pe_int))
      (pss_cons (ps_set (i := 2) S.nd rfl (.inl rfl) (pe_op op_mod (pe_callTy call_int1 (by rfl) T.z_int (by decide +kernel) (pa_cons (pe_op op_mul (pv 2) pe_int) pa_nil)) pe_int))
      (pss_one (ps_ret (pe_op op_mod (pe_callTy call_int1 (by rfl) T.z_int (by decide +kernel) (pa_cons (pe_op op_fdiv (pv 2) pe_int) pa_nil)) (pv 1))))))))), ?_⟩
    have hvs : vs = [.ref aD, .int many] := draw_args r
    subst hvs
    have fin : ∀ {H' : Hp} {ns : List Int} {m t : Int} (x : Int), DrawSt "cells" "draws" aD aC H H' ns m t → Q (.int (x % many)) H' := fun {H' ns m t} x st =>
      q _ (Int.emod_nonneg _ (Int.ne_of_gt hm1)) (Int.emod_lt_of_pos _ hm1) F H' _ (DrawSt.go (kc := "cells") (kt := "draws") b st) (.sh (.int _))
    have cm : ∀ j : Int, CMul 61027 j := fun j => .inl ⟨by decide, by decide⟩
    obtain ⟨ns, m, t, at0⟩ : ∃ ns m t, DeckAt "cells" "draws" aD aC H ns m t := b.j
    have st0 : DrawSt "cells" "draws" aD aC H H ns m t := ⟨at0, fun a o e _ _ => e⟩
    refine ⟨.ref aD, rfl, aD, .int t, rfl, st0.get (valV_draws _ _ _), t, 1, rfl, rfl, .ref aD, rfl, aD, _, rfl, (.inl ⟨deckK "cells" "draws" aC m t, .inr "draws", st0.at'.d, rfl, (by show 3 < sizeLine; decide), rfl⟩), ?_⟩
    have st1 := st0.put (t + 1) (put_draws _ _ _ _)
    generalize upd H aD (.dK (putK (deckK "cells" "draws" aC m t) (.inr "draws") (.int (t + 1)))) = H1 at st1 ⊢
    refine ⟨.ref aD, rfl, aD, .int m, rfl, st1.get (valV_mixed _ _ _), .ref aD, rfl, aD, .int (t + 1), rfl, st1.get (valV_draws _ _ _), 61027, t + 1, rfl, rfl, .inl ⟨by decide, by decide⟩, m, _, rfl, rfl, ?_⟩
    refine ⟨.ref aD, rfl, aD, .ref aC, rfl, st1.get (valV_cells _ _ _), Nat.zero_le _, fun p np => ?_⟩
    have st2 := st1.new (o := .lst []) np (st1.none0 np)
    refine ⟨.list (ns.map PyData.int), .list [], st2.dq, .lst ⟨upd_same, trivial⟩ .nil, sDep_nil _, _, rfl, ?_⟩
    generalize upd H1 p (.lst []) = H2 at st2 ⊢
    -- behind the cells
    refine ite2 (fun e => ?_) (fun e => ?_)
    · obtain ⟨ks, c, rfl⟩ : ∃ ks c, ns = ks ++ [c] := by
        rcases List.eq_nil_or_concat ns with rfl | ⟨ks, c, rfl⟩
        · cases e
        · exact ⟨ks, c, List.concat_eq_append⟩
      have hk : ks.length ≤ 62 := by
        have := st2.at'.n
        rw [List.length_append, List.length_singleton] at this
        omega
      have hc : ((ks ++ [c]).map V.int)[((ks ++ [c]).map V.int).length - 1]? = some (.int c) := by simp
      refine ⟨.ref aD, rfl, aD, .ref aC, rfl, st2.get (valV_cells _ _ _), .inl ⟨rfl, _, st2.sq⟩, aC, _, _, rfl, rfl, st2.at'.c, hc, ?_⟩
      have st3 := st2.cells (ks := ks) (by omega)
      have hd : ((ks ++ [c]).map V.int).dropLast = ks.map V.int := by simp
      rw [hd]
      generalize upd H2 aC (.lst (ks.map V.int)) = H3 at st3 ⊢
      refine ⟨.int c, rfl, 10, 18, rfl, rfl, ⟨by decide, by decide, by decide⟩, c, _, rfl, rfl, _, rfl, ite2 (fun e => ?_) (fun e => ?_)⟩
      · refine ⟨.ref aD, rfl, aD, .ref aC, rfl, st3.get (valV_cells _ _ _), .inl ⟨rfl, _, st3.sq⟩, .int c, rfl, .int many, rfl, 2, many, rfl, c, _, rfl, rfl, ⟨?_, ?_⟩, aC, _, _, rfl, rfl, st3.at'.c, ?_, ?_⟩
        · split <;> omega
        · split <;> omega
        · rw [List.length_map]
          exact Nat.lt_of_le_of_lt hk (by decide)
        · have st4 := st3.cells (ks := ks ++ [c / (if many > 2 then many else 2)]) (by rw [List.length_append, List.length_singleton]; omega)
          have ea : ks.map V.int ++ [V.int (c / (if many > 2 then many else 2))] = (ks ++ [c / (if many > 2 then many else 2)]).map V.int := by rw [List.map_append]; rfl
          refine ⟨.int c, rfl, .inl ⟨c, rfl, .int many, rfl, c, many, rfl, rfl, hm1, ?_⟩⟩
          rw [ea]
          exact fin _ st4
      · refine ⟨_, rfl, .int c, rfl, .inl ⟨c, rfl, c, _, rfl, rfl, (by show (0 : Int) < _; decide), _, _, rfl, rfl, ?_⟩⟩
        refine ⟨_, rfl, _, _, rfl, rfl, .inr ⟨by decide, by decide⟩, _, _, rfl, rfl, .inl ⟨_, rfl, _, _, rfl, rfl, (by show (0 : Int) < _; decide), ?_⟩⟩
        refine ⟨_, rfl, _, rfl, _, _, rfl, rfl, .inl ⟨by omega, by omega⟩, .ref aD, rfl, aD, _, rfl, st3.get (valV_draws _ _ _), _, _, rfl, rfl, .inl ⟨by decide, by decide⟩, _, _, rfl, rfl, _, _, rfl, rfl, .inl ⟨_, rfl, _, _, rfl, rfl, (by show (0 : Int) < _; decide), ?_⟩⟩
        refine ⟨_, rfl, _, _, rfl, rfl, .inr ⟨by decide, by decide⟩, .inl ⟨_, rfl, _, _, rfl, rfl, (by show (0 : Int) < _; decide), ?_⟩⟩
        exact ⟨_, rfl, _, _, rfl, rfl, ⟨by decide, by decide⟩, .inl ⟨_, rfl, .int many, rfl, _, _, rfl, rfl, hm1, fin _ st3⟩⟩
    · refine ⟨_, rfl, _, _, rfl, rfl, .inr ⟨by decide, by decide⟩, _, _, rfl, rfl, .inl ⟨_, rfl, _, _, rfl, rfl, (by show (0 : Int) < _; decide), ?_⟩⟩
      refine ⟨_, rfl, _, rfl, _, _, rfl, rfl, .inl ⟨by omega, by omega⟩, .ref aD, rfl, aD, _, rfl, st2.get (valV_draws _ _ _), _, _, rfl, rfl, .inl ⟨by decide, by decide⟩, _, _, rfl, rfl, _, _, rfl, rfl, .inl ⟨_, rfl, _, _, rfl, rfl, (by show (0 : Int) < _; decide), ?_⟩⟩
      refine ⟨_, rfl, _, _, rfl, rfl, .inr ⟨by decide, by decide⟩, .inl ⟨_, rfl, _, _, rfl, rfl, (by show (0 : Int) < _; decide), ?_⟩⟩
      exact ⟨_, rfl, _, _, rfl, rfl, ⟨by decide, by decide⟩, .inl ⟨_, rfl, .int many, rfl, _, _, rfl, rfl, hm1, fin _ st2⟩⟩
theorem gd__law_pick (T : Top K mg) (G__law_draw : Gd P w K mg base (dkZ P w aD aC aS) "_law_draw" s__law_draw ["deck", "many"] 1 g__law_draw) : Gd P w K mg base (dkZ P w aD aC aS) "_law_pick" s__law_pick ["deck", "some"] 2 g__law_pick := by
  obtain ⟨f, fd, hm, U⟩ := T._law_pick
  have S := sc__law_pick
  refine gd_mk hm U m__law_pick (fnD_ok (k := 1) U S l__law_pick fun cdv A fr s H E F0 hg hr => ⟨t__law_pick, ?_, fun ds Q h => p__law_pick ds Q h⟩)
  exact s_one (s_ret (d_item (d_var 1) (d_callG G__law_draw b__law_draw (by decide) hg hr pass0 (l_cons (d_var 0) (l_cons (d_len (l_cons (d_var 1) (l_nil)) T.z_len) (l_nil))))))
theorem gd__law_order (T : Top K mg) (G__law_draw : Gd P w K mg base (dkZ P w aD aC aS) "_law_draw" s__law_draw ["deck", "many"] 1 g__law_draw) : Gd P w K mg base (dkZ P w aD aC aS) "_law_order" s__law_order ["deck", "n"] 2 g__law_order := by
  obtain ⟨f, fd, hm, U⟩ := T._law_order
  have S := sc__law_order
  refine gd_mk hm U m__law_order (fnD_ok (k := 1) U S l__law_order fun cdv A fr s H E F0 hg hr => ⟨t__law_order, ?_, fun ds Q h => p__law_order ds Q h⟩)
  exact s_cons (s_par (i := 2) (j := 3) rfl S.nd rfl rfl (by decide) rfl rfl (l_cons (d_listRg1 rfl (d_var 1) T.z_list T.z_range) (l_cons (d_lst (l_nil)) (l_nil))) (by rfl))
          (s_cons (s_for PassesOwn.never rfl (i_range1 (d_var 1) T.z_range) (g_name (i := 4) S.nd rfl (.inl rfl)) (s_one (s_apppop 3 2 (by decide) rfl (by first | exact Or.inl rfl | exact Or.inr (Or.inl rfl) | exact Or.inr (Or.inr rfl)) rfl (by first | exact Or.inl rfl | exact Or.inr (Or.inl rfl) | exact Or.inr (Or.inr rfl)) (d_callG G__law_draw b__law_draw (by decide) hg hr pass0 (l_cons (d_var 0) (l_cons (d_len (l_cons (d_var 2) (l_nil)) T.z_len) (l_nil)))))))
          (s_one (s_ret (d_tupleK (l_cons (d_var 3) (l_nil)) T.z_tuple))))
theorem gd__law_book (T : Top K mg) (G__law_pick : Gd P w K mg base (dkZ P w aD aC aS) "_law_pick" s__law_pick ["deck", "some"] 2 g__law_pick) (G__law_draw : Gd P w K mg base (dkZ P w aD aC aS) "_law_draw" s__law_draw ["deck", "many"] 1 g__law_draw) (G__law_order : Gd P w K mg base (dkZ P w aD aC aS) "_law_order" s__law_order ["deck", "n"] 2 g__law_order) : Gd P w K mg base (dkZ P w aD aC aS) "_law_book" s__law_book ["deck", "n"] 3 g__law_book := by
  obtain ⟨f, fd, hm, U⟩ := T._law_book
  have S := sc__law_book
  refine gd_mk hm U m__law_book (fnD_ok (k := 2) U S l__law_book fun cdv A fr s H E F0 hg hr => ⟨t__law_book, ?_, fun ds Q h => p__law_book ds Q h⟩)
  exact s_cons (s_par (i := 2) (j := 3) rfl S.nd rfl rfl (by decide) rfl rfl (l_cons (d_lst (l_nil)) (l_cons (d_callG G__law_pick b__law_pick (by decide) hg hr pass0 (l_cons (d_var 0) (l_cons (d_tup (l_cons (d_int) (l_cons (d_int) (l_cons (d_sub (d_var 1) (d_int)) (l_cons (d_var 1) (l_cons (d_mul (d_int) (d_var 1)) (l_cons (d_mul (d_int) (d_var 1)) (l_nil)))))))) (l_nil)))) (l_nil))) (by rfl))
          (s_cons (s_for PassesOwn.never rfl (i_range1 (d_var 3) T.z_range) (g_name (i := 4) S.nd rfl (.inl rfl)) (s_one (s_append 2 rfl (by first | exact Or.inl rfl | exact Or.inr (Or.inl rfl) | exact Or.inr (Or.inr rfl)) (d_tup (l_cons (d_callG G__law_draw b__law_draw (by decide) hg hr pass0 (l_cons (d_var 0) (l_cons (d_var 1) (l_nil)))) (l_cons (d_callG G__law_draw b__law_draw (by decide) hg hr pass0 (l_cons (d_var 0) (l_cons (d_var 1) (l_nil)))) (l_nil)))))))
          (s_cons (s_if (b_cmp (op_eqQ hr.units) lk_rel (d_callG G__law_draw b__law_draw (by decide) hg hr pass0 (l_cons (d_var 0) (l_cons (d_int) (l_nil)))) (d_int) (nomark _)) (s_cons (s_set (i := 5) S.nd rfl (.inr rfl) (d_callG G__law_order b__law_order (by decide) hg hr pass0 (l_cons (d_var 0) (l_cons (d_var 1) (l_nil)))))
          (s_one (s_extend 2 rfl (by first | exact Or.inl rfl | exact Or.inr (Or.inl rfl) | exact Or.inr (Or.inr rfl)) (d_lc (own := [("at", 6)]) rfl S.nd (i_range1 (d_sub (d_var 1) (d_int)) T.z_range) (blkOk_by (N := ["deck", "n", "pairs", "many", "turn", "order", "at", "pair"]) (sc := defScope s__law_book) (by decide +kernel)) (by decide) (fun _ _ _ _ _ => g_name (i := 6) S.nd rfl (.inl rfl)) (fun _ _ _ _ _ => ts_one (b_cmp (op_gtQ hr.units) lk_rel (d_callG G__law_draw b__law_draw (by decide) hg hr pass0 (l_cons (d_var 0) (l_cons (d_int) (l_nil)))) (d_int) (nomark _))) (fun _ _ _ _ _ => d_tup (l_cons (d_item (d_var 5) (d_var 6)) (l_cons (d_item (d_var 5) (d_add (d_var 6) (d_int))) (l_nil)))))))) (s_nil))
          (s_one (s_ret (d_tup (l_cons (d_var 1) (l_cons (d_tupleC (l_cons (ST.d_sortSetN hr.units rfl (d_lc (own := [("pair", 7)]) rfl S.nd (i_seqQ (d_var 2)) (blkOk_by (N := ["deck", "n", "pairs", "many", "turn", "order", "at", "pair"]) (sc := defScope s__law_book) (by decide +kernel)) (by decide) (fun _ _ _ _ _ => g_name (i := 7) S.nd rfl (.inl rfl)) (fun _ _ _ _ _ => ts_one (b_cmp (op_neQ hr.units) lk_rel (d_item (d_var 7) (d_int)) (d_item (d_var 7) (d_int)) (nomark _))) (fun _ _ _ _ _ => d_var 7)) T.z_sorted T.z_set) (l_nil)) T.z_tuple) (l_nil))))))))
theorem gd__law_reached (T : Top K mg) : Gd P w K mg base (dkZ P w aD aC aS) "_law_reached" s__law_reached ["n", "pairs"] 1 g__law_reached := by
  obtain ⟨f, fd, hm, U⟩ := T._law_reached
  have S := sc__law_reached
  refine gd_mk hm U m__law_reached (fnD_ok (k := 0) U S l__law_reached fun cdv A fr s H E F0 hg hr => ⟨t__law_reached, ?_, fun ds Q h => p__law_reached ds Q h⟩)
  exact s_cons (s_setLc (i := 2) (own := [("at", 4)]) rfl S.nd rfl rfl (sw_true rfl rfl rfl (by decide +kernel)) (i_range1 (d_var 0) T.z_range) (blkOk_by (N := ["n", "pairs", "steps", "found", "at", "met", "todo", "turn", "near", "a", "b"]) (sc := defScope s__law_reached) (by decide +kernel)) (by decide) (fun _ _ _ _ _ => g_name (i := 4) S.nd rfl (.inr rfl)) (fun _ _ _ _ _ => ts_nil) (fun _ _ _ _ _ => d_lc (own := [("a", 9), ("b", 10)]) rfl S.nd (i_seqQ (d_var 1)) (blkOk_by (by kernel_rfl)) (by decide) (fun _ _ _ _ _ => g_tup rfl (gs_cons (g_name (i := 9) S.nd rfl (.inl rfl)) (gs_cons (g_name (i := 10) S.nd rfl (.inl rfl)) (gs_nil)))) (fun _ _ _ _ _ => ts_one (b_cmp (op_eqQ hr.units) lk_rel (d_var 9) (d_var 4) (nomark _))) (fun _ _ _ _ _ => d_var 10)))
          (s_cons (s_set (i := 3) S.nd rfl (.inl rfl) (d_lst (l_nil)))
          (s_cons (s_for PassesOwn.never rfl (i_range1 (d_var 0) T.z_range) (g_name (i := 4) S.nd rfl (.inl rfl)) (s_cons (s_par (i := 5) (j := 6) rfl S.nd rfl rfl (by decide) rfl rfl (l_cons (d_mul (d_lst (l_cons (d_bl) (l_nil))) (d_var 0)) (l_cons (d_list (l_cons (d_item (d_var 2) (d_var 4)) (l_nil)) T.z_list) (l_nil))) (by rfl))
          (s_cons (s_for PassesOwn.never rfl (i_range1 (d_int) T.z_range) (g_name (i := 7) S.nd rfl (.inl rfl)) (s_cons (s_if (b_cmp (op_eqQ hr.units) lk_rel (d_var 6) (d_lst (l_nil)) (nomark _)) (s_one (s_break)) (s_nil))
          (s_cons (s_pop 8 6 S.nd rfl (.inl rfl) rfl (by first | exact Or.inl rfl | exact Or.inr (Or.inl rfl)))
          (s_one (s_if (b_not (b_val (d_item (d_var 5) (d_var 8)))) (s_cons (s_setIx 5 rfl (by first | exact Or.inl rfl | exact Or.inr (Or.inl rfl)) (d_var 8) (d_bl))
          (s_one (s_extend 6 rfl (by first | exact Or.inl rfl | exact Or.inr (Or.inl rfl) | exact Or.inr (Or.inr rfl)) (d_item (d_var 2) (d_var 8))))) (s_nil))))))
          (s_frz 5 (s_one (s_append 3 rfl (by first | exact Or.inl rfl | exact Or.inr (Or.inl rfl) | exact Or.inr (Or.inr rfl)) (d_var 5)))))))
          (s_one (s_retV 3))))
theorem gd__law_closed (T : Top K mg) (G__law_reached : Gd P w K mg base (dkZ P w aD aC aS) "_law_reached" s__law_reached ["n", "pairs"] 1 g__law_reached) : Gd P w K mg base (dkZ P w aD aC aS) "_law_closed" s__law_closed ["n", "pairs"] 2 g__law_closed := by
  obtain ⟨f, fd, hm, U⟩ := T._law_closed
  have S := sc__law_closed
  refine gd_mk hm U m__law_closed (fnD_ok (k := 1) U S l__law_closed fun cdv A fr s H E F0 hg hr => ⟨t__law_closed, ?_, fun ds Q h => p__law_closed ds Q h⟩)
  exact s_cons (s_unpack (is := [2, 3]) rfl (n_cons S.nd rfl (.inr rfl) (n_cons S.nd rfl (.inl rfl) (n_nil))) (l_cons (d_callG G__law_reached b__law_reached (by decide) hg hr pass0 (l_cons (d_var 0) (l_cons (d_var 1) (l_nil)))) (l_cons (d_lst (l_nil)) (l_nil))))
          (s_cons (s_for PassesOwn.never rfl (i_range1 (d_var 0) T.z_range) (g_name (i := 4) S.nd rfl (.inr rfl)) (s_one (s_extend 3 rfl (by first | exact Or.inl rfl | exact Or.inr (Or.inl rfl) | exact Or.inr (Or.inr rfl)) (d_lc (own := [("b", 5)]) rfl S.nd (i_range1 (d_var 0) T.z_range) (blkOk_by (N := ["n", "pairs", "met", "found", "a", "b"]) (sc := defScope s__law_closed) (by decide +kernel)) (by decide) (fun _ _ _ _ _ => g_name (i := 5) S.nd rfl (.inl rfl)) (fun _ _ _ _ _ => ts_one ((bw_and (b_cmp (op_neQ hr.units) lk_rel (d_var 5) (d_var 4) (nomark _)) (bw_and1 (b_val (d_item (d_item (d_var 2) (d_var 4)) (d_var 5))))).toB)) (fun _ _ _ _ _ => d_tup (l_cons (d_var 4) (l_cons (d_var 5) (l_nil))))))))
          (s_one (s_ret (d_tup (l_cons (d_var 0) (l_cons (d_tupleC (l_cons (d_var 3) (l_nil)) T.z_tuple) (l_nil)))))))
theorem gd__law_led (T : Top K mg) : Gd P w K mg base (dkZ P w aD aC aS) "_law_led" s__law_led ["hill", "order"] 1 g__law_led := by
  obtain ⟨f, fd, hm, U⟩ := T._law_led
  have S := sc__law_led
  refine gd_mk hm U m__law_led (fnD_ok (k := 0) U S l__law_led fun cdv A fr s H E F0 hg hr => ⟨t__law_led, ?_, fun ds Q h => p__law_led ds Q h⟩)
  exact s_one (s_ret (d_tup (l_cons (d_item (d_var 0) (d_int)) (l_cons (d_tupleC (l_cons (d_sorted hr.units (l_cons (d_lc (own := [("a", 2), ("b", 3)]) rfl S.nd (i_seqQ (d_item (d_var 0) (d_int))) (blkOk_by (N := ["hill", "order", "a", "b"]) (sc := defScope s__law_led) (by decide +kernel)) (by decide) (fun _ _ _ _ _ => g_tup rfl (gs_cons (g_name (i := 2) S.nd rfl (.inl rfl)) (gs_cons (g_name (i := 3) S.nd rfl (.inl rfl)) (gs_nil)))) (fun _ _ _ _ _ => ts_nil) (fun _ _ _ _ _ => d_tup (l_cons (d_item (d_var 1) (d_var 2)) (l_cons (d_item (d_var 1) (d_var 3)) (l_nil))))) (l_nil)) T.z_sorted) (l_nil)) T.z_tuple) (l_nil)))))
theorem gd__law_hill (T : Top K mg) (G__law_draw : Gd P w K mg base (dkZ P w aD aC aS) "_law_draw" s__law_draw ["deck", "many"] 1 g__law_draw) (G__law_closed : Gd P w K mg base (dkZ P w aD aC aS) "_law_closed" s__law_closed ["n", "pairs"] 2 g__law_closed) (G__law_led : Gd P w K mg base (dkZ P w aD aC aS) "_law_led" s__law_led ["hill", "order"] 1 g__law_led) (G__law_order : Gd P w K mg base (dkZ P w aD aC aS) "_law_order" s__law_order ["deck", "n"] 2 g__law_order) : Gd P w K mg base (dkZ P w aD aC aS) "_law_hill" s__law_hill ["deck", "n"] 3 g__law_hill := by
  obtain ⟨f, fd, hm, U⟩ := T._law_hill
  have S := sc__law_hill
  refine gd_mk hm U m__law_hill (fnD_ok (k := 2) U S l__law_hill fun cdv A fr s H E F0 hg hr => ⟨t__law_hill, ?_, fun ds Q h => p__law_hill ds Q h⟩)
  exact s_cons (s_par (i := 2) (j := 3) rfl S.nd rfl rfl (by decide) rfl rfl (l_cons (d_callG G__law_draw b__law_draw (by decide) hg hr pass0 (l_cons (d_var 0) (l_cons (d_int) (l_nil)))) (l_cons (d_lst (l_nil)) (l_nil))) (by rfl))
          (s_cons (s_if (b_cmp (op_ltQ hr.units) lk_rel (d_var 2) (d_int) (nomark _)) (s_cons (s_setLc (i := 3) (own := [("turn", 10)]) rfl S.nd rfl rfl (sw_true rfl rfl rfl (by decide +kernel)) (i_range1 (d_callG G__law_draw b__law_draw (by decide) hg hr pass0 (l_cons (d_var 0) (l_cons (d_mul (d_int) (d_var 1)) (l_nil)))) T.z_range) (blkOk_by (N := ["deck", "n", "way", "pairs", "low", "a", "size", "wide", "part", "hill", "turn", "pair", "at", "b"]) (sc := defScope s__law_hill) (by decide +kernel)) (by decide) (fun _ _ _ _ _ => g_name (i := 10) S.nd rfl (.inl rfl)) (fun _ _ _ _ _ => ts_nil) (fun _ _ _ _ _ => d_tup (l_cons (d_callG G__law_draw b__law_draw (by decide) hg hr pass0 (l_cons (d_var 0) (l_cons (d_var 1) (l_nil)))) (l_cons (d_callG G__law_draw b__law_draw (by decide) hg hr pass0 (l_cons (d_var 0) (l_cons (d_var 1) (l_nil)))) (l_nil)))))
          (s_one (s_if (b_cmp (op_eqQ hr.units) lk_rel (d_var 2) (d_int) (nomark _)) (s_one (s_setLc (i := 3) (own := [("pair", 11)]) rfl S.nd rfl rfl (sw_true rfl rfl rfl (by decide +kernel)) (i_seqQ (d_var 3)) (blkOk_by (N := ["deck", "n", "way", "pairs", "low", "a", "size", "wide", "part", "hill", "turn", "pair", "at", "b"]) (sc := defScope s__law_hill) (by decide +kernel)) (by decide) (fun _ _ _ _ _ => g_name (i := 11) S.nd rfl (.inl rfl)) (fun _ _ _ _ _ => ts_nil) (fun _ _ _ _ _ => d_tup (l_cons (d_minT rfl hr.units (l_cons (d_var 11) (l_nil)) T.z_min) (l_cons (d_maxT rfl hr.units (l_cons (d_var 11) (l_nil)) T.z_max) (l_nil)))))) (s_nil)))) (s_one (s_if (b_cmp (op_eqQ hr.units) lk_rel (d_var 2) (d_int) (nomark _)) (s_one (s_setLc (i := 3) (own := [("at", 12)]) rfl S.nd rfl rfl (sw_true rfl rfl rfl (by decide +kernel)) (i_range1 (d_sub (d_var 1) (d_int)) T.z_range) (blkOk_by (N := ["deck", "n", "way", "pairs", "low", "a", "size", "wide", "part", "hill", "turn", "pair", "at", "b"]) (sc := defScope s__law_hill) (by decide +kernel)) (by decide) (fun _ _ _ _ _ => g_name (i := 12) S.nd rfl (.inl rfl)) (fun _ _ _ _ _ => ts_nil) (fun _ _ _ _ _ => d_tup (l_cons (d_var 12) (l_cons (d_add (d_var 12) (d_int)) (l_nil)))))) (s_one (s_if (b_cmp (op_eqQ hr.units) lk_rel (d_var 2) (d_int) (nomark _)) (s_one (s_setLc (i := 3) (own := [("at", 12)]) rfl S.nd rfl rfl (sw_true rfl rfl rfl (by decide +kernel)) (i_range1 (d_sub (d_var 1) (d_int)) T.z_range) (blkOk_by (N := ["deck", "n", "way", "pairs", "low", "a", "size", "wide", "part", "hill", "turn", "pair", "at", "b"]) (sc := defScope s__law_hill) (by decide +kernel)) (by decide) (fun _ _ _ _ _ => g_name (i := 12) S.nd rfl (.inl rfl)) (fun _ _ _ _ _ => ts_one (b_cmp (op_gtQ hr.units) lk_rel (d_callG G__law_draw b__law_draw (by decide) hg hr pass0 (l_cons (d_var 0) (l_cons (d_int) (l_nil)))) (d_int) (nomark _))) (fun _ _ _ _ _ => d_tup (l_cons (d_var 12) (l_cons (d_add (d_add (d_var 12) (d_int)) (d_callG G__law_draw b__law_draw (by decide) hg hr pass0 (l_cons (d_var 0) (l_cons (d_sub (d_sub (d_var 1) (d_var 12)) (d_int)) (l_nil))))) (l_nil)))))) (s_one (s_if (b_cmp (op_eqQ hr.units) lk_rel (d_var 2) (d_int) (nomark _)) (s_cons (s_set (i := 4) S.nd rfl (.inl rfl) (d_add (d_int) (d_callG G__law_draw b__law_draw (by decide) hg hr pass0 (l_cons (d_var 0) (l_cons (d_var 1) (l_nil))))))
          (s_one (s_for PassesOwn.never rfl (i_range1 (d_var 4) T.z_range) (g_name (i := 5) S.nd rfl (.inr rfl)) (s_one (s_extend 3 rfl (by first | exact Or.inl rfl | exact Or.inr (Or.inl rfl) | exact Or.inr (Or.inr rfl)) (d_lc (own := [("b", 13)]) rfl S.nd (i_range2 (d_var 4) (d_var 1) T.z_range) (blkOk_by (N := ["deck", "n", "way", "pairs", "low", "a", "size", "wide", "part", "hill", "turn", "pair", "at", "b"]) (sc := defScope s__law_hill) (by decide +kernel)) (by decide) (fun _ _ _ _ _ => g_name (i := 13) S.nd rfl (.inl rfl)) (fun _ _ _ _ _ => ts_one (b_cmp (op_gtQ hr.units) lk_rel (d_callG G__law_draw b__law_draw (by decide) hg hr pass0 (l_cons (d_var 0) (l_cons (d_int) (l_nil)))) (d_int) (nomark _))) (fun _ _ _ _ _ => d_tup (l_cons (d_var 5) (l_cons (d_var 13) (l_nil)))))))))) (s_one (s_if (b_cmp (op_eqQ hr.units) lk_rel (d_var 2) (d_int) (nomark _)) (s_cons (s_set (i := 6) S.nd rfl (.inr rfl) (d_add (d_int) (d_callG G__law_draw b__law_draw (by decide) hg hr pass0 (l_cons (d_var 0) (l_cons (d_int) (l_nil))))))
          (s_cons (s_setLc (i := 3) (own := [("at", 12)]) rfl S.nd rfl rfl (sw_true rfl rfl rfl (by decide +kernel)) (i_range2 (d_int) (d_var 1) T.z_range) (blkOk_by (N := ["deck", "n", "way", "pairs", "low", "a", "size", "wide", "part", "hill", "turn", "pair", "at", "b"]) (sc := defScope s__law_hill) (by decide +kernel)) (by decide) (fun _ _ _ _ _ => g_name (i := 12) S.nd rfl (.inl rfl)) (fun _ _ _ _ _ => ts_one (b_cmp (op_gtQ hr.units) lk_rel (d_mod (d_intC (l_cons (d_var 12) (l_nil)) T.z_int) (d_add (d_var 6) (d_int))) (d_int) (nomark _))) (fun _ _ _ _ _ => d_tup (l_cons (d_var 12) (l_cons (d_sub (d_var 12) (d_int)) (l_nil)))))
          (s_one (s_extend 3 rfl (by first | exact Or.inl rfl | exact Or.inr (Or.inl rfl) | exact Or.inr (Or.inr rfl)) (d_lc (own := [("at", 12)]) rfl S.nd (i_range2 (d_int) (d_var 1) T.z_range) (blkOk_by (N := ["deck", "n", "way", "pairs", "low", "a", "size", "wide", "part", "hill", "turn", "pair", "at", "b"]) (sc := defScope s__law_hill) (by decide +kernel)) (by decide) (fun _ _ _ _ _ => g_name (i := 12) S.nd rfl (.inl rfl)) (fun _ _ _ _ _ => ts_one (b_cmp (op_gtQ hr.units) lk_rel (d_callG G__law_draw b__law_draw (by decide) hg hr pass0 (l_cons (d_var 0) (l_cons (d_int) (l_nil)))) (d_int) (nomark _))) (fun _ _ _ _ _ => d_tup (l_cons (d_sub (d_var 12) (d_int)) (l_cons (d_var 12) (l_nil))))))))) (s_one (s_if (b_cmp (op_eqQ hr.units) lk_rel (d_var 2) (d_int) (nomark _)) (s_cons (s_set (i := 7) S.nd rfl (.inr rfl) (d_add (d_int) (d_callG G__law_draw b__law_draw (by decide) hg hr pass0 (l_cons (d_var 0) (l_cons (d_int) (l_nil))))))
          (s_one (s_set (i := 3) S.nd rfl (.inl rfl) (d_add (d_lc (own := [("at", 12)]) rfl S.nd (i_range1 (d_sub (d_var 1) (d_int)) T.z_range) (blkOk_by (N := ["deck", "n", "way", "pairs", "low", "a", "size", "wide", "part", "hill", "turn", "pair", "at", "b"]) (sc := defScope s__law_hill) (by decide +kernel)) (by decide) (fun _ _ _ _ _ => g_name (i := 12) S.nd rfl (.inl rfl)) (fun _ _ _ _ _ => ts_one (b_cmp (op_gtQ hr.units) lk_rel (d_mod (d_intC (l_cons (d_add (d_var 12) (d_int)) (l_nil)) T.z_int) (d_var 7)) (d_int) (nomark _))) (fun _ _ _ _ _ => d_tup (l_cons (d_var 12) (l_cons (d_add (d_var 12) (d_int)) (l_nil))))) (d_lc (own := [("at", 12)]) rfl S.nd (i_range1 (d_sub (d_var 1) (d_var 7)) T.z_range) (blkOk_by (N := ["deck", "n", "way", "pairs", "low", "a", "size", "wide", "part", "hill", "turn", "pair", "at", "b"]) (sc := defScope s__law_hill) (by decide +kernel)) (by decide) (fun _ _ _ _ _ => g_name (i := 12) S.nd rfl (.inl rfl)) (fun _ _ _ _ _ => ts_nil) (fun _ _ _ _ _ => d_tup (l_cons (d_var 12) (l_cons (d_add (d_var 12) (d_var 7)) (l_nil))))))))) (s_one (s_if (b_cmp (op_eqQ hr.units) lk_rel (d_var 2) (d_int) (nomark _)) (s_cons (s_set (i := 8) S.nd rfl (.inr rfl) (d_callG G__law_draw b__law_draw (by decide) hg hr pass0 (l_cons (d_var 0) (l_cons (d_add (d_var 1) (d_int)) (l_nil)))))
          (s_one (s_setLc (i := 3) (own := [("at", 12)]) rfl S.nd rfl rfl (sw_true rfl rfl rfl (by decide +kernel)) (i_range1 (d_sub (d_var 1) (d_int)) T.z_range) (blkOk_by (N := ["deck", "n", "way", "pairs", "low", "a", "size", "wide", "part", "hill", "turn", "pair", "at", "b"]) (sc := defScope s__law_hill) (by decide +kernel)) (by decide) (fun _ _ _ _ _ => g_name (i := 12) S.nd rfl (.inl rfl)) (fun _ _ _ _ _ => ts_one (b_cmp (op_neQ hr.units) lk_rel (d_add (d_var 12) (d_int)) (d_var 8) (nomark _))) (fun _ _ _ _ _ => d_tup (l_cons (d_var 12) (l_cons (d_add (d_var 12) (d_int)) (l_nil))))))) (s_nil))))))))))))))
          (s_cons (s_set (i := 9) S.nd rfl (.inl rfl) (d_callG G__law_closed b__law_closed (by decide) hg hr pass0 (l_cons (d_var 1) (l_cons (d_lc (own := [("pair", 11)]) rfl S.nd (i_seqQ (d_var 3)) (blkOk_by (N := ["deck", "n", "way", "pairs", "low", "a", "size", "wide", "part", "hill", "turn", "pair", "at", "b"]) (sc := defScope s__law_hill) (by decide +kernel)) (by decide) (fun _ _ _ _ _ => g_name (i := 11) S.nd rfl (.inl rfl)) (fun _ _ _ _ _ => ts_one (b_cmp (op_neQ hr.units) lk_rel (d_item (d_var 11) (d_int)) (d_item (d_var 11) (d_int)) (nomark _))) (fun _ _ _ _ _ => d_var 11)) (l_nil)))))
          (s_one (s_ret (d_ifExp (b_cmp (op_eqQ hr.units) lk_rel (d_callG G__law_draw b__law_draw (by decide) hg hr pass0 (l_cons (d_var 0) (l_cons (d_int) (l_nil)))) (d_int) (nomark _)) (d_var 9) (d_callG G__law_led b__law_led (by decide) hg hr pass0 (l_cons (d_var 9) (l_cons (d_callG G__law_order b__law_order (by decide) hg hr pass0 (l_cons (d_var 0) (l_cons (d_var 1) (l_nil)))) (l_nil)))))))))
theorem gd_is_integer (T : Top K mg) : Gd P w K mg base (dkZ P w aD aC aS) "is_integer" s_is_integer ["thing"] 1 g_is_integer := by
  obtain ⟨f, fd, hm, U⟩ := T.is_integer
  have S := sc_is_integer
  refine gd_mk hm U m_is_integer (fnD_ok (k := 0) U S l_is_integer fun cdv A fr s H E F0 hg hr => ⟨t_is_integer, ?_, fun ds Q h => p_is_integer ds Q h⟩)
  exact s_one (s_ret (d_and (d_isi isi_int (d_var 0) T.z_isinstance T.z_int (by decide +kernel)) (d_one (d_not (d_isi isi_bool (d_var 0) T.z_isinstance T.z_bool (by decide +kernel))))))
theorem gd_is_between (T : Top K mg) (G_is_integer : Gd P w K mg base (dkZ P w aD aC aS) "is_integer" s_is_integer ["thing"] 1 g_is_integer) : Gd P w K mg base (dkZ P w aD aC aS) "is_between" s_is_between ["thing", "least", "most"] 2 g_is_between := by
  obtain ⟨f, fd, hm, U⟩ := T.is_between
  have S := sc_is_between
  refine gd_mk hm U m_is_between (fnD_ok (k := 1) U S l_is_between fun cdv A fr s H E F0 hg hr => ⟨t_is_between, ?_, fun ds Q h => p_is_between ds Q h⟩)
  exact s_one (s_ret (d_and (d_callG G_is_integer b_is_integer (by decide) hg hr pass0 (l_cons (d_var 0) (l_nil))) (d_one (d_lele hr.units (d_var 1) (d_var 0) (d_var 2)))))
theorem gd_is_pair_of (T : Top K mg) (G_is_between : Gd P w K mg base (dkZ P w aD aC aS) "is_between" s_is_between ["thing", "least", "most"] 2 g_is_between) : Gd P w K mg base (dkZ P w aD aC aS) "is_pair_of" s_is_pair_of ["n", "thing"] 3 g_is_pair_of := by
  obtain ⟨f, fd, hm, U⟩ := T.is_pair_of
  have S := sc_is_pair_of
  refine gd_mk hm U m_is_pair_of (fnD_ok (k := 2) U S l_is_pair_of fun cdv A fr s H E F0 hg hr => ⟨t_is_pair_of, ?_, fun ds Q h => p_is_pair_of ds Q h⟩)
  exact s_cons (s_if ((bw_or (b_not (b_val (d_isi isi_tuple (d_var 1) T.z_isinstance T.z_tuple (by decide +kernel)))) (bw_or1 (b_cmp (op_neQ hr.units) lk_rel (d_len (l_cons (d_var 1) (l_nil)) T.z_len) (d_int) (nomark _)))).toB) (s_one (s_ret (d_bl))) (s_nil))
          (s_one (s_ret (d_and (d_callG G_is_between b_is_between (by decide) hg hr pass0 (l_cons (d_item (d_var 1) (d_int)) (l_cons (d_int) (l_cons (d_sub (d_var 0) (d_int)) (l_nil))))) (d_and (d_callG G_is_between b_is_between (by decide) hg hr pass0 (l_cons (d_item (d_var 1) (d_int)) (l_cons (d_int) (l_cons (d_sub (d_var 0) (d_int)) (l_nil))))) (d_one (d_ne hr.units (d_item (d_var 1) (d_int)) (d_item (d_var 1) (d_int))))))))
theorem gd_is_book_value (T : Top K mg) (G_is_between : Gd P w K mg base (dkZ P w aD aC aS) "is_between" s_is_between ["thing", "least", "most"] 2 g_is_between) (G_is_pair_of : Gd P w K mg base (dkZ P w aD aC aS) "is_pair_of" s_is_pair_of ["n", "thing"] 3 g_is_pair_of) : Gd P w K mg base (dkZ P w aD aC aS) "is_book_value" s_is_book_value ["thing"] 4 g_is_book_value := by
  obtain ⟨f, fd, hm, U⟩ := T.is_book_value
  have S := sc_is_book_value
  refine gd_mk hm U m_is_book_value (fnD_ok (k := 3) U S l_is_book_value fun cdv A fr s H E F0 hg hr => ⟨t_is_book_value, ?_, fun ds Q h => p_is_book_value ds Q h⟩)
  exact s_cons (s_if ((bw_or (b_not (b_val (d_isi isi_tuple (d_var 0) T.z_isinstance T.z_tuple (by decide +kernel)))) (bw_or (b_cmp (op_neQ hr.units) lk_rel (d_len (l_cons (d_var 0) (l_nil)) T.z_len) (d_int) (nomark _)) (bw_or1 (b_not (b_val (d_callG G_is_between b_is_between (by decide) hg hr pass0 (l_cons (d_item (d_var 0) (d_int)) (l_cons (d_int) (l_cons (d_glob (v := .int 10) (d := .int 10) (by rfl) T.c_MOST_TERRACES.choose_spec ⟨_, rfl⟩ (fun _ _ => .int _)) (l_nil)))))))))).toB) (s_one (s_ret (d_bl))) (s_nil))
          (s_cons (s_if ((bw_or (b_not (b_val (d_isi isi_tuple (d_item (d_var 0) (d_int)) T.z_isinstance T.z_tuple (by decide +kernel)))) (bw_or1 (b_not (b_val (d_all rfl (l_cons (d_lc (own := [("pair", 1)]) rfl S.nd (i_seqQ (d_item (d_var 0) (d_int))) (blkOk_by (N := ["thing", "pair", "one", "other"]) (sc := defScope s_is_book_value) (by decide +kernel)) (by decide) (fun _ _ _ _ _ => g_name (i := 1) S.nd rfl (.inl rfl)) (fun _ _ _ _ _ => ts_nil) (fun _ _ _ _ _ => d_callG G_is_pair_of b_is_pair_of (by decide) hg hr pass0 (l_cons (d_item (d_var 0) (d_int)) (l_cons (d_var 1) (l_nil))))) (l_nil)) T.z_all))))).toB) (s_one (s_ret (d_bl))) (s_nil))
          (s_one (s_ret (d_all rfl (l_cons (d_lc (own := [("one", 2), ("other", 3)]) rfl S.nd (i_zip (l_cons (d_item (d_var 0) (d_int)) (l_cons (d_slice (d_item (d_var 0) (d_int)) (o_some (d_int)) (o_none)) (l_nil))) T.z_zip) (blkOk_by (N := ["thing", "pair", "one", "other"]) (sc := defScope s_is_book_value) (by decide +kernel)) (by decide) (fun _ _ _ _ _ => g_tup rfl (gs_cons (g_name (i := 2) S.nd rfl (.inl rfl)) (gs_cons (g_name (i := 3) S.nd rfl (.inl rfl)) (gs_nil)))) (fun _ _ _ _ _ => ts_nil) (fun _ _ _ _ _ => d_lt hr.units (d_var 2) (d_var 3))) (l_nil)) T.z_all))))
theorem gd_need_book (T : Top K mg) (G_is_book_value : Gd P w K mg base (dkZ P w aD aC aS) "is_book_value" s_is_book_value ["thing"] 4 g_is_book_value) : Gd P w K mg base (dkZ P w aD aC aS) "need_book" s_need_book ["book"] 5 g_need_book := by
  obtain ⟨f, fd, hm, U⟩ := T.need_book
  have S := sc_need_book
  refine gd_mk hm U m_need_book (fnD_ok (k := 4) U S l_need_book fun cdv A fr s H E F0 hg hr => ⟨t_need_book, ?_, fun ds Q h => p_need_book ds Q h⟩)
  exact s_one (s_if (b_not (b_val (d_callG G_is_book_value b_is_book_value (by decide) hg hr pass0 (l_cons (d_var 0) (l_nil))))) (s_one (s_never)) (s_nil))
theorem gd_lows (T : Top K mg) : Gd P w K mg base (dkZ P w aD aC aS) "lows" s_lows ["hill"] 1 g_lows := by
  obtain ⟨f, fd, hm, U⟩ := T.lows
  have S := sc_lows
  refine gd_mk hm U m_lows (fnD_ok (k := 0) U S l_lows fun cdv A fr s H E F0 hg hr => ⟨t_lows, ?_, fun ds Q h => p_lows ds Q h⟩)
  exact s_cons (s_setLc (i := 1) (own := [("x", 4)]) rfl S.nd rfl rfl (sw_true rfl rfl rfl (by decide +kernel)) (i_range1 (d_item (d_var 0) (d_int)) T.z_range) (blkOk_by (N := ["hill", "found", "a", "b", "x"]) (sc := defScope s_lows) (by decide +kernel)) (by decide) (fun _ _ _ _ _ => g_name (i := 4) S.nd rfl (.inl rfl)) (fun _ _ _ _ _ => ts_nil) (fun _ _ _ _ _ => d_shl (d_int) (d_var 4)))
          (s_cons (s_for PassesOwn.never rfl (i_seq (d_item (d_var 0) (d_int))) (g_tup rfl (gs_cons (g_name (i := 2) S.nd rfl (.inl rfl)) (gs_cons (g_name (i := 3) S.nd rfl (.inl rfl)) (gs_nil)))) (s_one (s_setIx 1 rfl (by first | exact Or.inl rfl | exact Or.inr (Or.inl rfl)) (d_var 3) (d_bor (d_item (d_var 1) (d_var 3)) (d_shl (d_int) (d_var 2))))))
          (s_one (s_retV 1)))
theorem gd_hill_of_lows (T : Top K mg) : Gd P w K mg base (dkZ P w aD aC aS) "hill_of_lows" s_hill_of_lows ["found"] 1 g_hill_of_lows := by
  obtain ⟨f, fd, hm, U⟩ := T.hill_of_lows
  have S := sc_hill_of_lows
  refine gd_mk hm U m_hill_of_lows (fnD_ok (k := 0) U S l_hill_of_lows fun cdv A fr s H E F0 hg hr => ⟨t_hill_of_lows, ?_, fun ds Q h => p_hill_of_lows ds Q h⟩)
  exact s_cons (s_set (i := 1) S.nd rfl (.inr rfl) (d_len (l_cons (d_var 0) (l_nil)) T.z_len))
          (s_cons (s_setLc2 (i := 2) (own := [("a", 3), ("b", 4)]) (vs1 := [4]) rfl S.nd rfl rfl (sw_true rfl rfl rfl (by decide +kernel)) (i_range1 (d_var 1) T.z_range) (blkOk_by (N := ["found", "n", "pairs", "a", "b"]) (sc := defScope s_hill_of_lows) (by decide +kernel)) (by decide) (by decide) (by decide) (fun _ _ _ _ _ => g_name (i := 3) S.nd rfl (.inl rfl)) (fun _ _ _ _ _ => ts_nil) (fun _ _ _ _ _ => i_range1 (d_var 1) T.z_range) (fun _ _ _ _ _ => g_name (i := 4) S.nd rfl (.inl rfl)) (fun _ _ _ _ _ => ts_one ((bw_and (b_cmp (op_neQ hr.units) lk_rel (d_var 3) (d_var 4) (nomark _)) (bw_and1 (b_cmp (op_eqQ hr.units) lk_rel (d_band (d_shr (d_item (d_var 0) (d_var 4)) (d_var 3)) (d_int)) (d_int) (nomark _)))).toB)) (fun _ _ _ _ _ => d_tup (l_cons (d_var 3) (l_cons (d_var 4) (l_nil)))))
          (s_one (s_ret (d_tup (l_cons (d_var 1) (l_cons (d_tupleC (l_cons (d_var 2) (l_nil)) T.z_tuple) (l_nil)))))))
theorem gd_closing_of (T : Top K mg) (G_lows : Gd P w K mg base (dkZ P w aD aC aS) "lows" s_lows ["hill"] 1 g_lows) (G_hill_of_lows : Gd P w K mg base (dkZ P w aD aC aS) "hill_of_lows" s_hill_of_lows ["found"] 1 g_hill_of_lows) : Gd P w K mg base (dkZ P w aD aC aS) "closing_of" s_closing_of ["book"] 2 g_closing_of := by
  obtain ⟨f, fd, hm, U⟩ := T.closing_of
  have S := sc_closing_of
  refine gd_mk hm U m_closing_of (fnD_ok (k := 1) U S l_closing_of fun cdv A fr s H E F0 hg hr => ⟨t_closing_of, ?_, fun ds Q h => p_closing_of ds Q h⟩)
  exact s_cons (s_set (i := 1) S.nd rfl (.inl rfl) (d_callG G_lows b_lows (by decide) hg hr pass0 (l_cons (d_var 0) (l_nil))))
          (s_cons (s_for PassesOwn.never rfl (i_range1 (d_item (d_var 0) (d_int)) T.z_range) (g_name (i := 2) S.nd rfl (.inl rfl)) (s_one (s_for PassesOwn.never rfl (i_range1 (d_item (d_var 0) (d_int)) T.z_range) (g_name (i := 3) S.nd rfl (.inl rfl)) (s_one (s_if (b_cmp (op_eqQ hr.units) lk_rel (d_band (d_shr (d_item (d_var 1) (d_var 3)) (d_var 2)) (d_int)) (d_int) (nomark _)) (s_one (s_setIx 1 rfl (by first | exact Or.inl rfl | exact Or.inr (Or.inl rfl)) (d_var 3) (d_bor (d_item (d_var 1) (d_var 3)) (d_item (d_var 1) (d_var 2))))) (s_nil))))))
          (s_frz 1 (s_one (s_ret (d_callG G_hill_of_lows b_hill_of_lows (by decide) hg hr pass0 (l_cons (d_var 1) (l_nil)))))))
theorem gd_closing (T : Top K mg) (G_need_book : Gd P w K mg base (dkZ P w aD aC aS) "need_book" s_need_book ["book"] 5 g_need_book) (G_closing_of : Gd P w K mg base (dkZ P w aD aC aS) "closing_of" s_closing_of ["book"] 2 g_closing_of) : Gd P w K mg base (dkZ P w aD aC aS) "closing" s_closing ["book"] 6 g_closing := by
  obtain ⟨f, fd, hm, U⟩ := T.closing
  have S := sc_closing
  refine gd_mk hm U m_closing (fnD_ok (k := 5) U S l_closing fun cdv A fr s H E F0 hg hr => ⟨t_closing, ?_, fun ds Q h => p_closing ds Q h⟩)
  exact s_cons (s_expr (d_callG G_need_book b_need_book (by decide) hg hr pass0 (l_cons (d_var 0) (l_nil))))
          (s_one (s_ret (d_callG G_closing_of b_closing_of (by decide) hg hr pass0 (l_cons (d_var 0) (l_nil)))))
theorem gd__law_are_ponds (T : Top K mg) : Gd P w K mg base (dkZ P w aD aC aS) "_law_are_ponds" s__law_are_ponds ["hill", "met", "told"] 1 g__law_are_ponds := by
  obtain ⟨f, fd, hm, U⟩ := T._law_are_ponds
  have S := sc__law_are_ponds
  refine gd_mk hm U m__law_are_ponds (fnD_ok (k := 0) U S l__law_are_ponds fun cdv A fr s H E F0 hg hr => ⟨t__law_are_ponds, ?_, fun ds Q h => p__law_are_ponds ds Q h⟩)
  exact s_cons (s_set (i := 3) S.nd rfl (.inl rfl) (d_dit0 ⟨rfl, rfl⟩))
          (s_cons (s_for PassesOwn.never rfl (i_range1 (d_item (d_var 0) (d_int)) T.z_range) (g_name (i := 4) S.nd rfl (.inr rfl)) (s_one (s_setT 3 ⟨rfl, rfl⟩ hr.units rfl (by first | exact Or.inl rfl | exact Or.inr (Or.inl rfl)) (d_tupleC (l_cons (d_lc (own := [("y", 5)]) rfl S.nd (i_range1 (d_item (d_var 0) (d_int)) T.z_range) (blkOk_by (N := ["hill", "met", "told", "due", "x", "y"]) (sc := defScope s__law_are_ponds) (by decide +kernel)) (by decide) (fun _ _ _ _ _ => g_name (i := 5) S.nd rfl (.inl rfl)) (fun _ _ _ _ _ => ts_one ((bw_or (b_cmp (op_eqQ hr.units) lk_rel (d_var 5) (d_var 4) (nomark _)) (bw_or1 ((bw_and (b_val (d_item (d_item (d_var 1) (d_var 4)) (d_var 5))) (bw_and1 (b_val (d_item (d_item (d_var 1) (d_var 5)) (d_var 4))))).toB))).toB)) (fun _ _ _ _ _ => d_var 5)) (l_nil)) T.z_tuple) (d_bl))))
          (s_one (s_ret (d_eq hr.units (d_repr hr.units hg (l_cons (d_var 2) (l_nil)) T.z_repr) (d_repr hr.units hg (l_cons (d_tupleC (l_cons (d_sortDT 3 hr.units rfl ⟨rfl, rfl⟩ T.z_sorted) (l_nil)) T.z_tuple) (l_nil)) T.z_repr)))))
theorem gd_is_hill_value (T : Top K mg) (G_is_book_value : Gd P w K mg base (dkZ P w aD aC aS) "is_book_value" s_is_book_value ["thing"] 4 g_is_book_value) (G_closing_of : Gd P w K mg base (dkZ P w aD aC aS) "closing_of" s_closing_of ["book"] 2 g_closing_of) : Gd P w K mg base (dkZ P w aD aC aS) "is_hill_value" s_is_hill_value ["thing"] 5 g_is_hill_value := by
  obtain ⟨f, fd, hm, U⟩ := T.is_hill_value
  have S := sc_is_hill_value
  refine gd_mk hm U m_is_hill_value (fnD_ok (k := 4) U S l_is_hill_value fun cdv A fr s H E F0 hg hr => ⟨t_is_hill_value, ?_, fun ds Q h => p_is_hill_value ds Q h⟩)
  exact s_one (s_ret (d_and (d_callG G_is_book_value b_is_book_value (by decide) hg hr pass0 (l_cons (d_var 0) (l_nil))) (d_one (d_eq hr.units (d_callG G_closing_of b_closing_of (by decide) hg hr pass0 (l_cons (d_var 0) (l_nil))) (d_var 0)))))
theorem gd_is_hill (T : Top K mg) (G_is_hill_value : Gd P w K mg base (dkZ P w aD aC aS) "is_hill_value" s_is_hill_value ["thing"] 5 g_is_hill_value) : Gd P w K mg base (dkZ P w aD aC aS) "is_hill" s_is_hill ["thing"] 6 g_is_hill := by
  obtain ⟨f, fd, hm, U⟩ := T.is_hill
  have S := sc_is_hill
  refine gd_mk hm U m_is_hill (fnD_ok (k := 5) U S l_is_hill fun cdv A fr s H E F0 hg hr => ⟨t_is_hill, ?_, fun ds Q h => p_is_hill ds Q h⟩)
  exact s_one (s_ret (d_callG G_is_hill_value b_is_hill_value (by decide) hg hr pass0 (l_cons (d_var 0) (l_nil))))
theorem gd_need_hill (T : Top K mg) (G_is_hill_value : Gd P w K mg base (dkZ P w aD aC aS) "is_hill_value" s_is_hill_value ["thing"] 5 g_is_hill_value) : Gd P w K mg base (dkZ P w aD aC aS) "need_hill" s_need_hill ["hill"] 6 g_need_hill := by
  obtain ⟨f, fd, hm, U⟩ := T.need_hill
  have S := sc_need_hill
  refine gd_mk hm U m_need_hill (fnD_ok (k := 5) U S l_need_hill fun cdv A fr s H E F0 hg hr => ⟨t_need_hill, ?_, fun ds Q h => p_need_hill ds Q h⟩)
  exact s_one (s_if (b_not (b_val (d_callG G_is_hill_value b_is_hill_value (by decide) hg hr pass0 (l_cons (d_var 0) (l_nil))))) (s_one (s_never)) (s_nil))
theorem gd_highs (T : Top K mg) : Gd P w K mg base (dkZ P w aD aC aS) "highs" s_highs ["hill"] 1 g_highs := by
  obtain ⟨f, fd, hm, U⟩ := T.highs
  have S := sc_highs
  refine gd_mk hm U m_highs (fnD_ok (k := 0) U S l_highs fun cdv A fr s H E F0 hg hr => ⟨t_highs, ?_, fun ds Q h => p_highs ds Q h⟩)
  exact s_cons (s_setLc (i := 1) (own := [("x", 4)]) rfl S.nd rfl rfl (sw_true rfl rfl rfl (by decide +kernel)) (i_range1 (d_item (d_var 0) (d_int)) T.z_range) (blkOk_by (N := ["hill", "found", "a", "b", "x"]) (sc := defScope s_highs) (by decide +kernel)) (by decide) (fun _ _ _ _ _ => g_name (i := 4) S.nd rfl (.inl rfl)) (fun _ _ _ _ _ => ts_nil) (fun _ _ _ _ _ => d_shl (d_int) (d_var 4)))
          (s_cons (s_for PassesOwn.never rfl (i_seq (d_item (d_var 0) (d_int))) (g_tup rfl (gs_cons (g_name (i := 2) S.nd rfl (.inl rfl)) (gs_cons (g_name (i := 3) S.nd rfl (.inl rfl)) (gs_nil)))) (s_one (s_setIx 1 rfl (by first | exact Or.inl rfl | exact Or.inr (Or.inl rfl)) (d_var 2) (d_bor (d_item (d_var 1) (d_var 2)) (d_shl (d_int) (d_var 3))))))
          (s_one (s_retV 1)))
theorem gd_lot_of (T : Top K mg) : Gd P w K mg base (dkZ P w aD aC aS) "lot_of" s_lot_of ["mask"] 1 g_lot_of := by
  obtain ⟨f, fd, hm, U⟩ := T.lot_of
  have S := sc_lot_of
  refine gd_mk hm U m_lot_of (fnD_ok (k := 0) U S l_lot_of fun cdv A fr s H E F0 hg hr => ⟨t_lot_of, ?_, fun ds Q h => p_lot_of ds Q h⟩)
  exact s_one (s_ret (d_tupleC (l_cons (d_lc (own := [("x", 1)]) rfl S.nd (i_range1 (d_bits (d_var 0)) T.z_range) (blkOk_by (N := ["mask", "x"]) (sc := defScope s_lot_of) (by decide +kernel)) (by decide) (fun _ _ _ _ _ => g_name (i := 1) S.nd rfl (.inl rfl)) (fun _ _ _ _ _ => ts_one (b_cmp (op_eqQ hr.units) lk_rel (d_band (d_shr (d_var 0) (d_var 1)) (d_int)) (d_int) (nomark _))) (fun _ _ _ _ _ => d_var 1)) (l_nil)) T.z_tuple))
theorem gd_ponds (T : Top K mg) (G_need_hill : Gd P w K mg base (dkZ P w aD aC aS) "need_hill" s_need_hill ["hill"] 6 g_need_hill) (G_lows : Gd P w K mg base (dkZ P w aD aC aS) "lows" s_lows ["hill"] 1 g_lows) (G_highs : Gd P w K mg base (dkZ P w aD aC aS) "highs" s_highs ["hill"] 1 g_highs) (G_lot_of : Gd P w K mg base (dkZ P w aD aC aS) "lot_of" s_lot_of ["mask"] 1 g_lot_of) : Gd P w K mg base (dkZ P w aD aC aS) "ponds" s_ponds ["hill"] 7 g_ponds := by
  obtain ⟨f, fd, hm, U⟩ := T.ponds
  have S := sc_ponds
  refine gd_mk hm U m_ponds (fnD_ok (k := 6) U S l_ponds fun cdv A fr s H E F0 hg hr => ⟨t_ponds, ?_, fun ds Q h => p_ponds ds Q h⟩)
  exact s_cons (s_expr (d_callG G_need_hill b_need_hill (by decide) hg hr pass0 (l_cons (d_var 0) (l_nil))))
          (s_cons (s_unpack (is := [1, 2]) rfl (n_cons S.nd rfl (.inr rfl) (n_cons S.nd rfl (.inr rfl) (n_nil))) (l_cons (d_callG G_lows b_lows (by decide) hg hr pass0 (l_cons (d_var 0) (l_nil))) (l_cons (d_callG G_highs b_highs (by decide) hg hr pass0 (l_cons (d_var 0) (l_nil))) (l_nil))))
          (s_one (s_ret (d_tupleC (l_cons (d_sortedDC (own := [("x", 3)]) hr.units rfl S.nd (i_range1 (d_item (d_var 0) (d_int)) T.z_range) (blkOk_by (N := ["hill", "below", "above", "x"]) (sc := defScope s_ponds) (by decide +kernel)) (by decide) (fun _ _ _ _ _ => g_name (i := 3) S.nd rfl (.inl rfl)) (fun _ _ _ _ _ => ts_nil) (fun _ _ _ _ _ => d_callG G_lot_of b_lot_of (by decide) hg hr pass0 (l_cons (d_band (d_item (d_var 1) (d_var 3)) (d_item (d_var 2) (d_var 3))) (l_nil))) (fun _ _ _ _ _ => d_bl) T.z_sorted) (l_nil)) T.z_tuple))))
theorem gd_is_book (T : Top K mg) (G_is_book_value : Gd P w K mg base (dkZ P w aD aC aS) "is_book_value" s_is_book_value ["thing"] 4 g_is_book_value) : Gd P w K mg base (dkZ P w aD aC aS) "is_book" s_is_book ["thing"] 5 g_is_book := by
  obtain ⟨f, fd, hm, U⟩ := T.is_book
  have S := sc_is_book
  refine gd_mk hm U m_is_book (fnD_ok (k := 4) U S l_is_book fun cdv A fr s H E F0 hg hr => ⟨t_is_book, ?_, fun ds Q h => p_is_book ds Q h⟩)
  exact s_one (s_ret (d_callG G_is_book_value b_is_book_value (by decide) hg hr pass0 (l_cons (d_var 0) (l_nil))))
theorem gd__law_is_closed_right (T : Top K mg) (G__law_reached : Gd P w K mg base (dkZ P w aD aC aS) "_law_reached" s__law_reached ["n", "pairs"] 1 g__law_reached) (G_closing : Gd P w K mg base (dkZ P w aD aC aS) "closing" s_closing ["book"] 6 g_closing) (G_is_hill : Gd P w K mg base (dkZ P w aD aC aS) "is_hill" s_is_hill ["thing"] 6 g_is_hill) (G__law_are_ponds : Gd P w K mg base (dkZ P w aD aC aS) "_law_are_ponds" s__law_are_ponds ["hill", "met", "told"] 1 g__law_are_ponds) (G_ponds : Gd P w K mg base (dkZ P w aD aC aS) "ponds" s_ponds ["hill"] 7 g_ponds) (G__law_pick : Gd P w K mg base (dkZ P w aD aC aS) "_law_pick" s__law_pick ["deck", "some"] 2 g__law_pick) (G_is_book : Gd P w K mg base (dkZ P w aD aC aS) "is_book" s_is_book ["thing"] 5 g_is_book) (G__law_draw : Gd P w K mg base (dkZ P w aD aC aS) "_law_draw" s__law_draw ["deck", "many"] 1 g__law_draw) : Gd P w K mg base (dkZ P w aD aC aS) "_law_is_closed_right" s__law_is_closed_right ["deck", "book"] 8 g__law_is_closed_right := by
  obtain ⟨f, fd, hm, U⟩ := T._law_is_closed_right
  have S := sc__law_is_closed_right
  refine gd_mk hm U m__law_is_closed_right (fnD_ok (k := 7) U S l__law_is_closed_right fun cdv A fr s H E F0 hg hr => ⟨t__law_is_closed_right, ?_, fun ds Q h => p__law_is_closed_right ds Q h⟩)
  exact s_cons (s_unpack (is := [2, 3, 4]) rfl (n_cons S.nd rfl (.inl rfl) (n_cons S.nd rfl (.inr rfl) (n_cons S.nd rfl (.inr rfl) (n_nil)))) (l_cons (d_item (d_var 1) (d_int)) (l_cons (d_callG G__law_reached b__law_reached (by decide) hg hr pass0 (l_cons (d_item (d_var 1) (d_int)) (l_cons (d_item (d_var 1) (d_int)) (l_nil)))) (l_cons (d_callG G_closing b_closing (by decide) hg hr pass0 (l_cons (d_var 1) (l_nil))) (l_nil)))))
          (s_cons (s_set (i := 5) S.nd rfl (.inl rfl) (d_lst (l_nil)))
          (s_cons (s_for PassesOwn.never rfl (i_range1 (d_var 2) T.z_range) (g_name (i := 6) S.nd rfl (.inr rfl)) (s_one (s_extend 5 rfl (by first | exact Or.inl rfl | exact Or.inr (Or.inl rfl) | exact Or.inr (Or.inr rfl)) (d_lc (own := [("b", 9)]) rfl S.nd (i_range1 (d_var 2) T.z_range) (blkOk_by (N := ["deck", "book", "n", "met", "told", "due", "a", "more", "less", "b", "pair"]) (sc := defScope s__law_is_closed_right) (by decide +kernel)) (by decide) (fun _ _ _ _ _ => g_name (i := 9) S.nd rfl (.inl rfl)) (fun _ _ _ _ _ => ts_one ((bw_and (b_cmp (op_neQ hr.units) lk_rel (d_var 6) (d_var 9) (nomark _)) (bw_and1 (b_val (d_item (d_item (d_var 3) (d_var 6)) (d_var 9))))).toB)) (fun _ _ _ _ _ => d_tup (l_cons (d_var 6) (l_cons (d_var 9) (l_nil))))))))
          (s_cons (s_if (b_cmp (op_neQ hr.units) lk_rel (d_repr hr.units hg (l_cons (d_tup (l_cons (d_var 4) (l_cons (d_callGK [0] G_closing bk_closing_book (by decide) (by decide) hg hr pass0 (k_cons (d_var 1) (k_nil))) (l_nil)))) (l_nil)) T.z_repr) (d_repr hr.units hg (l_cons (d_mul (d_tup (l_cons (d_tup (l_cons (d_var 2) (l_cons (d_tupleC (l_cons (d_var 5) (l_nil)) T.z_tuple) (l_nil)))) (l_nil))) (d_int)) (l_nil)) T.z_repr) (nomark _)) (s_one (s_ret (d_bl))) (s_nil))
          (s_cons (s_if ((bw_or (b_cmp op_isNotQ lk_rel (d_callG G_is_hill b_is_hill (by decide) hg hr pass0 (l_cons (d_var 4) (l_nil))) (d_bl) (nomark _)) (bw_or (b_cmp (op_neQ hr.units) lk_rel (d_repr hr.units hg (l_cons (d_callG G_closing b_closing (by decide) hg hr pass0 (l_cons (d_var 4) (l_nil))) (l_nil)) T.z_repr) (d_repr hr.units hg (l_cons (d_var 4) (l_nil)) T.z_repr) (nomark _)) (bw_or1 (b_cmp (op_neQ hr.units) lk_rel (d_callG G_is_hill b_is_hill (by decide) hg hr pass0 (l_cons (d_var 1) (l_nil))) (d_eq hr.units (d_repr hr.units hg (l_cons (d_var 4) (l_nil)) T.z_repr) (d_repr hr.units hg (l_cons (d_var 1) (l_nil)) T.z_repr)) (nomark _))))).toB) (s_one (s_ret (d_bl))) (s_nil))
          (s_frz 3 (s_cons (s_if (b_not (b_val (d_callG G__law_are_ponds b__law_are_ponds (by decide) hg hr pass0 (l_cons (d_var 4) (l_cons (d_var 3) (l_cons (d_callG G_ponds b_ponds (by decide) hg hr pass0 (l_cons (d_var 4) (l_nil))) (l_nil))))))) (s_one (s_ret (d_bl))) (s_nil))
          (s_cons (s_if (b_cmp (op_neQ hr.units) lk_rel (d_var 5) (d_lst (l_nil)) (nomark _)) (s_frz 5 (s_cons (s_set (i := 7) S.nd rfl (.inl rfl) (d_tup (l_cons (d_var 2) (l_cons (d_tupleC (l_cons (ST.d_sortSetN hr.units rfl (d_add (d_item (d_var 1) (d_int)) (d_tup (l_cons (d_callG G__law_pick b__law_pick (by decide) hg hr pass0 (l_cons (d_var 0) (l_cons (d_var 5) (l_nil)))) (l_nil)))) T.z_sorted T.z_set) (l_nil)) T.z_tuple) (l_nil)))))
          (s_one (s_if ((bw_or (b_cmp op_isNotQ lk_rel (d_callG G_is_book b_is_book (by decide) hg hr pass0 (l_cons (d_var 7) (l_nil))) (d_bl) (nomark _)) (bw_or1 (b_cmp (op_neQ hr.units) lk_rel (d_repr hr.units hg (l_cons (d_callG G_closing b_closing (by decide) hg hr pass0 (l_cons (d_var 7) (l_nil))) (l_nil)) T.z_repr) (d_repr hr.units hg (l_cons (d_var 4) (l_nil)) T.z_repr) (nomark _)))).toB) (s_one (s_ret (d_bl))) (s_nil))))) (s_nil))
          (s_cons (s_set (i := 8) S.nd rfl (.inl rfl) (d_tup (l_cons (d_var 2) (l_cons (d_tupleC (l_cons (d_lc (own := [("pair", 10)]) rfl S.nd (i_seqQ (d_item (d_var 1) (d_int))) (blkOk_by (N := ["deck", "book", "n", "met", "told", "due", "a", "more", "less", "b", "pair"]) (sc := defScope s__law_is_closed_right) (by decide +kernel)) (by decide) (fun _ _ _ _ _ => g_name (i := 10) S.nd rfl (.inl rfl)) (fun _ _ _ _ _ => ts_one (b_cmp (op_gtQ hr.units) lk_rel (d_callG G__law_draw b__law_draw (by decide) hg hr pass0 (l_cons (d_var 0) (l_cons (d_int) (l_nil)))) (d_int) (nomark _))) (fun _ _ _ _ _ => d_var 10)) (l_nil)) T.z_tuple) (l_nil)))))
          (s_one (s_ret (d_eq hr.units (d_lc (own := [("pair", 10)]) rfl S.nd (i_seqQ (d_item (d_callG G_closing b_closing (by decide) hg hr pass0 (l_cons (d_var 8) (l_nil))) (d_int))) (blkOk_by (N := ["deck", "book", "n", "met", "told", "due", "a", "more", "less", "b", "pair"]) (sc := defScope s__law_is_closed_right) (by decide +kernel)) (by decide) (fun _ _ _ _ _ => g_name (i := 10) S.nd rfl (.inl rfl)) (fun _ _ _ _ _ => ts_one (b_cmp (op_notInQ hr.units) lk_rel (d_var 10) (d_item (d_var 4) (d_int)) (by rfl))) (fun _ _ _ _ _ => d_var 10)) (d_lst (l_nil)))))))))))))
theorem gd_is_renaming (T : Top K mg) (G_is_integer : Gd P w K mg base (dkZ P w aD aC aS) "is_integer" s_is_integer ["thing"] 1 g_is_integer) : Gd P w K mg base (dkZ P w aD aC aS) "is_renaming" s_is_renaming ["n", "thing"] 2 g_is_renaming := by
  obtain ⟨f, fd, hm, U⟩ := T.is_renaming
  have S := sc_is_renaming
  refine gd_mk hm U m_is_renaming (fnD_ok (k := 1) U S l_is_renaming fun cdv A fr s H E F0 hg hr => ⟨t_is_renaming, ?_, fun ds Q h => p_is_renaming ds Q h⟩)
  exact s_cons (s_if ((bw_or (b_not (b_val (d_isi isi_tuple (d_var 1) T.z_isinstance T.z_tuple (by decide +kernel)))) (bw_or (b_cmp (op_neQ hr.units) lk_rel (d_len (l_cons (d_var 1) (l_nil)) T.z_len) (d_var 0) (nomark _)) (bw_or1 (b_not (b_val (d_all rfl (l_cons (d_lc (own := [("item", 2)]) rfl S.nd (i_seqQ (d_var 1)) (blkOk_by (N := ["n", "thing", "item"]) (sc := defScope s_is_renaming) (by decide +kernel)) (by decide) (fun _ _ _ _ _ => g_name (i := 2) S.nd rfl (.inl rfl)) (fun _ _ _ _ _ => ts_nil) (fun _ _ _ _ _ => d_callG G_is_integer b_is_integer (by decide) hg hr pass0 (l_cons (d_var 2) (l_nil)))) (l_nil)) T.z_all)))))).toB) (s_one (s_ret (d_bl))) (s_nil))
          (s_one (s_ret (d_eq hr.units (d_sorted hr.units (l_cons (d_var 1) (l_nil)) T.z_sorted) (d_listRg1 rfl (d_var 0) T.z_list T.z_range))))
theorem gd_led_hill (T : Top K mg) (G_need_hill : Gd P w K mg base (dkZ P w aD aC aS) "need_hill" s_need_hill ["hill"] 6 g_need_hill) (G_is_renaming : Gd P w K mg base (dkZ P w aD aC aS) "is_renaming" s_is_renaming ["n", "thing"] 2 g_is_renaming) : Gd P w K mg base (dkZ P w aD aC aS) "led_hill" s_led_hill ["hill", "names"] 7 g_led_hill := by
  obtain ⟨f, fd, hm, U⟩ := T.led_hill
  have S := sc_led_hill
  refine gd_mk hm U m_led_hill (fnD_ok (k := 6) U S l_led_hill fun cdv A fr s H E F0 hg hr => ⟨t_led_hill, ?_, fun ds Q h => p_led_hill ds Q h⟩)
  exact s_cons (s_expr (d_callG G_need_hill b_need_hill (by decide) hg hr pass0 (l_cons (d_var 0) (l_nil))))
          (s_cons (s_if (b_not (b_val (d_callG G_is_renaming b_is_renaming (by decide) hg hr pass0 (l_cons (d_item (d_var 0) (d_int)) (l_cons (d_var 1) (l_nil)))))) (s_one (s_never)) (s_nil))
          (s_one (s_ret (d_tup (l_cons (d_item (d_var 0) (d_int)) (l_cons (d_tupleC (l_cons (d_sorted hr.units (l_cons (d_lc (own := [("a", 2), ("b", 3)]) rfl S.nd (i_seqQ (d_item (d_var 0) (d_int))) (blkOk_by (N := ["hill", "names", "a", "b"]) (sc := defScope s_led_hill) (by decide +kernel)) (by decide) (fun _ _ _ _ _ => g_tup rfl (gs_cons (g_name (i := 2) S.nd rfl (.inl rfl)) (gs_cons (g_name (i := 3) S.nd rfl (.inl rfl)) (gs_nil)))) (fun _ _ _ _ _ => ts_nil) (fun _ _ _ _ _ => d_tup (l_cons (d_item (d_var 1) (d_var 2)) (l_cons (d_item (d_var 1) (d_var 3)) (l_nil))))) (l_nil)) T.z_sorted) (l_nil)) T.z_tuple) (l_nil)))))))
theorem gd_mirror (T : Top K mg) (G_need_hill : Gd P w K mg base (dkZ P w aD aC aS) "need_hill" s_need_hill ["hill"] 6 g_need_hill) : Gd P w K mg base (dkZ P w aD aC aS) "mirror" s_mirror ["hill"] 7 g_mirror := by
  obtain ⟨f, fd, hm, U⟩ := T.mirror
  have S := sc_mirror
  refine gd_mk hm U m_mirror (fnD_ok (k := 6) U S l_mirror fun cdv A fr s H E F0 hg hr => ⟨t_mirror, ?_, fun ds Q h => p_mirror ds Q h⟩)
  exact s_cons (s_expr (d_callG G_need_hill b_need_hill (by decide) hg hr pass0 (l_cons (d_var 0) (l_nil))))
          (s_one (s_ret (d_tup (l_cons (d_item (d_var 0) (d_int)) (l_cons (d_tupleC (l_cons (d_sorted hr.units (l_cons (d_lc (own := [("a", 1), ("b", 2)]) rfl S.nd (i_seqQ (d_item (d_var 0) (d_int))) (blkOk_by (N := ["hill", "a", "b"]) (sc := defScope s_mirror) (by decide +kernel)) (by decide) (fun _ _ _ _ _ => g_tup rfl (gs_cons (g_name (i := 1) S.nd rfl (.inl rfl)) (gs_cons (g_name (i := 2) S.nd rfl (.inl rfl)) (gs_nil)))) (fun _ _ _ _ _ => ts_nil) (fun _ _ _ _ _ => d_tup (l_cons (d_var 2) (l_cons (d_var 1) (l_nil))))) (l_nil)) T.z_sorted) (l_nil)) T.z_tuple) (l_nil))))))
theorem gd__law_goes_along (T : Top K mg) (G__law_order : Gd P w K mg base (dkZ P w aD aC aS) "_law_order" s__law_order ["deck", "n"] 2 g__law_order) (G_closing : Gd P w K mg base (dkZ P w aD aC aS) "closing" s_closing ["book"] 6 g_closing) (G_led_hill : Gd P w K mg base (dkZ P w aD aC aS) "led_hill" s_led_hill ["hill", "names"] 7 g_led_hill) (G_mirror : Gd P w K mg base (dkZ P w aD aC aS) "mirror" s_mirror ["hill"] 7 g_mirror) : Gd P w K mg base (dkZ P w aD aC aS) "_law_goes_along" s__law_goes_along ["deck", "book"] 8 g__law_goes_along := by
  obtain ⟨f, fd, hm, U⟩ := T._law_goes_along
  have S := sc__law_goes_along
  refine gd_mk hm U m__law_goes_along (fnD_ok (k := 7) U S l__law_goes_along fun cdv A fr s H E F0 hg hr => ⟨t__law_goes_along, ?_, fun ds Q h => p__law_goes_along ds Q h⟩)
  exact s_cons (s_unpack (is := [2, 3]) rfl (n_cons S.nd rfl (.inl rfl) (n_cons S.nd rfl (.inr rfl) (n_nil))) (l_cons (d_item (d_var 1) (d_int)) (l_cons (d_callG G__law_order b__law_order (by decide) hg hr pass0 (l_cons (d_var 0) (l_cons (d_item (d_var 1) (d_int)) (l_nil)))) (l_nil))))
          (s_cons (s_set (i := 4) S.nd rfl (.inl rfl) (d_tup (l_cons (d_var 2) (l_cons (d_tupleC (l_cons (d_sorted hr.units (l_cons (d_lc (own := [("a", 6), ("b", 7)]) rfl S.nd (i_seqQ (d_item (d_var 1) (d_int))) (blkOk_by (N := ["deck", "book", "n", "order", "led", "turned", "a", "b"]) (sc := defScope s__law_goes_along) (by decide +kernel)) (by decide) (fun _ _ _ _ _ => g_tup rfl (gs_cons (g_name (i := 6) S.nd rfl (.inl rfl)) (gs_cons (g_name (i := 7) S.nd rfl (.inl rfl)) (gs_nil)))) (fun _ _ _ _ _ => ts_nil) (fun _ _ _ _ _ => d_tup (l_cons (d_item (d_var 3) (d_var 6)) (l_cons (d_item (d_var 3) (d_var 7)) (l_nil))))) (l_nil)) T.z_sorted) (l_nil)) T.z_tuple) (l_nil)))))
          (s_cons (s_if (b_cmp (op_neQ hr.units) lk_rel (d_repr hr.units hg (l_cons (d_callG G_closing b_closing (by decide) hg hr pass0 (l_cons (d_var 4) (l_nil))) (l_nil)) T.z_repr) (d_repr hr.units hg (l_cons (d_callG G_led_hill b_led_hill (by decide) hg hr pass0 (l_cons (d_callG G_closing b_closing (by decide) hg hr pass0 (l_cons (d_var 1) (l_nil))) (l_cons (d_var 3) (l_nil)))) (l_nil)) T.z_repr) (nomark _)) (s_one (s_ret (d_bl))) (s_nil))
          (s_cons (s_set (i := 5) S.nd rfl (.inl rfl) (d_tup (l_cons (d_var 2) (l_cons (d_tupleC (l_cons (d_sorted hr.units (l_cons (d_lc (own := [("a", 6), ("b", 7)]) rfl S.nd (i_seqQ (d_item (d_var 1) (d_int))) (blkOk_by (N := ["deck", "book", "n", "order", "led", "turned", "a", "b"]) (sc := defScope s__law_goes_along) (by decide +kernel)) (by decide) (fun _ _ _ _ _ => g_tup rfl (gs_cons (g_name (i := 6) S.nd rfl (.inl rfl)) (gs_cons (g_name (i := 7) S.nd rfl (.inl rfl)) (gs_nil)))) (fun _ _ _ _ _ => ts_nil) (fun _ _ _ _ _ => d_tup (l_cons (d_var 7) (l_cons (d_var 6) (l_nil))))) (l_nil)) T.z_sorted) (l_nil)) T.z_tuple) (l_nil)))))
          (s_one (s_ret (d_eq hr.units (d_repr hr.units hg (l_cons (d_callG G_closing b_closing (by decide) hg hr pass0 (l_cons (d_var 5) (l_nil))) (l_nil)) T.z_repr) (d_repr hr.units hg (l_cons (d_callG G_mirror b_mirror (by decide) hg hr pass0 (l_cons (d_callG G_closing b_closing (by decide) hg hr pass0 (l_cons (d_var 1) (l_nil))) (l_nil))) (l_nil)) T.z_repr)))))))
theorem fn_law {f : Addr} {fd : FuncData} (T : Top K mg) (U : Fun K "law" "law" s_law f fd) (G__law_draw : ∀ aD aC aS, Gd P w K mg base (dkZ P w aD aC aS) "_law_draw" s__law_draw ["deck", "many"] 1 g__law_draw) (G__law_book : ∀ aD aC aS, Gd P w K mg base (dkZ P w aD aC aS) "_law_book" s__law_book ["deck", "n"] 3 g__law_book) (G__law_hill : ∀ aD aC aS, Gd P w K mg base (dkZ P w aD aC aS) "_law_hill" s__law_hill ["deck", "n"] 3 g__law_hill) (G__law_is_closed_right : ∀ aD aC aS, Gd P w K mg base (dkZ P w aD aC aS) "_law_is_closed_right" s__law_is_closed_right ["deck", "book"] 8 g__law_is_closed_right) (G__law_goes_along : ∀ aD aC aS, Gd P w K mg base (dkZ P w aD aC aS) "_law_goes_along" s__law_goes_along ["deck", "book"] 8 g__law_goes_along) : FnG P w K mg base CX0 9 f fd ["script"] (spLaw K) := by
  have S := sc_law
  obtain ⟨fD, dD, hD, UD⟩ := T._law_deck
  have FD : FnG P w K mg base CX0 1 fD dD ["script"] (spDeck "cells" "draws" K) := fn_deck T UD
  refine fnG_of (k := 8) U S (fun vs H Q E h => ?_) fun cdv A fr s H vs Q E hg hr h => ?_
  · obtain ⟨a, ns, rfl, _⟩ := h
    rfl
  · obtain ⟨a, ns, rfl, hs, h63, q⟩ := h
    refine ⟨_, PSs.nox (pss_cons (ps_set (i := 1) S.nd rfl (.inl rfl) (pe_callG (FD.mono (by decide)) hg hr hD UD.kp (binds_k (UD.binds b__law_deck)) pass0 (pa_cons (pv 0) pa_nil))) (pss_ex "cells" "draws" (t := t_law) fun aD aC aS F0 H0 => by
      have G__law_draw := G__law_draw aD aC aS
      have G__law_book := G__law_book aD aC aS
      have G__law_hill := G__law_hill aD aC aS
      have G__law_is_closed_right := G__law_is_closed_right aD aC aS
      have G__law_goes_along := G__law_goes_along aD aC aS
      refine s_cons (s_for PassesOwn.never rfl (i_range1 (d_int) T.z_range) (g_name (i := 2) S.nd rfl (.inl rfl)) ?_) (s_one (s_ret (d_bl)))
      exact s_cons (s_set (i := 3) S.nd rfl (.inl rfl) (d_add (d_int) (d_callG G__law_draw b__law_draw (by decide) hg hr pass0 (l_cons (d_var 1) (l_cons (d_int) (l_nil))))))
          (s_cons (s_set (i := 4) S.nd rfl (.inl rfl) (d_ifExp (b_cmp (op_gtQ hr.units) lk_rel (d_callG G__law_draw b__law_draw (by decide) hg hr pass0 (l_cons (d_var 1) (l_cons (d_int) (l_nil)))) (d_int) (nomark _)) (d_callG G__law_book b__law_book (by decide) hg hr pass0 (l_cons (d_var 1) (l_cons (d_var 3) (l_nil)))) (d_callG G__law_hill b__law_hill (by decide) hg hr pass0 (l_cons (d_var 1) (l_cons (d_var 3) (l_nil))))))
          (s_one (s_if ((bw_or (b_not (b_val (d_callG G__law_is_closed_right b__law_is_closed_right (by decide) hg hr pass0 (l_cons (d_var 1) (l_cons (d_var 4) (l_nil)))))) (bw_or1 (b_not (b_val (d_callG G__law_goes_along b__law_goes_along (by decide) hg hr pass0 (l_cons (d_var 1) (l_cons (d_var 4) (l_nil)))))))).toB) (s_one (s_ret (d_bl))) (s_nil)))))), ?_⟩
    refine ⟨.ref a, rfl, a, ns, rfl, hs, h63, fun H' aD aC m _ _ _ d mt => ⟨aD, aC, a, fun _ => False, H', ?_⟩⟩
    exact law_rest (n := 3) mt d q p_law
end
theorem all_mk {l : PySem.W.OpenLaw} {w : World} {K : PySem.W.Frag} {h : Heap} {mg : Str → Option Value} {fa : Addr} (X : K.In h) (G : h.Ns mainGlobals mg) (hfa : mg "law" = some (.ref fa))
    {f0 : Addr} {od0 an0 : Option Addr} {sl0 : Array (Option Value)} {oc0 kV0 dc0 pm0 cd0 ct0 : Value}
    {f1 : Addr} {od1 an1 : Option Addr} {sl1 : Array (Option Value)} {oc1 kV1 dc1 pm1 cd1 ct1 : Value}
    {f2 : Addr} {od2 an2 : Option Addr} {sl2 : Array (Option Value)} {oc2 kV2 dc2 pm2 cd2 ct2 : Value}
    {f3 : Addr} {od3 an3 : Option Addr} {sl3 : Array (Option Value)} {oc3 kV3 dc3 pm3 cd3 ct3 : Value}
    {f4 : Addr} {od4 an4 : Option Addr} {sl4 : Array (Option Value)} {oc4 kV4 dc4 pm4 cd4 ct4 : Value}
    {f5 : Addr} {od5 an5 : Option Addr} {sl5 : Array (Option Value)} {oc5 kV5 dc5 pm5 cd5 ct5 : Value}
    {f6 : Addr} {od6 an6 : Option Addr} {sl6 : Array (Option Value)} {oc6 kV6 dc6 pm6 cd6 ct6 : Value}
    {f7 : Addr} {od7 an7 : Option Addr} {sl7 : Array (Option Value)} {oc7 kV7 dc7 pm7 cd7 ct7 : Value}
    {f8 : Addr} {od8 an8 : Option Addr} {sl8 : Array (Option Value)} {oc8 kV8 dc8 pm8 cd8 ct8 : Value}
    {f9 : Addr} {od9 an9 : Option Addr} {sl9 : Array (Option Value)} {oc9 kV9 dc9 pm9 cd9 ct9 : Value}
    {f10 : Addr} {od10 an10 : Option Addr} {sl10 : Array (Option Value)} {oc10 kV10 dc10 pm10 cd10 ct10 : Value}
    {f11 : Addr} {od11 an11 : Option Addr} {sl11 : Array (Option Value)} {oc11 kV11 dc11 pm11 cd11 ct11 : Value}
    {f12 : Addr} {od12 an12 : Option Addr} {sl12 : Array (Option Value)} {oc12 kV12 dc12 pm12 cd12 ct12 : Value}
    {f13 : Addr} {od13 an13 : Option Addr} {sl13 : Array (Option Value)} {oc13 kV13 dc13 pm13 cd13 ct13 : Value}
    {f14 : Addr} {od14 an14 : Option Addr} {sl14 : Array (Option Value)} {oc14 kV14 dc14 pm14 cd14 ct14 : Value}
    {f15 : Addr} {od15 an15 : Option Addr} {sl15 : Array (Option Value)} {oc15 kV15 dc15 pm15 cd15 ct15 : Value}
    {f16 : Addr} {od16 an16 : Option Addr} {sl16 : Array (Option Value)} {oc16 kV16 dc16 pm16 cd16 ct16 : Value}
    {f17 : Addr} {od17 an17 : Option Addr} {sl17 : Array (Option Value)} {oc17 kV17 dc17 pm17 cd17 ct17 : Value}
    {f18 : Addr} {od18 an18 : Option Addr} {sl18 : Array (Option Value)} {oc18 kV18 dc18 pm18 cd18 ct18 : Value}
    {f19 : Addr} {od19 an19 : Option Addr} {sl19 : Array (Option Value)} {oc19 kV19 dc19 pm19 cd19 ct19 : Value}
    {f20 : Addr} {od20 an20 : Option Addr} {sl20 : Array (Option Value)} {oc20 kV20 dc20 pm20 cd20 ct20 : Value}
    {f21 : Addr} {od21 an21 : Option Addr} {sl21 : Array (Option Value)} {oc21 kV21 dc21 pm21 cd21 ct21 : Value}
    {f22 : Addr} {od22 an22 : Option Addr} {sl22 : Array (Option Value)} {oc22 kV22 dc22 pm22 cd22 ct22 : Value}
    {f23 : Addr} {od23 an23 : Option Addr} {sl23 : Array (Option Value)} {oc23 kV23 dc23 pm23 cd23 ct23 : Value}
    {f24 : Addr} {od24 an24 : Option Addr} {sl24 : Array (Option Value)} {oc24 kV24 dc24 pm24 cd24 ct24 : Value}
    {f25 : Addr} {od25 an25 : Option Addr} {sl25 : Array (Option Value)} {oc25 kV25 dc25 pm25 cd25 ct25 : Value}
    {f26 : Addr} {od26 an26 : Option Addr} {sl26 : Array (Option Value)} {oc26 kV26 dc26 pm26 cd26 ct26 : Value}
    {f27 : Addr} {od27 an27 : Option Addr} {sl27 : Array (Option Value)} {oc27 kV27 dc27 pm27 cd27 ct27 : Value}
    {f28 : Addr} {od28 an28 : Option Addr} {sl28 : Array (Option Value)} {oc28 kV28 dc28 pm28 cd28 ct28 : Value}
    {f29 : Addr} {od29 an29 : Option Addr} {sl29 : Array (Option Value)} {oc29 kV29 dc29 pm29 cd29 ct29 : Value}
    {f30 : Addr} {od30 an30 : Option Addr} {sl30 : Array (Option Value)} {oc30 kV30 dc30 pm30 cd30 ct30 : Value}
    {f31 : Addr} {od31 an31 : Option Addr} {sl31 : Array (Option Value)} {oc31 kV31 dc31 pm31 cd31 ct31 : Value}
    {t_MOST_TERRACES : Tok}
    (a0 : PySem.W.nsIn K mainGlobals "_law_deck" = some (some (.ref f0))) (l0 : K.lookup f0 = some ⟨oc0, od0, .func (PySem.W.fnOf "_law_deck" "_law_deck" (defArgs s__law_deck) (defBody s__law_deck) (defScope s__law_deck) .none kV0 dc0 pm0 an0 cd0 ct0), sl0⟩) (c0 : PySem.W.codeIn K cd0 "_law_deck" = true) (k0 : PySem.W.keepIn K (.ref f0) = true)
    (a1 : PySem.W.nsIn K mainGlobals "_law_draw" = some (some (.ref f1))) (l1 : K.lookup f1 = some ⟨oc1, od1, .func (PySem.W.fnOf "_law_draw" "_law_draw" (defArgs s__law_draw) (defBody s__law_draw) (defScope s__law_draw) .none kV1 dc1 pm1 an1 cd1 ct1), sl1⟩) (c1 : PySem.W.codeIn K cd1 "_law_draw" = true) (k1 : PySem.W.keepIn K (.ref f1) = true)
    (a2 : PySem.W.nsIn K mainGlobals "_law_pick" = some (some (.ref f2))) (l2 : K.lookup f2 = some ⟨oc2, od2, .func (PySem.W.fnOf "_law_pick" "_law_pick" (defArgs s__law_pick) (defBody s__law_pick) (defScope s__law_pick) .none kV2 dc2 pm2 an2 cd2 ct2), sl2⟩) (c2 : PySem.W.codeIn K cd2 "_law_pick" = true) (k2 : PySem.W.keepIn K (.ref f2) = true)
    (a3 : PySem.W.nsIn K mainGlobals "_law_order" = some (some (.ref f3))) (l3 : K.lookup f3 = some ⟨oc3, od3, .func (PySem.W.fnOf "_law_order" "_law_order" (defArgs s__law_order) (defBody s__law_order) (defScope s__law_order) .none kV3 dc3 pm3 an3 cd3 ct3), sl3⟩) (c3 : PySem.W.codeIn K cd3 "_law_order" = true) (k3 : PySem.W.keepIn K (.ref f3) = true)
    (a4 : PySem.W.nsIn K mainGlobals "_law_book" = some (some (.ref f4))) (l4 : K.lookup f4 = some ⟨oc4, od4, .func (PySem.W.fnOf "_law_book" "_law_book" (defArgs s__law_book) (defBody s__law_book) (defScope s__law_book) .none kV4 dc4 pm4 an4 cd4 ct4), sl4⟩) (c4 : PySem.W.codeIn K cd4 "_law_book" = true) (k4 : PySem.W.keepIn K (.ref f4) = true)
    (a5 : PySem.W.nsIn K mainGlobals "_law_reached" = some (some (.ref f5))) (l5 : K.lookup f5 = some ⟨oc5, od5, .func (PySem.W.fnOf "_law_reached" "_law_reached" (defArgs s__law_reached) (defBody s__law_reached) (defScope s__law_reached) .none kV5 dc5 pm5 an5 cd5 ct5), sl5⟩) (c5 : PySem.W.codeIn K cd5 "_law_reached" = true) (k5 : PySem.W.keepIn K (.ref f5) = true)
    (a6 : PySem.W.nsIn K mainGlobals "_law_closed" = some (some (.ref f6))) (l6 : K.lookup f6 = some ⟨oc6, od6, .func (PySem.W.fnOf "_law_closed" "_law_closed" (defArgs s__law_closed) (defBody s__law_closed) (defScope s__law_closed) .none kV6 dc6 pm6 an6 cd6 ct6), sl6⟩) (c6 : PySem.W.codeIn K cd6 "_law_closed" = true) (k6 : PySem.W.keepIn K (.ref f6) = true)
    (a7 : PySem.W.nsIn K mainGlobals "_law_led" = some (some (.ref f7))) (l7 : K.lookup f7 = some ⟨oc7, od7, .func (PySem.W.fnOf "_law_led" "_law_led" (defArgs s__law_led) (defBody s__law_led) (defScope s__law_led) .none kV7 dc7 pm7 an7 cd7 ct7), sl7⟩) (c7 : PySem.W.codeIn K cd7 "_law_led" = true) (k7 : PySem.W.keepIn K (.ref f7) = true)
    (a8 : PySem.W.nsIn K mainGlobals "_law_hill" = some (some (.ref f8))) (l8 : K.lookup f8 = some ⟨oc8, od8, .func (PySem.W.fnOf "_law_hill" "_law_hill" (defArgs s__law_hill) (defBody s__law_hill) (defScope s__law_hill) .none kV8 dc8 pm8 an8 cd8 ct8), sl8⟩) (c8 : PySem.W.codeIn K cd8 "_law_hill" = true) (k8 : PySem.W.keepIn K (.ref f8) = true)
    (a9 : PySem.W.nsIn K mainGlobals "is_integer" = some (some (.ref f9))) (l9 : K.lookup f9 = some ⟨oc9, od9, .func (PySem.W.fnOf "is_integer" "is_integer" (defArgs s_is_integer) (defBody s_is_integer) (defScope s_is_integer) .none kV9 dc9 pm9 an9 cd9 ct9), sl9⟩) (c9 : PySem.W.codeIn K cd9 "is_integer" = true) (k9 : PySem.W.keepIn K (.ref f9) = true)
    (a10 : PySem.W.nsIn K mainGlobals "is_between" = some (some (.ref f10))) (l10 : K.lookup f10 = some ⟨oc10, od10, .func (PySem.W.fnOf "is_between" "is_between" (defArgs s_is_between) (defBody s_is_between) (defScope s_is_between) .none kV10 dc10 pm10 an10 cd10 ct10), sl10⟩) (c10 : PySem.W.codeIn K cd10 "is_between" = true) (k10 : PySem.W.keepIn K (.ref f10) = true)
    (a11 : PySem.W.nsIn K mainGlobals "is_pair_of" = some (some (.ref f11))) (l11 : K.lookup f11 = some ⟨oc11, od11, .func (PySem.W.fnOf "is_pair_of" "is_pair_of" (defArgs s_is_pair_of) (defBody s_is_pair_of) (defScope s_is_pair_of) .none kV11 dc11 pm11 an11 cd11 ct11), sl11⟩) (c11 : PySem.W.codeIn K cd11 "is_pair_of" = true) (k11 : PySem.W.keepIn K (.ref f11) = true)
    (a12 : PySem.W.nsIn K mainGlobals "is_book_value" = some (some (.ref f12))) (l12 : K.lookup f12 = some ⟨oc12, od12, .func (PySem.W.fnOf "is_book_value" "is_book_value" (defArgs s_is_book_value) (defBody s_is_book_value) (defScope s_is_book_value) .none kV12 dc12 pm12 an12 cd12 ct12), sl12⟩) (c12 : PySem.W.codeIn K cd12 "is_book_value" = true) (k12 : PySem.W.keepIn K (.ref f12) = true)
    (a13 : PySem.W.nsIn K mainGlobals "need_book" = some (some (.ref f13))) (l13 : K.lookup f13 = some ⟨oc13, od13, .func (PySem.W.fnOf "need_book" "need_book" (defArgs s_need_book) (defBody s_need_book) (defScope s_need_book) .none kV13 dc13 pm13 an13 cd13 ct13), sl13⟩) (c13 : PySem.W.codeIn K cd13 "need_book" = true) (k13 : PySem.W.keepIn K (.ref f13) = true)
    (a14 : PySem.W.nsIn K mainGlobals "lows" = some (some (.ref f14))) (l14 : K.lookup f14 = some ⟨oc14, od14, .func (PySem.W.fnOf "lows" "lows" (defArgs s_lows) (defBody s_lows) (defScope s_lows) .none kV14 dc14 pm14 an14 cd14 ct14), sl14⟩) (c14 : PySem.W.codeIn K cd14 "lows" = true) (k14 : PySem.W.keepIn K (.ref f14) = true)
    (a15 : PySem.W.nsIn K mainGlobals "hill_of_lows" = some (some (.ref f15))) (l15 : K.lookup f15 = some ⟨oc15, od15, .func (PySem.W.fnOf "hill_of_lows" "hill_of_lows" (defArgs s_hill_of_lows) (defBody s_hill_of_lows) (defScope s_hill_of_lows) .none kV15 dc15 pm15 an15 cd15 ct15), sl15⟩) (c15 : PySem.W.codeIn K cd15 "hill_of_lows" = true) (k15 : PySem.W.keepIn K (.ref f15) = true)
    (a16 : PySem.W.nsIn K mainGlobals "closing_of" = some (some (.ref f16))) (l16 : K.lookup f16 = some ⟨oc16, od16, .func (PySem.W.fnOf "closing_of" "closing_of" (defArgs s_closing_of) (defBody s_closing_of) (defScope s_closing_of) .none kV16 dc16 pm16 an16 cd16 ct16), sl16⟩) (c16 : PySem.W.codeIn K cd16 "closing_of" = true) (k16 : PySem.W.keepIn K (.ref f16) = true)
    (a17 : PySem.W.nsIn K mainGlobals "closing" = some (some (.ref f17))) (l17 : K.lookup f17 = some ⟨oc17, od17, .func (PySem.W.fnOf "closing" "closing" (defArgs s_closing) (defBody s_closing) (defScope s_closing) .none kV17 dc17 pm17 an17 cd17 ct17), sl17⟩) (c17 : PySem.W.codeIn K cd17 "closing" = true) (k17 : PySem.W.keepIn K (.ref f17) = true)
    (a18 : PySem.W.nsIn K mainGlobals "_law_are_ponds" = some (some (.ref f18))) (l18 : K.lookup f18 = some ⟨oc18, od18, .func (PySem.W.fnOf "_law_are_ponds" "_law_are_ponds" (defArgs s__law_are_ponds) (defBody s__law_are_ponds) (defScope s__law_are_ponds) .none kV18 dc18 pm18 an18 cd18 ct18), sl18⟩) (c18 : PySem.W.codeIn K cd18 "_law_are_ponds" = true) (k18 : PySem.W.keepIn K (.ref f18) = true)
    (a19 : PySem.W.nsIn K mainGlobals "is_hill_value" = some (some (.ref f19))) (l19 : K.lookup f19 = some ⟨oc19, od19, .func (PySem.W.fnOf "is_hill_value" "is_hill_value" (defArgs s_is_hill_value) (defBody s_is_hill_value) (defScope s_is_hill_value) .none kV19 dc19 pm19 an19 cd19 ct19), sl19⟩) (c19 : PySem.W.codeIn K cd19 "is_hill_value" = true) (k19 : PySem.W.keepIn K (.ref f19) = true)
    (a20 : PySem.W.nsIn K mainGlobals "is_hill" = some (some (.ref f20))) (l20 : K.lookup f20 = some ⟨oc20, od20, .func (PySem.W.fnOf "is_hill" "is_hill" (defArgs s_is_hill) (defBody s_is_hill) (defScope s_is_hill) .none kV20 dc20 pm20 an20 cd20 ct20), sl20⟩) (c20 : PySem.W.codeIn K cd20 "is_hill" = true) (k20 : PySem.W.keepIn K (.ref f20) = true)
    (a21 : PySem.W.nsIn K mainGlobals "need_hill" = some (some (.ref f21))) (l21 : K.lookup f21 = some ⟨oc21, od21, .func (PySem.W.fnOf "need_hill" "need_hill" (defArgs s_need_hill) (defBody s_need_hill) (defScope s_need_hill) .none kV21 dc21 pm21 an21 cd21 ct21), sl21⟩) (c21 : PySem.W.codeIn K cd21 "need_hill" = true) (k21 : PySem.W.keepIn K (.ref f21) = true)
    (a22 : PySem.W.nsIn K mainGlobals "highs" = some (some (.ref f22))) (l22 : K.lookup f22 = some ⟨oc22, od22, .func (PySem.W.fnOf "highs" "highs" (defArgs s_highs) (defBody s_highs) (defScope s_highs) .none kV22 dc22 pm22 an22 cd22 ct22), sl22⟩) (c22 : PySem.W.codeIn K cd22 "highs" = true) (k22 : PySem.W.keepIn K (.ref f22) = true)
    (a23 : PySem.W.nsIn K mainGlobals "lot_of" = some (some (.ref f23))) (l23 : K.lookup f23 = some ⟨oc23, od23, .func (PySem.W.fnOf "lot_of" "lot_of" (defArgs s_lot_of) (defBody s_lot_of) (defScope s_lot_of) .none kV23 dc23 pm23 an23 cd23 ct23), sl23⟩) (c23 : PySem.W.codeIn K cd23 "lot_of" = true) (k23 : PySem.W.keepIn K (.ref f23) = true)
    (a24 : PySem.W.nsIn K mainGlobals "ponds" = some (some (.ref f24))) (l24 : K.lookup f24 = some ⟨oc24, od24, .func (PySem.W.fnOf "ponds" "ponds" (defArgs s_ponds) (defBody s_ponds) (defScope s_ponds) .none kV24 dc24 pm24 an24 cd24 ct24), sl24⟩) (c24 : PySem.W.codeIn K cd24 "ponds" = true) (k24 : PySem.W.keepIn K (.ref f24) = true)
    (a25 : PySem.W.nsIn K mainGlobals "is_book" = some (some (.ref f25))) (l25 : K.lookup f25 = some ⟨oc25, od25, .func (PySem.W.fnOf "is_book" "is_book" (defArgs s_is_book) (defBody s_is_book) (defScope s_is_book) .none kV25 dc25 pm25 an25 cd25 ct25), sl25⟩) (c25 : PySem.W.codeIn K cd25 "is_book" = true) (k25 : PySem.W.keepIn K (.ref f25) = true)
    (a26 : PySem.W.nsIn K mainGlobals "_law_is_closed_right" = some (some (.ref f26))) (l26 : K.lookup f26 = some ⟨oc26, od26, .func (PySem.W.fnOf "_law_is_closed_right" "_law_is_closed_right" (defArgs s__law_is_closed_right) (defBody s__law_is_closed_right) (defScope s__law_is_closed_right) .none kV26 dc26 pm26 an26 cd26 ct26), sl26⟩) (c26 : PySem.W.codeIn K cd26 "_law_is_closed_right" = true) (k26 : PySem.W.keepIn K (.ref f26) = true)
    (a27 : PySem.W.nsIn K mainGlobals "is_renaming" = some (some (.ref f27))) (l27 : K.lookup f27 = some ⟨oc27, od27, .func (PySem.W.fnOf "is_renaming" "is_renaming" (defArgs s_is_renaming) (defBody s_is_renaming) (defScope s_is_renaming) .none kV27 dc27 pm27 an27 cd27 ct27), sl27⟩) (c27 : PySem.W.codeIn K cd27 "is_renaming" = true) (k27 : PySem.W.keepIn K (.ref f27) = true)
    (a28 : PySem.W.nsIn K mainGlobals "led_hill" = some (some (.ref f28))) (l28 : K.lookup f28 = some ⟨oc28, od28, .func (PySem.W.fnOf "led_hill" "led_hill" (defArgs s_led_hill) (defBody s_led_hill) (defScope s_led_hill) .none kV28 dc28 pm28 an28 cd28 ct28), sl28⟩) (c28 : PySem.W.codeIn K cd28 "led_hill" = true) (k28 : PySem.W.keepIn K (.ref f28) = true)
    (a29 : PySem.W.nsIn K mainGlobals "mirror" = some (some (.ref f29))) (l29 : K.lookup f29 = some ⟨oc29, od29, .func (PySem.W.fnOf "mirror" "mirror" (defArgs s_mirror) (defBody s_mirror) (defScope s_mirror) .none kV29 dc29 pm29 an29 cd29 ct29), sl29⟩) (c29 : PySem.W.codeIn K cd29 "mirror" = true) (k29 : PySem.W.keepIn K (.ref f29) = true)
    (a30 : PySem.W.nsIn K mainGlobals "_law_goes_along" = some (some (.ref f30))) (l30 : K.lookup f30 = some ⟨oc30, od30, .func (PySem.W.fnOf "_law_goes_along" "_law_goes_along" (defArgs s__law_goes_along) (defBody s__law_goes_along) (defScope s__law_goes_along) .none kV30 dc30 pm30 an30 cd30 ct30), sl30⟩) (c30 : PySem.W.codeIn K cd30 "_law_goes_along" = true) (k30 : PySem.W.keepIn K (.ref f30) = true)
    (a31 : PySem.W.nsIn K mainGlobals "law" = some (some (.ref f31))) (l31 : K.lookup f31 = some ⟨oc31, od31, .func (PySem.W.fnOf "law" "law" (defArgs s_law) (defBody s_law) (defScope s_law) .none kV31 dc31 pm31 an31 cd31 ct31), sl31⟩) (c31 : PySem.W.codeIn K cd31 "law" = true) (k31 : PySem.W.keepIn K (.ref f31) = true)
    (z_all : PySem.W.nsIn K mainGlobals "all" = some none)
    (z_bool : PySem.W.nsIn K mainGlobals "bool" = some none)
    (z_int : PySem.W.nsIn K mainGlobals "int" = some none)
    (z_isinstance : PySem.W.nsIn K mainGlobals "isinstance" = some none)
    (z_len : PySem.W.nsIn K mainGlobals "len" = some none)
    (z_list : PySem.W.nsIn K mainGlobals "list" = some none)
    (z_max : PySem.W.nsIn K mainGlobals "max" = some none)
    (z_min : PySem.W.nsIn K mainGlobals "min" = some none)
    (z_range : PySem.W.nsIn K mainGlobals "range" = some none)
    (z_repr : PySem.W.nsIn K mainGlobals "repr" = some none)
    (z_set : PySem.W.nsIn K mainGlobals "set" = some none)
    (z_sorted : PySem.W.nsIn K mainGlobals "sorted" = some none)
    (z_tuple : PySem.W.nsIn K mainGlobals "tuple" = some none)
    (z_zip : PySem.W.nsIn K mainGlobals "zip" = some none)
    (q_MOST_TERRACES : PySem.W.nsIn K mainGlobals "MOST_TERRACES" = some (some (.int 10 t_MOST_TERRACES))) :
    ∃ fd : FuncData, (∀ (s : Shared) (v : Value), BindsTo s fd ⟨[v], []⟩ [("script", v)]) ∧ ∀ base : Heap, K.In base → base.Ns mainGlobals mg → FnG l.prog w K mg base CX0 9 fa fd ["script"] (spLaw K) := by
  have e := hfa.symm.trans (PySem.W.mg_of X G a31)
  cases e
  have T : Top K mg := ⟨⟨_, _, PySem.W.mg_of X G a0, fun_mk (st := s__law_deck) l0 c0 k0⟩, ⟨_, _, PySem.W.mg_of X G a1, fun_mk (st := s__law_draw) l1 c1 k1⟩, ⟨_, _, PySem.W.mg_of X G a2, fun_mk (st := s__law_pick) l2 c2 k2⟩, ⟨_, _, PySem.W.mg_of X G a3, fun_mk (st := s__law_order) l3 c3 k3⟩, ⟨_, _, PySem.W.mg_of X G a4, fun_mk (st := s__law_book) l4 c4 k4⟩, ⟨_, _, PySem.W.mg_of X G a5, fun_mk (st := s__law_reached) l5 c5 k5⟩, ⟨_, _, PySem.W.mg_of X G a6, fun_mk (st := s__law_closed) l6 c6 k6⟩, ⟨_, _, PySem.W.mg_of X G a7, fun_mk (st := s__law_led) l7 c7 k7⟩, ⟨_, _, PySem.W.mg_of X G a8, fun_mk (st := s__law_hill) l8 c8 k8⟩, ⟨_, _, PySem.W.mg_of X G a9, fun_mk (st := s_is_integer) l9 c9 k9⟩, ⟨_, _, PySem.W.mg_of X G a10, fun_mk (st := s_is_between) l10 c10 k10⟩, ⟨_, _, PySem.W.mg_of X G a11, fun_mk (st := s_is_pair_of) l11 c11 k11⟩, ⟨_, _, PySem.W.mg_of X G a12, fun_mk (st := s_is_book_value) l12 c12 k12⟩, ⟨_, _, PySem.W.mg_of X G a13, fun_mk (st := s_need_book) l13 c13 k13⟩, ⟨_, _, PySem.W.mg_of X G a14, fun_mk (st := s_lows) l14 c14 k14⟩, ⟨_, _, PySem.W.mg_of X G a15, fun_mk (st := s_hill_of_lows) l15 c15 k15⟩, ⟨_, _, PySem.W.mg_of X G a16, fun_mk (st := s_closing_of) l16 c16 k16⟩, ⟨_, _, PySem.W.mg_of X G a17, fun_mk (st := s_closing) l17 c17 k17⟩, ⟨_, _, PySem.W.mg_of X G a18, fun_mk (st := s__law_are_ponds) l18 c18 k18⟩, ⟨_, _, PySem.W.mg_of X G a19, fun_mk (st := s_is_hill_value) l19 c19 k19⟩, ⟨_, _, PySem.W.mg_of X G a20, fun_mk (st := s_is_hill) l20 c20 k20⟩, ⟨_, _, PySem.W.mg_of X G a21, fun_mk (st := s_need_hill) l21 c21 k21⟩, ⟨_, _, PySem.W.mg_of X G a22, fun_mk (st := s_highs) l22 c22 k22⟩, ⟨_, _, PySem.W.mg_of X G a23, fun_mk (st := s_lot_of) l23 c23 k23⟩, ⟨_, _, PySem.W.mg_of X G a24, fun_mk (st := s_ponds) l24 c24 k24⟩, ⟨_, _, PySem.W.mg_of X G a25, fun_mk (st := s_is_book) l25 c25 k25⟩, ⟨_, _, PySem.W.mg_of X G a26, fun_mk (st := s__law_is_closed_right) l26 c26 k26⟩, ⟨_, _, PySem.W.mg_of X G a27, fun_mk (st := s_is_renaming) l27 c27 k27⟩, ⟨_, _, PySem.W.mg_of X G a28, fun_mk (st := s_led_hill) l28 c28 k28⟩, ⟨_, _, PySem.W.mg_of X G a29, fun_mk (st := s_mirror) l29 c29 k29⟩, ⟨_, _, PySem.W.mg_of X G a30, fun_mk (st := s__law_goes_along) l30 c30 k30⟩, ⟨_, _, PySem.W.mg_of X G a31, fun_mk (st := s_law) l31 c31 k31⟩, PySem.W.mg_none_of X G z_all, PySem.W.mg_none_of X G z_bool, PySem.W.mg_none_of X G z_int, PySem.W.mg_none_of X G z_isinstance, PySem.W.mg_none_of X G z_len, PySem.W.mg_none_of X G z_list, PySem.W.mg_none_of X G z_max, PySem.W.mg_none_of X G z_min, PySem.W.mg_none_of X G z_range, PySem.W.mg_none_of X G z_repr, PySem.W.mg_none_of X G z_set, PySem.W.mg_none_of X G z_sorted, PySem.W.mg_none_of X G z_tuple, PySem.W.mg_none_of X G z_zip, ⟨_, PySem.W.mg_of X G q_MOST_TERRACES⟩⟩
  refine ⟨PySem.W.fnOf "law" "law" (defArgs s_law) (defBody s_law) (defScope s_law) .none kV31 dc31 pm31 an31 cd31 ct31, fun s v => .of_eq rfl, fun base _ _ => ?_⟩
  have U := fun_mk (st := s_law) l31 c31 k31
  have G__law_draw : ∀ aD aC aS, Gd l.prog w K mg base (dkZ l.prog w aD aC aS) "_law_draw" s__law_draw ["deck", "many"] 1 g__law_draw := fun aD aC aS => by
    obtain ⟨f, fd, hm, U⟩ := T._law_draw
    exact gd_mk hm U mono_draw (fn_draw T U)
  have G__law_pick := fun aD aC aS => gd__law_pick (P := l.prog) (w := w) (base := base) (aD := aD) (aC := aC) (aS := aS) T (G__law_draw aD aC aS)
  have G__law_order := fun aD aC aS => gd__law_order (P := l.prog) (w := w) (base := base) (aD := aD) (aC := aC) (aS := aS) T (G__law_draw aD aC aS)
  have G__law_book := fun aD aC aS => gd__law_book (P := l.prog) (w := w) (base := base) (aD := aD) (aC := aC) (aS := aS) T (G__law_pick aD aC aS) (G__law_draw aD aC aS) (G__law_order aD aC aS)
  have G__law_reached := fun aD aC aS => gd__law_reached (P := l.prog) (w := w) (base := base) (aD := aD) (aC := aC) (aS := aS) T
  have G__law_closed := fun aD aC aS => gd__law_closed (P := l.prog) (w := w) (base := base) (aD := aD) (aC := aC) (aS := aS) T (G__law_reached aD aC aS)
  have G__law_led := fun aD aC aS => gd__law_led (P := l.prog) (w := w) (base := base) (aD := aD) (aC := aC) (aS := aS) T
  have G__law_hill := fun aD aC aS => gd__law_hill (P := l.prog) (w := w) (base := base) (aD := aD) (aC := aC) (aS := aS) T (G__law_draw aD aC aS) (G__law_closed aD aC aS) (G__law_led aD aC aS) (G__law_order aD aC aS)
  have G_is_integer := fun aD aC aS => gd_is_integer (P := l.prog) (w := w) (base := base) (aD := aD) (aC := aC) (aS := aS) T
  have G_is_between := fun aD aC aS => gd_is_between (P := l.prog) (w := w) (base := base) (aD := aD) (aC := aC) (aS := aS) T (G_is_integer aD aC aS)
  have G_is_pair_of := fun aD aC aS => gd_is_pair_of (P := l.prog) (w := w) (base := base) (aD := aD) (aC := aC) (aS := aS) T (G_is_between aD aC aS)
  have G_is_book_value := fun aD aC aS => gd_is_book_value (P := l.prog) (w := w) (base := base) (aD := aD) (aC := aC) (aS := aS) T (G_is_between aD aC aS) (G_is_pair_of aD aC aS)
  have G_need_book := fun aD aC aS => gd_need_book (P := l.prog) (w := w) (base := base) (aD := aD) (aC := aC) (aS := aS) T (G_is_book_value aD aC aS)
  have G_lows := fun aD aC aS => gd_lows (P := l.prog) (w := w) (base := base) (aD := aD) (aC := aC) (aS := aS) T
  have G_hill_of_lows := fun aD aC aS => gd_hill_of_lows (P := l.prog) (w := w) (base := base) (aD := aD) (aC := aC) (aS := aS) T
  have G_closing_of := fun aD aC aS => gd_closing_of (P := l.prog) (w := w) (base := base) (aD := aD) (aC := aC) (aS := aS) T (G_lows aD aC aS) (G_hill_of_lows aD aC aS)
  have G_closing := fun aD aC aS => gd_closing (P := l.prog) (w := w) (base := base) (aD := aD) (aC := aC) (aS := aS) T (G_need_book aD aC aS) (G_closing_of aD aC aS)
  have G__law_are_ponds := fun aD aC aS => gd__law_are_ponds (P := l.prog) (w := w) (base := base) (aD := aD) (aC := aC) (aS := aS) T
  have G_is_hill_value := fun aD aC aS => gd_is_hill_value (P := l.prog) (w := w) (base := base) (aD := aD) (aC := aC) (aS := aS) T (G_is_book_value aD aC aS) (G_closing_of aD aC aS)
  have G_is_hill := fun aD aC aS => gd_is_hill (P := l.prog) (w := w) (base := base) (aD := aD) (aC := aC) (aS := aS) T (G_is_hill_value aD aC aS)
  have G_need_hill := fun aD aC aS => gd_need_hill (P := l.prog) (w := w) (base := base) (aD := aD) (aC := aC) (aS := aS) T (G_is_hill_value aD aC aS)
  have G_highs := fun aD aC aS => gd_highs (P := l.prog) (w := w) (base := base) (aD := aD) (aC := aC) (aS := aS) T
  have G_lot_of := fun aD aC aS => gd_lot_of (P := l.prog) (w := w) (base := base) (aD := aD) (aC := aC) (aS := aS) T
  have G_ponds := fun aD aC aS => gd_ponds (P := l.prog) (w := w) (base := base) (aD := aD) (aC := aC) (aS := aS) T (G_need_hill aD aC aS) (G_lows aD aC aS) (G_highs aD aC aS) (G_lot_of aD aC aS)
  have G_is_book := fun aD aC aS => gd_is_book (P := l.prog) (w := w) (base := base) (aD := aD) (aC := aC) (aS := aS) T (G_is_book_value aD aC aS)
  have G__law_is_closed_right := fun aD aC aS => gd__law_is_closed_right (P := l.prog) (w := w) (base := base) (aD := aD) (aC := aC) (aS := aS) T (G__law_reached aD aC aS) (G_closing aD aC aS) (G_is_hill aD aC aS) (G__law_are_ponds aD aC aS) (G_ponds aD aC aS) (G__law_pick aD aC aS) (G_is_book aD aC aS) (G__law_draw aD aC aS)
  have G_is_renaming := fun aD aC aS => gd_is_renaming (P := l.prog) (w := w) (base := base) (aD := aD) (aC := aC) (aS := aS) T (G_is_integer aD aC aS)
  have G_led_hill := fun aD aC aS => gd_led_hill (P := l.prog) (w := w) (base := base) (aD := aD) (aC := aC) (aS := aS) T (G_need_hill aD aC aS) (G_is_renaming aD aC aS)
  have G_mirror := fun aD aC aS => gd_mirror (P := l.prog) (w := w) (base := base) (aD := aD) (aC := aC) (aS := aS) T (G_need_hill aD aC aS)
  have G__law_goes_along := fun aD aC aS => gd__law_goes_along (P := l.prog) (w := w) (base := base) (aD := aD) (aC := aC) (aS := aS) T (G__law_order aD aC aS) (G_closing aD aC aS) (G_led_hill aD aC aS) (G_mirror aD aC aS)
  exact fn_law T U G__law_draw G__law_book G__law_hill G__law_is_closed_right G__law_goes_along
end K01
open PySem PySem.W PyProof.Rows
set_option maxHeartbeats 0 in
theorem PySem.Challenge.cw_pourasked_k01_closings_of_books_holds : PySem.Challenge.rw_pourasked_k01_closings_of_books.Holds := by
  w_on; o_law; k_head; (case hw => w_witness2)
  k_fill
  refine DL.walk_G (l := PySem.Challenge.rw_pourasked_k01_closings_of_books) (n := 63) (k := 9) (x := "script") (sp := fun w => DL.spLaw _) rfl (by decide) rfl ⟨rfl, by decide, by decide⟩ (fun w h Y => PySem.W.kIn_of Y) ?F (fun _ _ a ns hl _ hS => ⟨a, ns, rfl, hS, hl, fun _ => rfl⟩)
  case F =>
    intro w mg fa h KX G hmg
    refine' K01.all_mk KX G hmg ?a0 ?l0 ?c0 ?k0 ?a1 ?l1 ?c1 ?k1 ?a2 ?l2 ?c2 ?k2 ?a3 ?l3 ?c3 ?k3 ?a4 ?l4 ?c4 ?k4 ?a5 ?l5 ?c5 ?k5 ?a6 ?l6 ?c6 ?k6 ?a7 ?l7 ?c7 ?k7 ?a8 ?l8 ?c8 ?k8 ?a9 ?l9 ?c9 ?k9 ?a10 ?l10 ?c10 ?k10 ?a11 ?l11 ?c11 ?k11 ?a12 ?l12 ?c12 ?k12 ?a13 ?l13 ?c13 ?k13 ?a14 ?l14 ?c14 ?k14 ?a15 ?l15 ?c15 ?k15 ?a16 ?l16 ?c16 ?k16 ?a17 ?l17 ?c17 ?k17 ?a18 ?l18 ?c18 ?k18 ?a19 ?l19 ?c19 ?k19 ?a20 ?l20 ?c20 ?k20 ?a21 ?l21 ?c21 ?k21 ?a22 ?l22 ?c22 ?k22 ?a23 ?l23 ?c23 ?k23 ?a24 ?l24 ?c24 ?k24 ?a25 ?l25 ?c25 ?k25 ?a26 ?l26 ?c26 ?k26 ?a27 ?l27 ?c27 ?k27 ?a28 ?l28 ?c28 ?k28 ?a29 ?l29 ?c29 ?k29 ?a30 ?l30 ?c30 ?k30 ?a31 ?l31 ?c31 ?k31 ?z_all ?z_bool ?z_int ?z_isinstance ?z_len ?z_list ?z_max ?z_min ?z_range ?z_repr ?z_set ?z_sorted ?z_tuple ?z_zip ?q_MOST_TERRACES
    (case a0 => k_is); (case l0 => k_is); (case c0 => k_is); (case k0 => k_is); (case a1 => k_is); (case l1 => k_is); (case c1 => k_is); (case k1 => k_is); (case a2 => k_is); (case l2 => k_is); (case c2 => k_is); (case k2 => k_is); (case a3 => k_is); (case l3 => k_is); (case c3 => k_is); (case k3 => k_is); (case a4 => k_is); (case l4 => k_is); (case c4 => k_is); (case k4 => k_is); (case a5 => k_is); (case l5 => k_is); (case c5 => k_is); (case k5 => k_is); (case a6 => k_is); (case l6 => k_is); (case c6 => k_is); (case k6 => k_is); (case a7 => k_is); (case l7 => k_is); (case c7 => k_is); (case k7 => k_is); (case a8 => k_is); (case l8 => k_is); (case c8 => k_is); (case k8 => k_is); (case a9 => k_is); (case l9 => k_is); (case c9 => k_is); (case k9 => k_is); (case a10 => k_is); (case l10 => k_is); (case c10 => k_is); (case k10 => k_is); (case a11 => k_is); (case l11 => k_is); (case c11 => k_is); (case k11 => k_is); (case a12 => k_is); (case l12 => k_is); (case c12 => k_is); (case k12 => k_is); (case a13 => k_is); (case l13 => k_is); (case c13 => k_is); (case k13 => k_is); (case a14 => k_is); (case l14 => k_is); (case c14 => k_is); (case k14 => k_is); (case a15 => k_is); (case l15 => k_is); (case c15 => k_is); (case k15 => k_is); (case a16 => k_is); (case l16 => k_is); (case c16 => k_is); (case k16 => k_is); (case a17 => k_is); (case l17 => k_is); (case c17 => k_is); (case k17 => k_is); (case a18 => k_is); (case l18 => k_is); (case c18 => k_is); (case k18 => k_is); (case a19 => k_is); (case l19 => k_is); (case c19 => k_is); (case k19 => k_is); (case a20 => k_is); (case l20 => k_is); (case c20 => k_is); (case k20 => k_is); (case a21 => k_is); (case l21 => k_is); (case c21 => k_is); (case k21 => k_is); (case a22 => k_is); (case l22 => k_is); (case c22 => k_is); (case k22 => k_is); (case a23 => k_is); (case l23 => k_is); (case c23 => k_is); (case k23 => k_is); (case a24 => k_is); (case l24 => k_is); (case c24 => k_is); (case k24 => k_is); (case a25 => k_is); (case l25 => k_is); (case c25 => k_is); (case k25 => k_is); (case a26 => k_is); (case l26 => k_is); (case c26 => k_is); (case k26 => k_is); (case a27 => k_is); (case l27 => k_is); (case c27 => k_is); (case k27 => k_is); (case a28 => k_is); (case l28 => k_is); (case c28 => k_is); (case k28 => k_is); (case a29 => k_is); (case l29 => k_is); (case c29 => k_is); (case k29 => k_is); (case a30 => k_is); (case l30 => k_is); (case c30 => k_is); (case k30 => k_is); (case a31 => k_is); (case l31 => k_is); (case c31 => k_is); (case k31 => k_is); (case z_all => k_is); (case z_bool => k_is); (case z_int => k_is); (case z_isinstance => k_is); (case z_len => k_is); (case z_list => k_is); (case z_max => k_is); (case z_min => k_is); (case z_range => k_is); (case z_repr => k_is); (case z_set => k_is); (case z_sorted => k_is); (case z_tuple => k_is); (case z_zip => k_is); (case q_MOST_TERRACES => k_is)
