import PyProof.Rows.All
import Wide.All
import OpenK.AllK
import Wide.FinOn
import HandS.ForMost
import HandS.TupAny
import HandS.Style
import HandS.IsInst
import KE.DataCmp
import KE.DataEq
import KE.DataMinMax
import KE.DataIsa
import KE.SortData
import PyProof.ReprRoads
import PyProof.TupleOfSeq
import HandS.TupMul
import HandS.Conv
import HandS.WideBits
import HandS.Text
import HandS.Zip
import KE.DatumIndex
import KE.KIndexOf
import HandS.DictComp
import KE.KDictSum
import HandS.Dict
import PyProof.ReprLen
import KE.GoesMore
import KE.GoesZip
import PyProof.Draws
import HandS.More
import HandS.Small
import HandS.Strs
import HandS.SetFor
import HandS.TupSets
import HandS.NoneIn
import KE.KRevSl
import HandS.TupLen
import KE.KDictDisplayH
import PySem.Challenge.RW_pourasked_k87_whole_carried_back
set_option Elab.async false
set_option linter.all false
set_option maxRecDepth 100000
set_option maxHeartbeats 1000000
/-! A calculus of plain data over the hand layer: what a name holds is data (never an address); lists that a def makes are its own until they are given away. -/
namespace DL
open PySem PySem.Spec PyProof.Rows L2
abbrev D := PyData
/-- what a name holds: data that nobody changes any more; a list (a dict) of one's own; a token of the zone -/
inductive DV where
  | sh (d : D)
  | own (es : List DV)
  | dic (kvs : List (Key × DV))
  | dit (ks : List (List Key))
  | tok (n : Nat)
  /-- a tuple whose very object is known -/
  | kt (ds : List D)
/-- the zone: what may change behind every call (the deck), its invariant -/
structure Zn where
  P : Program
  w : World
  Z : Addr → Prop
  J : Hp → Prop
  tokV : Nat → V
  jmut : ∀ H, J H → ∀ a, Z a → Mut (H a)
  jloc : ∀ H H', J H → (∀ a, Z a → H' a = H a) → J H'
section
variable (K : PySem.W.Frag) (G : Addr → Prop) (H : Hp)
/-- a list to be read: one that G speaks of -/
def LstAt (a : Addr) (vs : List V) : Prop := H a = some (.lst vs) ∧ G a
mutual
inductive Dq : V → D → Prop
  | non : Dq .non .none
  | bl (b : Bool) : Dq (.bl b) (.bool b)
  | int (i : Int) : Dq (.int i) (.int i)
  | str (s : Str) : Dq (.str s) (.str s)
  | lst {a : Addr} {vs : List V} {ds : List D} : LstAt G H a vs → DqAll vs ds → Dq (.ref a) (.list ds)
  | tup {a : Addr} {vs : List V} {ds : List D} : SqT K H a vs → DqAll vs ds → Dq (.ref a) (.tuple ds)
inductive DqAll : List V → List D → Prop
  | nil : DqAll [] []
  | cons {v : V} {d : D} {vs : List V} {ds : List D} : Dq v d → DqAll vs ds → DqAll (v :: vs) (d :: ds)
end
end
section
variable {K : PySem.W.Frag} {G G' : Addr → Prop} {H H' : Hp}
/-- what may happen between two looks at shared data -/
structure Keep (G : Addr → Prop) (H : Hp) (G' : Addr → Prop) (H' : Hp) : Prop where
  tup : ∀ a vs, H a = some (.tup vs) → H' a = some (.tup vs)
  frz : ∀ a o u, H a = some (.frz o u) → H' a = some (.frz o u)
  lst : ∀ a vs, H a = some (.lst vs) → G a → H' a = some (.lst vs) ∧ G' a
theorem Keep.rd {a : Addr} {vs : List V} (k : Keep G H G' H') (h : Rd H a (.tup vs)) : Rd H' a (.tup vs) := by
  rcases h with h | ⟨o, h⟩
  · exact .inl (k.tup _ _ h)
  · exact .inr ⟨o, k.frz _ _ _ h⟩
theorem Keep.sqT {a : Addr} {vs : List V} (k : Keep G H G' H') (h : SqT K H a vs) : SqT K H' a vs := by
  rcases h with h | h
  · exact .inl (k.rd h)
  · exact .inr h
theorem Keep.lstAt {a : Addr} {vs : List V} (k : Keep G H G' H') (h : LstAt G H a vs) : LstAt G' H' a vs := by
  exact k.lst _ _ h.1 h.2
mutual
theorem Dq.mono (k : Keep G H G' H') : ∀ (d : D) (v : V), Dq K G H v d → Dq K G' H' v d
  | .none, _, h => by cases h; exact .non
  | .bool _, _, h => by cases h; exact .bl _
  | .int _, _, h => by cases h; exact .int _
  | .str _, _, h => by cases h; exact .str _
  | .list ds, _, h => by
    cases h with
    | lst h1 h2 => exact .lst (k.lstAt h1) (DqAll.mono k ds _ h2)
  | .tuple ds, _, h => by
    cases h with
    | tup h1 h2 => exact .tup (k.sqT h1) (DqAll.mono k ds _ h2)
  | .dict _, _, h => by cases h
theorem DqAll.mono (k : Keep G H G' H') : ∀ (ds : List D) (vs : List V), DqAll K G H vs ds → DqAll K G' H' vs ds
  | [], _, h => by cases h; exact .nil
  | d :: ds, _, h => by
    cases h with
    | cons h1 h2 => exact .cons (Dq.mono k d _ h1) (DqAll.mono k ds _ h2)
end
theorem Keep.weak (h : ∀ a, G a → G' a) : Keep G H G' H := ⟨fun _ _ e => e, fun _ _ _ e => e, fun a _ e g => ⟨e, h a g⟩⟩
theorem DqAll.length : ∀ {vs : List V} {ds : List D}, DqAll K G H vs ds → vs.length = ds.length
  | _, _, .nil => rfl
  | _, _, .cons _ t => congrArg (· + 1) (DqAll.length t)
theorem DqAll.get : ∀ {vs : List V} {ds : List D} {i : Nat} {d : D}, DqAll K G H vs ds → ds[i]? = some d → ∃ v, vs[i]? = some v ∧ Dq K G H v d
  | _, _, _, _, .nil, e => by cases e
  | _, _, 0, _, .cons r _, e => by cases e; exact ⟨_, rfl, r⟩
  | _, _, i + 1, d, .cons _ t, e => by
    obtain ⟨v, h1, h2⟩ := DqAll.get (i := i) (d := d) t (by simpa using e)
    exact ⟨v, by simpa using h1, h2⟩
theorem DqAll.append : ∀ {vs us : List V} {ds es : List D}, DqAll K G H vs ds → DqAll K G H us es → DqAll K G H (vs ++ us) (ds ++ es)
  | _, _, _, _, .nil, s => s
  | _, _, _, _, .cons r t, s => .cons r (DqAll.append t s)
theorem DqAll.take : ∀ {vs : List V} {ds : List D} (n : Nat), DqAll K G H vs ds → DqAll K G H (vs.take n) (ds.take n)
  | _, _, 0, _ => .nil
  | _, _, _ + 1, .nil => .nil
  | _, _, n + 1, .cons r t => .cons r (DqAll.take n t)
theorem DqAll.drop : ∀ {vs : List V} {ds : List D} (n : Nat), DqAll K G H vs ds → DqAll K G H (vs.drop n) (ds.drop n)
  | _, _, 0, r => r
  | _, _, _ + 1, .nil => .nil
  | _, _, n + 1, .cons _ t => DqAll.drop n t
/-- only one list of values has a given data's flat items -/
theorem DqAll.ints : ∀ {ns : List Int} {vs : List V}, DqAll K G H vs (ns.map PyData.int) → vs = ns.map V.int
  | [], _, h => by cases h; rfl
  | n :: ns, _, h => by
    cases h with
    | cons h1 h2 =>
      cases h1
      rw [DqAll.ints h2]; rfl
theorem DqAll.bools : ∀ {ns : List Bool} {vs : List V}, DqAll K G H vs (ns.map PyData.bool) → vs = ns.map V.bl
  | [], _, h => by cases h; rfl
  | n :: ns, _, h => by
    cases h with
    | cons h1 h2 =>
      cases h1
      rw [DqAll.bools h2]; rfl
theorem DqAll.ofInts : ∀ (ns : List Int), DqAll K G H (ns.map V.int) (ns.map PyData.int)
  | [] => .nil
  | n :: ns => .cons (.int n) (DqAll.ofInts ns)
end
/-! ### data without a list within -/
mutual
def noLst : D → Bool
  | .list _ => false
  | .dict _ => false
  | .tuple ds => noLsts ds
  | _ => true
def noLsts : List D → Bool
  | [] => true
  | d :: ds => noLst d && noLsts ds
end
section
variable {K : PySem.W.Frag} {G G' : Addr → Prop} {H : Hp}
mutual
theorem Dq.free : ∀ (d : D) (v : V), noLst d = true → Dq K G H v d → Dq K G' H v d
  | .none, _, _, h => by cases h; exact .non
  | .bool _, _, _, h => by cases h; exact .bl _
  | .int _, _, _, h => by cases h; exact .int _
  | .str _, _, _, h => by cases h; exact .str _
  | .list ds, _, n, h => by simp [noLst] at n
  | .tuple ds, _, n, h => by
    cases h with
    | tup h1 h2 => exact .tup h1 (DqAll.free ds _ (by simpa [noLst] using n) h2)
  | .dict _, _, _, h => by cases h
theorem DqAll.free : ∀ (ds : List D) (vs : List V), noLsts ds = true → DqAll K G H vs ds → DqAll K G' H vs ds
  | [], _, _, h => by cases h; exact .nil
  | d :: ds, _, n, h => by
    simp only [noLsts, Bool.and_eq_true] at n
    cases h with
    | cons h1 h2 => exact .cons (Dq.free d _ n.1 h1) (DqAll.free ds _ n.2 h2)
end
end
/-! ### dicts whose keys are tuples of ints and texts: the keys alone matter -/
abbrev TKey := List Key × Addr
/-- the dict at D has these keys, in this order -/
def KeysAt (P : Program) (w : World) (D : Addr) (ks : List TKey) : Heap → Prop := fun h => (D == sysModules) = false ∧
  ∃ xs : List (List Key × Addr × Value), xs.map (fun x => (x.1, x.2.1)) = ks ∧ ∃ o es ep, h.get? D = some o ∧ o.ExactDict ∧ o.data = .dict es ep ∧ es.toList = xs.map (entryOfKey (tupleKind (mixKind P w)))
abbrev HOT (P : Program) (w : World) (D : Addr) (ks : List TKey) : HO := .ext (KeysAt P w D ks)
/-! ### what a name holds, at the heap; the addresses that it owns -/
section
variable (K : PySem.W.Frag) (C : Zn) (F : Addr → Prop) (H : Hp)
mutual
inductive Rep : V → DV → List Addr → Prop
  | sh {v : V} {d : D} : Dq K F H v d → Rep v (.sh d) []
  | own {a : Addr} {vs : List V} {es : List DV} {as : List Addr} : H a = some (.lst vs) → Reps vs es as → Rep (.ref a) (.own es) (a :: as)
  | dic {a : Addr} {kvs : List (Key × V)} {es : List (Key × DV)} {as : List Addr} : H a = some (.dK kvs) → kvs.map (·.1) = es.map (·.1) → Reps (kvs.map (·.2)) (es.map (·.2)) as → Rep (.ref a) (.dic es) (a :: as)
  | dit {a : Addr} {ks : List TKey} : H a = some (HOT C.P C.w a ks) → (∀ q ∈ ks, SqT K H q.2 (q.1.map kV)) → (ks.map (·.1)).Nodup → Rep (.ref a) (.dit (ks.map (·.1))) [a]
  | tok (n : Nat) : Rep (C.tokV n) (.tok n) []
  | kt {a : Addr} {o : Obj} {vs : List V} {ds : List D} : H a = some (.frz o (.tup vs)) → o.dict = none → DqAll K F H vs ds → Rep (.ref a) (.kt ds) []
inductive Reps : List V → List DV → List Addr → Prop
  | nil : Reps [] [] []
  | cons {v : V} {d : DV} {vs : List V} {ds : List DV} {as bs : List Addr} : Rep v d as → Reps vs ds bs → Reps (v :: vs) (d :: ds) (as ++ bs)
end
end
section
variable {K : PySem.W.Frag} {C : Zn} {F F' : Addr → Prop} {H H' : Hp}
mutual
theorem Rep.mono (k : Keep F H F' H') : ∀ {v : V} {d : DV} {as : List Addr}, Rep K C F H v d as → (∀ a ∈ as, H' a = H a) → Rep K C F' H' v d as
  | _, _, _, .sh h, _ => .sh (Dq.mono k _ _ h)
  | _, _, _, .own e r, s => .own ((s _ List.mem_cons_self).trans e) (Reps.mono k r fun a m => s a (List.mem_cons_of_mem _ m))
  | _, _, _, .dic e q r, s => .dic ((s _ List.mem_cons_self).trans e) q (Reps.mono k r fun a m => s a (List.mem_cons_of_mem _ m))
  | _, _, _, .dit e q r, s => .dit ((s _ List.mem_cons_self).trans e) (fun z m => Keep.sqT k (q z m)) r
  | _, _, _, .tok n, _ => .tok n
  | _, _, _, .kt e d r, _ => .kt (k.frz _ _ _ e) d (DqAll.mono k _ _ r)
theorem Reps.mono (k : Keep F H F' H') : ∀ {vs : List V} {ds : List DV} {as : List Addr}, Reps K C F H vs ds as → (∀ a ∈ as, H' a = H a) → Reps K C F' H' vs ds as
  | _, _, _, .nil, _ => .nil
  | _, _, _, .cons r t, s => .cons (Rep.mono k r fun a m => s a (List.mem_append_left _ m)) (Reps.mono k t fun a m => s a (List.mem_append_right _ m))
end
mutual
/-- owned addresses are tracked -/
theorem Rep.there : ∀ {v : V} {d : DV} {as : List Addr}, Rep K C F H v d as → ∀ a ∈ as, ∃ o, H a = some o ∧ Mut (some o)
  | _, _, _, .sh _, _, m => by cases m
  | _, _, _, .own e r, a, m => by
    rcases List.mem_cons.mp m with rfl | m
    · exact ⟨_, e, trivial⟩
    · exact Reps.there r a m
  | _, _, _, .dic e _ r, a, m => by
    rcases List.mem_cons.mp m with rfl | m
    · exact ⟨_, e, trivial⟩
    · exact Reps.there r a m
  | _, _, _, .dit e _ _, a, m => by
    obtain rfl := List.mem_singleton.mp m
    exact ⟨_, e, trivial⟩
  | _, _, _, .tok _, _, m => by cases m
  | _, _, _, .kt _ _ _, _, m => by cases m
theorem Reps.there : ∀ {vs : List V} {ds : List DV} {as : List Addr}, Reps K C F H vs ds as → ∀ a ∈ as, ∃ o, H a = some o ∧ Mut (some o)
  | _, _, _, .nil, _, m => by cases m
  | _, _, _, .cons r t, a, m => by
    rcases List.mem_append.mp m with m | m
    · exact Rep.there r a m
    · exact Reps.there t a m
end
theorem Reps.length : ∀ {vs : List V} {ds : List DV} {as : List Addr}, Reps K C F H vs ds as → vs.length = ds.length
  | _, _, _, .nil => rfl
  | _, _, _, .cons _ t => congrArg (· + 1) (Reps.length t)
theorem Reps.append : ∀ {vs us : List V} {ds es : List DV} {as bs : List Addr}, Reps K C F H vs ds as → Reps K C F H us es bs → Reps K C F H (vs ++ us) (ds ++ es) (as ++ bs)
  | _, _, _, _, _, _, .nil, s => s
  | _, _, _, _, _, _, .cons r t, s => by rw [List.append_assoc]; exact .cons r (Reps.append t s)
theorem Reps.ofDq : ∀ {vs : List V} {ds : List D}, DqAll K F H vs ds → Reps K C F H vs (ds.map DV.sh) []
  | _, _, .nil => .nil
  | _, _, .cons r t => .cons (as := []) (.sh r) (Reps.ofDq t)
end
/-! ### giving away: a value as data -/
mutual
def DV.fz : DV → Option D
  | .sh d => some d
  | .own es => (DV.fzs es).map PyData.list
  | .dic _ => none
  | .dit _ => none
  | .tok _ => none
  | .kt ds => some (.tuple ds)
def DV.fzs : List DV → Option (List D)
  | [] => some []
  | e :: es => match DV.fz e, DV.fzs es with
    | some d, some ds => some (d :: ds)
    | _, _ => none
end
theorem fzs_sh : ∀ ds : List D, DV.fzs (ds.map DV.sh) = some ds
  | [] => rfl
  | d :: ds => by rw [List.map_cons, DV.fzs, DV.fz, fzs_sh ds]
section
variable {K : PySem.W.Frag} {C : Zn} {F G : Addr → Prop} {H : Hp}
mutual
theorem Rep.rd (hF : ∀ a, F a → G a) : ∀ {v : V} {e : DV} {as : List Addr} {d : D}, Rep K C F H v e as → e.fz = some d → (∀ a ∈ as, G a) → Dq K G H v d
  | _, .sh d, _, _, h, q, _ => by
    cases h with
    | sh h => rw [DV.fz] at q; cases q; exact Dq.mono (Keep.weak hF) _ _ h
  | _, .own es, _, d, h, q, g => by
    cases h with
    | own e r =>
      rw [DV.fz] at q
      cases z : DV.fzs es with
      | none => rw [z] at q; cases q
      | some ds =>
        rw [z] at q; cases q
        exact .lst ⟨e, g _ List.mem_cons_self⟩ (Reps.rd hF r z fun a m => g a (List.mem_cons_of_mem _ m))
  | _, .dic _, _, _, _, q, _ => by rw [DV.fz] at q; cases q
  | _, .dit _, _, _, _, q, _ => by rw [DV.fz] at q; cases q
  | _, .tok _, _, _, _, q, _ => by rw [DV.fz] at q; cases q
  | _, .kt ds, _, _, h, q, _ => by
    cases h with
    | kt e d r => rw [DV.fz] at q; cases q; exact .tup (.inl (.inr ⟨_, e⟩)) (DqAll.mono (Keep.weak hF) _ _ r)
theorem Reps.rd (hF : ∀ a, F a → G a) : ∀ {vs : List V} {es : List DV} {as : List Addr} {ds : List D}, Reps K C F H vs es as → DV.fzs es = some ds → (∀ a ∈ as, G a) → DqAll K G H vs ds
  | _, [], _, _, h, q, _ => by
    cases h
    rw [DV.fzs] at q; cases q; exact .nil
  | _, e :: es, _, _, h, q, g => by
    cases h with
    | cons r t =>
      rw [DV.fzs] at q
      cases z1 : DV.fz e with
      | none => rw [z1] at q; cases q
      | some d =>
        cases z2 : DV.fzs es with
        | none => rw [z1, z2] at q; cases q
        | some ds =>
          rw [z1, z2] at q; cases q
          exact .cons (Rep.rd hF r z1 fun a m => g a (List.mem_append_left _ m)) (Reps.rd hF t z2 fun a m => g a (List.mem_append_right _ m))
end
end
end DL
set_option Elab.async false
set_option linter.all false
set_option maxRecDepth 100000
set_option maxHeartbeats 1000000
namespace DL
open PySem PySem.Spec L2
open PyProof.Rows hiding St
/-! ### the state: names, what is given away, the heap -/
abbrev DE := List (Option DV)
section
variable (K : PySem.W.Frag) (C : Zn) (F : Addr → Prop) (H : Hp)
inductive Envs : St → DE → List Addr → Prop
  | nil : Envs [] [] []
  | off {x : Option V} {σ : St} {δ : DE} {as : List Addr} : Envs σ δ as → Envs (x :: σ) (none :: δ) as
  | on {v : V} {d : DV} {σ : St} {δ : DE} {as bs : List Addr} : Rep K C F H v d as → Envs σ δ bs → Envs (some v :: σ) (some d :: δ) (as ++ bs)
/-- the base is in order -/
structure Bs : Prop where
  j : C.J H
  f : ∀ a, F a → ¬ C.Z a ∧ ∃ o, H a = some o
/-- the names as the data says -/
def At0 (σ : St) (δ : DE) : Prop := ∃ as, Envs K C F H σ δ as ∧ as.Nodup ∧ (∀ a ∈ as, ¬ F a ∧ ¬ C.Z a) ∧ Bs C F H
end
/-- a quiet step: new things come, all else stays but the zone -/
structure Go (C : Zn) (F : Addr → Prop) (H : Hp) (F' : Addr → Prop) (H' : Hp) : Prop where
  same : ∀ a o, H a = some o → ¬ C.Z a → H' a = some o
  grow : ∀ a, F a → F' a
  new : ∀ a, F' a → F a ∨ H a = none
  ok : Bs C F' H'
section
variable {K : PySem.W.Frag} {C : Zn} {F F1 F2 F' : Addr → Prop} {H H0 H1 H2 H' : Hp} {σ : St} {δ : DE} {as : List Addr}
theorem Bs.nz (b : Bs C F H) {a : Addr} (h : ¬ Mut (H a)) : ¬ C.Z a := fun z => h (C.jmut H b.j a z)
theorem Bs.nzn (b : Bs C F H) {a : Addr} (h : H a = none) : ¬ C.Z a := b.nz (by rw [h]; exact id)
theorem Go.refl (b : Bs C F H) : Go C F H F H := ⟨fun _ _ e _ => e, fun _ h => h, fun _ h => .inl h, b⟩
theorem Go.none (b : Bs C F H) (g : Go C F H F' H') {a : Addr} (h : H' a = none) : H a = none := by
  cases e : H a with
  | none => rfl
  | some o =>
    have := g.same a o e (g.ok.nzn h)
    rw [h] at this; cases this
theorem Go.trans (b : Bs C F H) (g : Go C F H F1 H1) (g' : Go C F1 H1 F2 H2) : Go C F H F2 H2 :=
  ⟨fun a o e z => g'.same a o (g.same a o e z) z, fun a h => g'.grow a (g.grow a h), fun a h => by
    rcases g'.new a h with h | h
    · exact g.new a h
    · exact .inr (g.none b h), g'.ok⟩
theorem Go.keep (b : Bs C F H) (g : Go C F H F' H') : Keep F H F' H' :=
  ⟨fun a vs e => g.same a _ e (b.nz (by rw [e]; exact id)), fun a o u e => g.same a _ e (b.nz (by rw [e]; exact id)), fun a vs e h => ⟨g.same a _ e (b.f a h).1, g.grow a h⟩⟩
/-- what is read, outside the zone -/
abbrev NZ (C : Zn) : Addr → Prop := fun a => ¬ C.Z a
theorem Go.keepZ (b : Bs C F H) (g : Go C F H F' H') : Keep (NZ C) H (NZ C) H' :=
  ⟨fun a vs e => g.same a _ e (b.nz (by rw [e]; exact id)), fun a o u e => g.same a _ e (b.nz (by rw [e]; exact id)), fun a vs e h => ⟨g.same a _ e h, h⟩⟩
theorem Bs.keepZ (b : Bs C F H) : Keep F H (NZ C) H := .weak fun a h => (b.f a h).1
theorem Keep.trans {G G1 G2 : Addr → Prop} (k : Keep G H G1 H1) (k' : Keep G1 H1 G2 H2) : Keep G H G2 H2 :=
  ⟨fun a vs e => k'.tup a vs (k.tup a vs e), fun a o u e => k'.frz a o u (k.frz a o u e), fun a vs e h => by
    obtain ⟨e1, h1⟩ := k.lst a vs e h
    exact k'.lst a vs e1 h1⟩
theorem Keep.refl {G : Addr → Prop} : Keep G H G H := .weak fun _ h => h
/-- a new object -/
theorem Go.laid (b : Bs C F H) {p : Addr} {o : HO} (n : H p = Option.none) : Go C F H F (upd H p o) := by
  have nz := b.nzn n
  have ne : ∀ a, C.Z a → a ≠ p := fun a z e => nz (e ▸ z)
  refine ⟨fun a u e _ => ?_, fun _ h => h, fun _ h => .inl h, C.jloc H _ b.j fun a z => upd_ne (ne a z), fun a h => ⟨(b.f a h).1, ?_⟩⟩
  · have : a ≠ p := fun q => by rw [q, n] at e; cases e
    rw [upd_ne this]; exact e
  · obtain ⟨u, e⟩ := (b.f a h).2
    have : a ≠ p := fun q => by rw [q, n] at e; cases e
    exact ⟨u, by rw [upd_ne this]; exact e⟩
theorem Envs.mono (k : Keep F H F' H') : ∀ {σ : St} {δ : DE} {as : List Addr}, Envs K C F H σ δ as → (∀ a ∈ as, H' a = H a) → Envs K C F' H' σ δ as
  | _, _, _, .nil, _ => .nil
  | _, _, _, .off t, s => .off (Envs.mono k t s)
  | _, _, _, .on r t, s => .on (r.mono k fun a m => s a (List.mem_append_left _ m)) (Envs.mono k t fun a m => s a (List.mem_append_right _ m))
theorem Envs.there : ∀ {σ : St} {δ : DE} {as : List Addr}, Envs K C F H σ δ as → ∀ a ∈ as, ∃ o, H a = some o ∧ Mut (some o)
  | _, _, _, .nil, _, m => by cases m
  | _, _, _, .off t, a, m => Envs.there t a m
  | _, _, _, .on r t, a, m => by
    rcases List.mem_append.mp m with m | m
    · exact r.there a m
    · exact Envs.there t a m
theorem Envs.length : ∀ {σ : St} {δ : DE} {as : List Addr}, Envs K C F H σ δ as → σ.length = δ.length
  | _, _, _, .nil => rfl
  | _, _, _, .off t => congrArg (· + 1) (Envs.length t)
  | _, _, _, .on _ t => congrArg (· + 1) (Envs.length t)
theorem Go.own (b : Bs C F H) (g : Go C F H F' H') {as : List Addr} (t : ∀ a ∈ as, ∃ o, H a = some o ∧ Mut (some o)) (o : ∀ a ∈ as, ¬ F a ∧ ¬ C.Z a) : (∀ a ∈ as, H' a = H a) ∧ ∀ a ∈ as, ¬ F' a ∧ ¬ C.Z a := by
  refine ⟨fun a m => ?_, fun a m => ⟨fun h => ?_, (o a m).2⟩⟩
  · obtain ⟨u, e, _⟩ := t a m
    rw [e]; exact g.same a u e (o a m).2
  · rcases g.new a h with h | h
    · exact (o a m).1 h
    · obtain ⟨u, e, _⟩ := t a m
      rw [h] at e; cases e
theorem At0.go (x : At0 K C F H σ δ) (g : Go C F H F' H') : At0 K C F' H' σ δ := by
  obtain ⟨as, e, nd, o, b⟩ := x
  obtain ⟨s, o'⟩ := g.own b e.there o
  exact ⟨as, e.mono (g.keep b) s, nd, o', g.ok⟩
theorem At0.bs (x : At0 K C F H σ δ) : Bs C F H := by
  obtain ⟨_, _, _, _, b⟩ := x
  exact b
theorem Envs.get : ∀ {σ : St} {δ : DE} {as : List Addr} {i : Nat} {d : DV}, Envs K C F H σ δ as → δ[i]? = some (some d) → ∃ v bs, σ[i]? = some (some v) ∧ Rep K C F H v d bs ∧ (∀ a ∈ bs, a ∈ as) ∧ bs.Sublist as
  | _, _, _, _, _, .nil, e => by cases e
  | _, _, _, 0, _, .off t, e => by cases e
  | _, _, _, i + 1, d, .off t, e => by
    obtain ⟨v, bs, h1, h2, h3, h4⟩ := Envs.get (i := i) (d := d) t (by simpa using e)
    exact ⟨v, bs, by simpa using h1, h2, h3, h4⟩
  | _, _, _, 0, _, .on r t, e => by cases e; exact ⟨_, _, rfl, r, fun a m => List.mem_append_left _ m, List.sublist_append_left _ _⟩
  | _, _, _, i + 1, d, .on r t, e => by
    obtain ⟨v, bs, h1, h2, h3, h4⟩ := Envs.get (i := i) (d := d) t (by simpa using e)
    exact ⟨v, bs, by simpa using h1, h2, fun a m => List.mem_append_right _ (h3 a m), h4.trans (List.sublist_append_right _ _)⟩
end
/-! ### results of expressions -/
inductive R where
  /-- a value: shared data, or a new thing of one's own -/
  | val (d : DV)
  /-- data that stands in a thing of one's own: to be read -/
  | br (d : D)
def els (d : D) : Bool := match d with
  | .list ds => noLsts ds
  | .tuple ds => noLsts ds
  | d => noLst d
namespace R
/-- as data, to be read -/
def rd : R → Option D
  | .val d => d.fz
  | .br d => some d
/-- as data, given away -/
def fd : R → Option D
  | .val d => d.fz
  | .br d => if noLst d then some d else none
/-- as what a name may hold -/
def fx : R → Option DV
  | .val d => some d
  | .br d => if noLst d then some (.sh d) else none
/-- as data whose items are given away -/
def sup : R → Option D
  | .val d => d.fz
  | .br d => if els d then some d else none
abbrev sh (d : D) : R := .val (.sh d)
@[simp] theorem rd_sh (d : D) : (R.val (.sh d)).rd = some d := by rw [rd, DV.fz]
@[simp] theorem fd_sh (d : D) : (R.val (.sh d)).fd = some d := by rw [fd, DV.fz]
@[simp] theorem sup_sh (d : D) : (R.val (.sh d)).sup = some d := by rw [sup, DV.fz]
@[simp] theorem fx_val (d : DV) : (R.val d).fx = some d := rfl
@[simp] theorem rd_br (d : D) : (R.br d).rd = some d := rfl
end R
section
variable (K : PySem.W.Frag) (C : Zn) (F : Addr → Prop) (H0 H : Hp) (v : V)
/-- a result, as seen from the state ahead of the expression -/
def RR : R → Prop
  | .val d => ∃ as, Rep K C F H v d as ∧ as.Nodup ∧ ∀ a ∈ as, ¬ F a ∧ H0 a = none
  | .br d => Dq K (NZ C) H v d
/-- the whole may be one's own, what stands in it is given away -/
def Sup (d : D) : Prop := match d with
  | .list ds => ∃ a vs, v = .ref a ∧ LstAt (NZ C) H a vs ∧ DqAll K F H vs ds
  | .tuple ds => ∃ a vs, v = .ref a ∧ SqT K H a vs ∧ DqAll K F H vs ds
  | d => Dq K F H v d
end
section
variable {K : PySem.W.Frag} {C : Zn} {F F1 F2 F' : Addr → Prop} {H H0 H1 H2 H' : Hp} {σ : St} {δ : DE} {v : V} {r : R} {d : D}
theorem RR.go (b : Bs C F H) (nz : ∀ a, H0 a = none → ¬ C.Z a) (g : Go C F H F' H') (h : RR K C F H0 H v r) : RR K C F' H0 H' v r := by
  cases r with
  | br d => exact Dq.mono (g.keepZ b) _ _ h
  | val d =>
    obtain ⟨as, h1, h2, h3⟩ := h
    have o : ∀ a ∈ as, ¬ F a ∧ ¬ C.Z a := fun a m => ⟨(h3 a m).1, nz a (h3 a m).2⟩
    obtain ⟨s, o'⟩ := g.own b h1.there o
    exact ⟨as, h1.mono (g.keep b) s, h2, fun a m => ⟨(o' a m).1, (h3 a m).2⟩⟩
theorem RR.sh (h : Dq K F H v d) : RR K C F H0 H v (.val (.sh d)) := ⟨[], .sh h, List.nodup_nil, fun _ m => by cases m⟩
theorem RR.rd (b : Bs C F H) (nz : ∀ a, H0 a = none → ¬ C.Z a) (h : RR K C F H0 H v r) (e : r.rd = some d) : Dq K (NZ C) H v d := by
  cases r with
  | br d' =>
    have e' : some d' = some d := e
    obtain rfl := Option.some.inj e'
    exact h
  | val d' =>
    obtain ⟨as, h1, h2, h3⟩ := h
    exact h1.rd (fun a m => (b.f a m).1) e fun a m => nz a (h3 a m).2
/-- giving away what is new -/
theorem RR.fd (b0 : Bs C F1 H0) (g : Go C F1 H0 F H) (h : RR K C F H0 H v r) (e : r.fd = some d) : ∃ F', Go C F1 H0 F' H ∧ (∀ a, F a → F' a) ∧ Dq K F' H v d := by
  cases r with
  | br d' =>
    have e' : (if noLst d' then some d' else none) = some d := e
    split at e'
    · rename_i n
      obtain rfl := Option.some.inj e'
      exact ⟨F, g, fun _ m => m, Dq.free _ _ n h⟩
    · cases e'
  | val d' =>
    obtain ⟨as, h1, h2, h3⟩ := h
    refine ⟨fun a => F a ∨ a ∈ as, ⟨g.same, fun a m => .inl (g.grow a m), fun a m => ?_, g.ok.j, fun a m => ?_⟩, fun _ m => .inl m, h1.rd (fun _ m => .inl m) e fun a m => .inr m⟩
    · rcases m with m | m
      · exact g.new a m
      · exact .inr (h3 a m).2
    · rcases m with m | m
      · exact g.ok.f a m
      · obtain ⟨o, e, _⟩ := h1.there a m
        exact ⟨b0.nzn (h3 a m).2, o, e⟩
theorem Sup.of (b : Bs C F H) (h : Dq K F H v d) : Sup K C F H v d := by
  cases h with
  | lst h1 h2 => exact ⟨_, _, rfl, b.keepZ.lstAt h1, h2⟩
  | tup h1 h2 => exact ⟨_, _, rfl, h1, h2⟩
  | non => exact .non
  | bl => exact .bl _
  | int => exact .int _
  | str => exact .str _
theorem RR.sup (b0 : Bs C F1 H0) (g : Go C F1 H0 F H) (h : RR K C F H0 H v r) (e : r.sup = some d) : ∃ F', Go C F1 H0 F' H ∧ (∀ a, F a → F' a) ∧ Sup K C F' H v d := by
  cases r with
  | val d' =>
    obtain ⟨F', g', k, h'⟩ := RR.fd (r := .val d') b0 g h (show (R.val d').fd = some _ from e)
    exact ⟨F', g', k, Sup.of g'.ok h'⟩
  | br d' =>
    refine ⟨F, g, fun _ m => m, ?_⟩
    have e' : (if els d' then some d' else none) = some d := e
    split at e'
    · rename_i n
      obtain rfl := Option.some.inj e'
      have h : Dq K (NZ C) H v d' := h
      cases h with
      | lst h1 h2 => exact ⟨_, _, rfl, h1, DqAll.free _ _ n h2⟩
      | tup h1 h2 => exact ⟨_, _, rfl, h1, DqAll.free _ _ n h2⟩
      | non => exact .non
      | bl => exact .bl _
      | int => exact .int _
      | str => exact .str _
    · cases e'
theorem RR.fx (b : Bs C F H) (h : RR K C F H0 H v r) {dv : DV} (e : r.fx = some dv) : RR K C F H0 H v (.val dv) := by
  cases r with
  | val d' =>
    have e' : some d' = some dv := e
    obtain rfl := Option.some.inj e'
    exact h
  | br d' =>
    have e' : (if noLst d' then some (DV.sh d') else none) = some dv := e
    split at e'
    · rename_i n
      obtain rfl := Option.some.inj e'
      exact RR.sh (Dq.free _ _ n h)
    · cases e'
end
end DL
set_option Elab.async false
set_option linter.all false
set_option maxRecDepth 100000
set_option maxHeartbeats 1000000
namespace DL
open PySem PySem.Spec L2
open PyProof.Rows hiding St
/-! ### readings by data -/
/-- an expression's reading; a test's; an iterable's; an argument list's -/
abbrev DT := DE → (R → Prop) → Prop
abbrev DB := DE → (Bool → Prop) → Prop
abbrev DI := DE → (List D → Prop) → Prop
def Mono {ρ : Type} (t : DE → (ρ → Prop) → Prop) : Prop := ∀ δ (Q Q' : ρ → Prop), (∀ r, Q r → Q' r) → t δ Q → t δ Q'
section
variable (C : Zn) (K : PySem.W.Frag)
def lift (t : DT) : TE := fun σ H Q => ∃ δ F, At0 K C F H σ δ ∧ t δ fun r => ∀ F' H' v, Go C F H F' H' → RR K C F' H H' v r → Q v H'
def liftB (t : DB) : TT := fun σ H Q => ∃ δ F, At0 K C F H σ δ ∧ t δ fun k => ∀ F' H', Go C F H F' H' → Q k H'
end
structure PD (C : Zn) (X : Cx) (e : Expr) (t : DT) : Prop where
  mono : Mono t
  run : PE X e (lift C X.K t)
structure PB (C : Zn) (X : Cx) (e : Expr) (t : DB) : Prop where
  mono : Mono t
  run : PT X e (liftB C X.K t)
structure PBW (C : Zn) (X : Cx) (e : Expr) (t : DB) : Prop where
  mono : Mono t
  run : PW X e (liftB C X.K t)
section
variable {C : Zn} {X : Cx} {e a b c : Expr} {pos : Pos}
theorem _root_.L2.PE.imp {t t' : TE} (h : PE X e t) (k : ∀ σ H Q, t' σ H Q → t σ H Q) : PE X e t' := ⟨fun pins s σ H Q I q => h.run pins s σ H Q I (k _ _ _ q)⟩
theorem _root_.L2.PT.imp {t t' : TT} (h : PT X e t) (k : ∀ σ H Q, t' σ H Q → t σ H Q) : PT X e t' := ⟨fun pins s σ H Q I q => h.run pins s σ H Q I (k _ _ _ q)⟩
theorem _root_.L2.PW.imp {t t' : TT} (h : PW X e t) (k : ∀ σ H Q, t' σ H Q → t σ H Q) : PW X e t' := ⟨fun wh pins s σ H Q I q => h.run wh pins s σ H Q I (k _ _ _ q)⟩
theorem _root_.L2.PA.imp {es : List Expr} {t t' : TA} (h : PA X es t) (k : ∀ σ H Q, t' σ H Q → t σ H Q) : PA X es t' := ⟨fun pos pins s σ H Q I q => h.run pos pins s σ H Q I (k _ _ _ q)⟩
theorem _root_.L2.PS.imp {st : Stmt} {t t' : TS} (h : PS X st t) (k : ∀ D σ H, t' D σ H → t D σ H) : PS X st t' := ⟨fun pins s σ H D I q => h.run pins s σ H D I (k _ _ _ q)⟩
theorem _root_.L2.PSs.imp {st : List Stmt} {t t' : TS} (h : PSs X st t) (k : ∀ D σ H, t' D σ H → t D σ H) : PSs X st t' := ⟨fun pins s σ H D I q => h.run pins s σ H D I (k _ _ _ q)⟩
/-! ### names, constants -/
/-- the name in slot i -/
def dVar (i : Nat) : DT := fun δ Q => match δ[i]? with
  | some (some (.sh d)) => Q (.val (.sh d))
  | some (some (.tok n)) => Q (.val (.tok n))
  | some (some (.kt ds)) => Q (.val (.sh (.tuple ds)))
  | some (some (.own es)) => (match DV.fzs es with | some ds => Q (.br (.list ds)) | none => False)
  | _ => False
theorem Envs.rd {K : PySem.W.Frag} {F : Addr → Prop} {H : Hp} {σ : St} {δ : DE} {i : Nat} {dv : DV} {d : D} (x : At0 K C F H σ δ) (e : δ[i]? = some (some dv)) (q : dv.fz = some d) : ∃ v, σ[i]? = some (some v) ∧ Dq K (NZ C) H v d := by
  obtain ⟨as, E, nd, o, b⟩ := x
  obtain ⟨v, bs, e1, r, m, _⟩ := E.get e
  exact ⟨v, e1, r.rd (fun a h => (b.f a h).1) q fun a h => (o a (m a h)).2⟩
theorem mono_var (i : Nat) : Mono (dVar i) := by
  intro δ Q Q' h q
  unfold dVar at q ⊢
  split at q
  · exact h _ q
  · exact h _ q
  · exact h _ q
  · split at q
    · exact h _ q
    · exact q
  · exact q.elim
theorem d_var (i : Nat) {x : Str} (hN : X.N[i]? = some x := by rfl) (hv : Vis X.env.scope x := by first | exact Or.inl rfl | exact Or.inr (Or.inl rfl) | exact Or.inr (Or.inr rfl)) (hd : (x == ("__debug__" : Str)) = false := by decide) (hcd : (x == ("__classdict__" : Str)) = false := by decide) : PD C X (.Name x pos) (dVar i) := by
  refine ⟨mono_var i, (pe_var hN hv hd hcd).imp fun σ H Q h => ?_⟩
  obtain ⟨δ, F, x, h⟩ := h
  unfold dVar at h
  have E := x
  obtain ⟨as, E, nd, o, b⟩ := E
  split at h
  · rename_i d e
    obtain ⟨v, bs, e1, r, _⟩ := E.get e
    cases r with
    | sh r => exact ⟨v, e1, h F H v (.refl b) (.sh r)⟩
  · rename_i n e
    obtain ⟨v, bs, e1, r, _⟩ := E.get e
    cases r with
    | tok n => exact ⟨_, e1, h F H _ (.refl b) ⟨[], .tok n, List.nodup_nil, fun _ m => by cases m⟩⟩
  · rename_i ds e
    obtain ⟨v, bs, e1, r, _⟩ := E.get e
    cases r with
    | kt q1 q2 r => exact ⟨_, e1, h F H _ (.refl b) (.sh (.tup (.inl (.inr ⟨_, q1⟩)) r))⟩
  · rename_i es e
    split at h
    · rename_i ds q
      obtain ⟨v, e1, r⟩ := Envs.rd x e (d := .list ds) (by rw [DV.fz, q]; rfl)
      exact ⟨v, e1, h F H v (.refl b) r⟩
    · exact h.elim
  · exact h.elim
/-- a constant -/
def dC (d : D) : DT := fun _ Q => Q (.val (.sh d))
theorem mono_C (d : D) : Mono (dC d) := fun _ _ _ h q => h _ q
theorem d_const {v : V} {d : D} (h : PE X e (tC v)) (r : ∀ F H, Dq X.K F H v d) : PD C X e (dC d) :=
  ⟨mono_C d, h.imp fun σ H Q h => by
    obtain ⟨δ, F, x, h⟩ := h
    exact h F H v (.refl x.bs) (.sh (r F H))⟩
theorem d_int {i : Int} {j} : PD C X (.Constant (.int i) j pos) (dC (.int i)) := d_const pe_int fun _ _ => .int _
theorem d_bl {i : Bool} {j} : PD C X (.Constant (.bool i) j pos) (dC (.bool i)) := d_const pe_bl fun _ _ => .bl _
theorem d_non {j} : PD C X (.Constant .none j pos) (dC .none) := d_const pe_non fun _ _ => .non
theorem d_str {x : Str} {j} : PD C X (.Constant (.str x) j pos) (dC (.str x)) := d_const pe_str fun _ _ => .str _
/-- a module's constant -/
theorem d_glob {x : Str} {v : V} {u : Value} {d : D} (hg : Gl X x) (hm : X.mg x = some u) (r : RelV v u) (q : ∀ F H, Dq X.K F H v d) (hd : (x == ("__debug__" : Str)) = false := by decide) : PD C X (.Name x pos) (dC d) :=
  d_const (pe_glob hg hm r hd) q
/-! ### two-place operations on what is read -/
/-- x and y as data, to be read -/
def on2 (f : D → D → (R → Prop) → Prop) (x y : R) (Q : R → Prop) : Prop := match x.rd, y.rd with
  | some d, some e => f d e Q
  | _, _ => False
def dOp (f : D → D → (R → Prop) → Prop) (ta tb : DT) : DT := fun δ Q => ta δ fun x => tb δ fun y => on2 f x y Q
/-- the rule by values serves the operation on data -/
structure Lk2 (C : Zn) (K : PySem.W.Frag) (r : R2) (f : D → D → (R → Prop) → Prop) : Prop where
  mono : ∀ d e Q Q', (∀ x, Q x → Q' x) → f d e Q → f d e Q'
  to : ∀ F H v w d e (Q : R → Prop) (Q' : VK), Bs C F H → Dq K (NZ C) H v d → Dq K (NZ C) H w e → f d e Q →
    (∀ x u F' H', Go C F H F' H' → RR K C F' H H' u x → Q x → Q' u H') → r v w H Q'
theorem mono_op {f : D → D → (R → Prop) → Prop} {ta tb : DT} (hf : ∀ d e Q Q', (∀ x, Q x → Q' x) → f d e Q → f d e Q') (ha : Mono ta) (hb : Mono tb) : Mono (dOp f ta tb) := fun δ Q Q' h q =>
  ha δ _ _ (fun x q => hb δ _ _ (fun y q => by
    unfold on2 at q ⊢
    split at q
    · exact hf _ _ _ _ h q
    · exact q) q) q
theorem two {r : R2} {f : D → D → (R → Prop) → Prop} {ta tb : DT} (lk : Lk2 C X.K r f) (ma : Mono ta) (mb : Mono tb) {σ : St} {H : Hp} {Q : VK} (h : lift C X.K (dOp f ta tb) σ H Q) : tOp r (lift C X.K ta) (lift C X.K tb) σ H Q := by
  obtain ⟨δ, F, x, h⟩ := h
  have nz : ∀ a, H a = none → ¬ C.Z a := fun a n => x.bs.nzn n
  refine ⟨δ, F, x, ma δ _ _ (fun r1 q F1 H1 v g1 rr1 => ⟨δ, F1, x.go g1, mb δ _ _ (fun r2 q F2 H2 w g2 rr2 => ?_) q⟩) h⟩
  have nz1 : ∀ a, H1 a = none → ¬ C.Z a := fun a n => g1.ok.nzn n
  unfold on2 at q
  split at q
  · rename_i d e e1 e2
    have d1 := RR.rd g2.ok nz (rr1.go g1.ok nz g2) e1
    have d2 := RR.rd g2.ok nz1 rr2 e2
    exact lk.to F2 H2 v w d e _ _ g2.ok d1 d2 q fun x' u F' H' g' rr' q' => q' F' H' u (g1.trans x.bs (g2.trans g1.ok g')) (by
      cases x' with
      | br d => exact rr'
      | val d =>
        obtain ⟨as, z1, z2, z3⟩ := rr'
        exact ⟨as, z1, z2, fun a m => ⟨(z3 a m).1, g1.none x.bs (g2.none g1.ok (z3 a m).2)⟩⟩)
  · exact q.elim
theorem d_op {op : Operator} {r : R2} {f : D → D → (R → Prop) → Prop} {ta tb : DT} (ho : OpR X (binaryOp op) r) (lk : Lk2 C X.K r f) (ha : PD C X a ta) (hb : PD C X b tb) : PD C X (.BinOp a op b pos) (dOp f ta tb) :=
  ⟨mono_op lk.mono ha.mono hb.mono, (pe_op ho ha.run hb.run).imp fun _ _ _ h => two lk ha.mono hb.mono h⟩
theorem d_cmp {op : CmpOp} {r : R2} {f : D → D → (R → Prop) → Prop} {ta tb : DT} (ho : OpR X (compareOp op) r) (lk : Lk2 C X.K r f) (ha : PD C X a ta) (hb : PD C X b tb) (hm : behindInMarks op b = false) : PD C X (.Compare a [op] [b] pos) (dOp f ta tb) :=
  ⟨mono_op lk.mono ha.mono hb.mono, (pe_cmpR ho ha.run hb.run hm).imp fun _ _ _ h => two lk ha.mono hb.mono h⟩
/-- an expression as a test -/
def onB (x : R) (Q : Bool → Prop) : Prop := match x with
  | .val (.sh (.bool k)) => Q k
  | _ => False
def dTest (t : DT) : DB := fun δ Q => t δ fun x => onB x Q
theorem mono_test {t : DT} (h : Mono t) : Mono (dTest t) := fun δ Q Q' k q => h δ _ _ (fun x q => by
  unfold onB at q ⊢
  split at q
  · exact k _ q
  · exact q) q
theorem tst {t : DT} (m : Mono t) {σ : St} {H : Hp} {Q : Bool → Hp → Prop} (h : liftB C X.K (dTest t) σ H Q) : tTest (lift C X.K t) σ H Q := by
  obtain ⟨δ, F, x, h⟩ := h
  refine ⟨δ, F, x, m δ _ _ (fun r q F' H' v g rr => ?_) h⟩
  unfold onB at q
  split at q
  · rename_i k
    obtain ⟨as, z, _⟩ := rr
    cases z with
    | sh z =>
      cases z
      exact ⟨k, rfl, q F' H' g⟩
  · exact q.elim
theorem b_cmp {op : CmpOp} {r : R2} {f : D → D → (R → Prop) → Prop} {ta tb : DT} (ho : OpR X (compareOp op) r) (lk : Lk2 C X.K r f) (ha : PD C X a ta) (hb : PD C X b tb) (hm : behindInMarks op b = false) : PB C X (.Compare a [op] [b] pos) (dTest (dOp f ta tb)) :=
  ⟨mono_test (mono_op lk.mono ha.mono hb.mono), (pt_cmpR ho ha.run hb.run hm).imp fun _ _ _ h => by
    have q := tst (C := C) (X := X) (mono_op lk.mono ha.mono hb.mono) h
    obtain ⟨δ, F, x, h⟩ := h
    exact two (C := C) lk ha.mono hb.mono q⟩
/-- an expression that is True or False, as a test -/
theorem b_val {t : DT} (h : PD C X e t) (he : ∀ whole, isTrue e X.env whole = (do let v ← whole; standAt e.pos; holding [v] (truthy v)) := by intro _; rfl) : PB C X e (dTest t) :=
  ⟨mono_test h.mono, (pt_val h.run he).imp fun _ _ _ q => tst h.mono q⟩
/-! ### and, or, not; if -/
def dAnd (t u : DB) : DB := fun δ Q => t δ fun k => if k = true then u δ Q else Q false
def dOr (t u : DB) : DB := fun δ Q => t δ fun k => if k = true then Q true else u δ Q
def dNot (t : DB) : DB := fun δ Q => t δ fun k => Q (!k)
variable {tA tB' : DB} {rest : List Expr}
theorem bw_and1 (ha : PB C X a tA) : PBW C X (.BoolOp .And [a] pos) tA := ⟨ha.mono, pw_and1 ha.run⟩
theorem bw_or1 (ha : PB C X a tA) : PBW C X (.BoolOp .Or [a] pos) tA := ⟨ha.mono, pw_or1 ha.run⟩
theorem mono_and {t u : DB} (h : Mono t) (k : Mono u) : Mono (dAnd t u) := fun δ Q Q' m q => h δ _ _ (fun b q => by
  cases b with
  | true => exact k δ _ _ m q
  | false => exact m _ q) q
theorem mono_or {t u : DB} (h : Mono t) (k : Mono u) : Mono (dOr t u) := fun δ Q Q' m q => h δ _ _ (fun b q => by
  cases b with
  | false => exact k δ _ _ m q
  | true => exact m _ q) q
theorem bw_and (ha : PB C X a tA) (hb : PBW C X (.BoolOp .And (b :: rest) pos) tB') : PBW C X (.BoolOp .And (a :: b :: rest) pos) (dAnd tA tB') :=
  ⟨mono_and ha.mono hb.mono, (pw_and ha.run hb.run).imp fun σ H Q h => by
    obtain ⟨δ, F, x, h⟩ := h
    refine ⟨δ, F, x, ha.mono δ _ _ (fun k q F1 H1 g => ?_) h⟩
    cases k with
    | true => exact ⟨δ, F1, x.go g, hb.mono δ _ _ (fun k q F' H' g' => q F' H' (g.trans x.bs g')) q⟩
    | false => exact q F1 H1 g⟩
theorem bw_or (ha : PB C X a tA) (hb : PBW C X (.BoolOp .Or (b :: rest) pos) tB') : PBW C X (.BoolOp .Or (a :: b :: rest) pos) (dOr tA tB') :=
  ⟨mono_or ha.mono hb.mono, (pw_or ha.run hb.run).imp fun σ H Q h => by
    obtain ⟨δ, F, x, h⟩ := h
    refine ⟨δ, F, x, ha.mono δ _ _ (fun k q F1 H1 g => ?_) h⟩
    cases k with
    | false => exact ⟨δ, F1, x.go g, hb.mono δ _ _ (fun k q F' H' g' => q F' H' (g.trans x.bs g')) q⟩
    | true => exact q F1 H1 g⟩
theorem PBW.toB {t : DB} (h : PBW C X e t) : PB C X e t := ⟨h.mono, h.run.pt⟩
theorem b_not (ha : PB C X a tA) : PB C X (.UnaryOp .Not a pos) (dNot tA) :=
  ⟨fun δ Q Q' m q => ha.mono δ _ _ (fun k q => m _ q) q, (pt_not ha.run).imp fun σ H Q h => by
    obtain ⟨δ, F, x, h⟩ := h
    exact ⟨δ, F, x, h⟩⟩
def dIf (t : DB) (ta tb : DT) : DT := fun δ Q => t δ fun k => if k = true then ta δ Q else tb δ Q
theorem lift_go {K : PySem.W.Frag} {t : DT} (m : Mono t) {σ : St} {δ : DE} {F F1 : Addr → Prop} {H H1 : Hp} {Q : VK} (x : At0 K C F H σ δ) (g : Go C F H F1 H1) (h : t δ fun r => ∀ F' H' v, Go C F H F' H' → RR K C F' H H' v r → Q v H') : lift C K t σ H1 Q := by
  refine ⟨δ, F1, x.go g, m δ _ _ (fun r q F' H' v g' rr => q F' H' v (g.trans x.bs g') ?_) h⟩
  cases r with
  | br d => exact rr
  | val d =>
    obtain ⟨as, z1, z2, z3⟩ := rr
    exact ⟨as, z1, z2, fun a m => ⟨(z3 a m).1, g.none x.bs (z3 a m).2⟩⟩
theorem d_ifExp {ta tb : DT} {c : Expr} (hc : PB C X c tA) (ha : PD C X a ta) (hb : PD C X b tb) : PD C X (.IfExp c a b pos) (dIf tA ta tb) :=
  ⟨fun δ Q Q' m q => hc.mono δ _ _ (fun k q => by
    cases k with
    | true => exact ha.mono δ _ _ m q
    | false => exact hb.mono δ _ _ m q) q, (pe_ifExp hc.run ha.run hb.run).imp fun σ H Q h => by
    obtain ⟨δ, F, x, h⟩ := h
    refine ⟨δ, F, x, hc.mono δ _ _ (fun k q F1 H1 g => ?_) h⟩
    cases k with
    | true => exact lift_go ha.mono x g q
    | false => exact lift_go hb.mono x g q⟩
/-- and, or, not as values: all but the last are True or False -/
def dAndV (ta tb : DT) : DT := fun δ Q => ta δ fun x => onB x fun k => if k = true then tb δ Q else Q (.val (.sh (.bool false)))
def dOrV (ta tb : DT) : DT := fun δ Q => ta δ fun x => onB x fun k => if k = true then Q (.val (.sh (.bool true))) else tb δ Q
def dNotV (ta : DT) : DT := fun δ Q => ta δ fun x => onB x fun k => Q (.val (.sh (.bool (!k))))
theorem onB_mono {x : R} {Q Q' : Bool → Prop} (h : ∀ k, Q k → Q' k) (q : onB x Q) : onB x Q' := by
  unfold onB at q ⊢
  split at q
  · exact h _ q
  · exact q
theorem onB_to {K : PySem.W.Frag} {F : Addr → Prop} {H0 H : Hp} {v : V} {x : R} {Q : Bool → Prop} (rr : RR K C F H0 H v x) (q : onB x Q) : ∃ k, v = .bl k ∧ Q k := by
  unfold onB at q
  split at q
  · rename_i k
    obtain ⟨as, z, _⟩ := rr
    cases z with
    | sh z =>
      cases z
      exact ⟨k, rfl, q⟩
  · exact q.elim
theorem d_one {op} {t : DT} (h : PD C X a t) : PD C X (.BoolOp op [a] pos) t := ⟨h.mono, pe_one h.run⟩
theorem d_and {ta tb : DT} (ha : PD C X a ta) (hb : PD C X (.BoolOp .And (b :: rest) pos) tb) : PD C X (.BoolOp .And (a :: b :: rest) pos) (dAndV ta tb) :=
  ⟨fun δ Q Q' m q => ha.mono δ _ _ (fun x q => onB_mono (fun k q => by
    cases k with
    | true => exact hb.mono δ _ _ m q
    | false => exact m _ q) q) q, (pe_and ha.run hb.run).imp fun σ H Q h => by
    obtain ⟨δ, F, x, h⟩ := h
    refine ⟨δ, F, x, ha.mono δ _ _ (fun r q F1 H1 v g rr => ?_) h⟩
    obtain ⟨k, rfl, q⟩ := onB_to rr q
    refine ⟨k, rfl, ?_⟩
    cases k with
    | true => exact lift_go hb.mono x g q
    | false => exact q F1 H1 _ g (.sh (.bl _))⟩
theorem d_or {ta tb : DT} (ha : PD C X a ta) (hb : PD C X (.BoolOp .Or (b :: rest) pos) tb) : PD C X (.BoolOp .Or (a :: b :: rest) pos) (dOrV ta tb) :=
  ⟨fun δ Q Q' m q => ha.mono δ _ _ (fun x q => onB_mono (fun k q => by
    cases k with
    | false => exact hb.mono δ _ _ m q
    | true => exact m _ q) q) q, (pe_or ha.run hb.run).imp fun σ H Q h => by
    obtain ⟨δ, F, x, h⟩ := h
    refine ⟨δ, F, x, ha.mono δ _ _ (fun r q F1 H1 v g rr => ?_) h⟩
    obtain ⟨k, rfl, q⟩ := onB_to rr q
    refine ⟨k, rfl, ?_⟩
    cases k with
    | false => exact lift_go hb.mono x g q
    | true => exact q F1 H1 _ g (.sh (.bl _))⟩
theorem d_not {ta : DT} (ha : PD C X a ta) : PD C X (.UnaryOp .Not a pos) (dNotV ta) :=
  ⟨fun δ Q Q' m q => ha.mono δ _ _ (fun x q => onB_mono (fun k q => m _ q) q) q, (pe_not ha.run).imp fun σ H Q h => by
    obtain ⟨δ, F, x, h⟩ := h
    refine ⟨δ, F, x, ha.mono δ _ _ (fun r q F1 H1 v g rr => ?_) h⟩
    obtain ⟨k, rfl, q⟩ := onB_to rr q
    exact ⟨k, rfl, q F1 H1 _ g (.sh (.bl _))⟩⟩
end
end DL
set_option Elab.async false
set_option linter.all false
set_option maxRecDepth 100000
set_option maxHeartbeats 1000000
namespace DL
open PySem PySem.Spec L2
open PyProof.Rows hiding St
/-! ### several results -/
section
variable (K : PySem.W.Frag) (C : Zn) (F : Addr → Prop) (H : Hp)
inductive RRl : List V → List R → List Addr → Prop
  | nil : RRl [] [] []
  | val {v : V} {d : DV} {vs : List V} {rs : List R} {as bs : List Addr} : Rep K C F H v d as → RRl vs rs bs → RRl (v :: vs) (.val d :: rs) (as ++ bs)
  | br {v : V} {d : D} {vs : List V} {rs : List R} {bs : List Addr} : Dq K (NZ C) H v d → RRl vs rs bs → RRl (v :: vs) (.br d :: rs) bs
end
def RRs (K : PySem.W.Frag) (C : Zn) (F : Addr → Prop) (H0 H : Hp) (vs : List V) (rs : List R) : Prop := ∃ as, RRl K C F H vs rs as ∧ as.Nodup ∧ ∀ a ∈ as, ¬ F a ∧ H0 a = none
abbrev DL' := DE → (List R → Prop) → Prop
def liftL (C : Zn) (K : PySem.W.Frag) (t : DL') : TA := fun σ H Q => ∃ δ F, At0 K C F H σ δ ∧ t δ fun rs => ∀ F' H' vs, Go C F H F' H' → RRs K C F' H H' vs rs → Q vs H'
structure PDL (C : Zn) (X : Cx) (es : List Expr) (t : DL') : Prop where
  mono : Mono t
  len : ∀ δ Q, t δ Q → t δ fun rs => Q rs ∧ rs.length = es.length
  run : PA X es (liftL C X.K t)
section
variable {K : PySem.W.Frag} {C : Zn} {F F1 F' : Addr → Prop} {H H0 H1 H' : Hp} {vs : List V} {rs : List R} {as : List Addr}
theorem RRl.mono (k : Keep F H F' H') (kz : Keep (NZ C) H (NZ C) H') : ∀ {vs : List V} {rs : List R} {as : List Addr}, RRl K C F H vs rs as → (∀ a ∈ as, H' a = H a) → RRl K C F' H' vs rs as
  | _, _, _, .nil, _ => .nil
  | _, _, _, .val r t, s => .val (r.mono k fun a m => s a (List.mem_append_left _ m)) (RRl.mono k kz t fun a m => s a (List.mem_append_right _ m))
  | _, _, _, .br r t, s => .br (Dq.mono kz _ _ r) (RRl.mono k kz t s)
theorem RRl.there : ∀ {vs : List V} {rs : List R} {as : List Addr}, RRl K C F H vs rs as → ∀ a ∈ as, ∃ o, H a = some o ∧ Mut (some o)
  | _, _, _, .nil, _, m => by cases m
  | _, _, _, .val r t, a, m => by
    rcases List.mem_append.mp m with m | m
    · exact r.there a m
    · exact RRl.there t a m
  | _, _, _, .br _ t, a, m => RRl.there t a m
theorem RRs.nil : RRs K C F H0 H [] [] := ⟨[], .nil, List.nodup_nil, fun _ m => by cases m⟩
/-- one more, ahead: r was made first -/
theorem RRs.cons {v : V} {r : R} (b0 : Bs C F1 H0) (g : Go C F1 H0 F H) (g' : Go C F H F' H') (h : RR K C F H0 H v r) (t : RRs K C F' H H' vs rs) : RRs K C F' H0 H' (v :: vs) (r :: rs) := by
  have h' := RR.go g.ok (fun a n => b0.nzn n) g' h
  obtain ⟨bs, t1, t2, t3⟩ := t
  have t3' : ∀ a ∈ bs, ¬ F' a ∧ H0 a = none := fun a m => ⟨(t3 a m).1, g.none b0 (t3 a m).2⟩
  cases r with
  | br d => exact ⟨bs, .br h' t1, t2, t3'⟩
  | val d =>
    obtain ⟨as0, z1, z2, z3⟩ := h
    have o : ∀ a ∈ as0, ¬ F a ∧ ¬ C.Z a := fun a m => ⟨(z3 a m).1, b0.nzn (z3 a m).2⟩
    obtain ⟨s, o'⟩ := g'.own g.ok z1.there o
    refine ⟨as0 ++ bs, .val (z1.mono (g'.keep g.ok) s) t1, List.nodup_append.mpr ⟨z2, t2, fun a m b' m' e => ?_⟩, fun a m => ?_⟩
    · obtain ⟨u, q, _⟩ := z1.there a m
      have := (t3 b' m').2
      rw [← e, q] at this; cases this
    · rcases List.mem_append.mp m with m | m
      · exact ⟨(o' a m).1, (z3 a m).2⟩
      · exact t3' a m
theorem RRs.at : ∀ {vs : List V} {rs : List R} {i : Nat} {r : R}, RRs K C F H0 H vs rs → rs[i]? = some r → ∃ v, vs[i]? = some v ∧ RR K C F H0 H v r := by
  intro vs rs
  induction rs generalizing vs with
  | nil => intro i r _ e; cases e
  | cons r rs ih =>
    intro i r' ⟨as, h, nd, f⟩ e
    cases i with
    | zero =>
      cases e
      cases h with
      | val z t => exact ⟨_, rfl, _, z, (List.nodup_append.mp nd).1, fun a m => f a (List.mem_append_left _ m)⟩
      | br z t => exact ⟨_, rfl, z⟩
    | succ i =>
      cases h with
      | val z t =>
        obtain ⟨v, q1, q2⟩ := ih (i := i) (r := r') ⟨_, t, (List.nodup_append.mp nd).2.1, fun a m => f a (List.mem_append_right _ m)⟩ (by simpa using e)
        exact ⟨v, by simpa using q1, q2⟩
      | br z t =>
        obtain ⟨v, q1, q2⟩ := ih (i := i) (r := r') ⟨_, t, nd, f⟩ (by simpa using e)
        exact ⟨v, by simpa using q1, q2⟩
theorem RRs.length : ∀ {vs : List V} {rs : List R}, RRs K C F H0 H vs rs → vs.length = rs.length := by
  intro vs rs
  induction rs generalizing vs with
  | nil =>
    intro ⟨as, h, _⟩
    cases h; rfl
  | cons r rs ih =>
    intro ⟨as, h, nd, f⟩
    cases h with
    | val z t => exact congrArg (· + 1) (ih ⟨_, t, (List.nodup_append.mp nd).2.1, fun a m => f a (List.mem_append_right _ m)⟩)
    | br z t => exact congrArg (· + 1) (ih ⟨_, t, nd, f⟩)
end
/-! ### several results, given away -/
def fdL : List R → Option (List D)
  | [] => some []
  | r :: rs => match r.fd, fdL rs with
    | some d, some ds => some (d :: ds)
    | _, _ => none
def fxL : List R → Option (List DV)
  | [] => some []
  | r :: rs => match r.fx, fxL rs with
    | some d, some ds => some (d :: ds)
    | _, _ => none
/-- as an argument of a def: data that is given away, or a token -/
def R.ar : R → Option DV
  | .val (.tok n) => some (.tok n)
  | r => r.fd.map DV.sh
def arL : List R → Option (List DV)
  | [] => some []
  | r :: rs => match r.ar, arL rs with
    | some d, some ds => some (d :: ds)
    | _, _ => none
@[simp] theorem ar_sh (d : D) : (R.val (.sh d)).ar = some (.sh d) := by simp [R.ar]
@[simp] theorem ar_tok (n : Nat) : (R.val (.tok n)).ar = some (.tok n) := rfl
section
variable {K : PySem.W.Frag} {C : Zn} {F F1 F' : Addr → Prop} {H H0 H1 H' : Hp}
/-- all that is new among the results is given away -/
theorem RRs.away (b0 : Bs C F1 H0) (g : Go C F1 H0 F H) {vs : List V} {rs : List R} (h : RRs K C F H0 H vs rs) : ∃ F', Go C F1 H0 F' H ∧ (∀ a, F a → F' a) ∧ (∀ ds, fdL rs = some ds → DqAll K F' H vs ds) ∧ ∀ ds, arL rs = some ds → Reps K C F' H vs ds [] := by
  obtain ⟨as, h, nd, f⟩ := h
  refine ⟨fun a => F a ∨ a ∈ as, ⟨g.same, fun a m => .inl (g.grow a m), fun a m => ?_, g.ok.j, fun a m => ?_⟩, fun _ m => .inl m, ?_, ?_⟩
  · rcases m with m | m
    · exact g.new a m
    · exact .inr (f a m).2
  · rcases m with m | m
    · exact g.ok.f a m
    · obtain ⟨o, e, _⟩ := h.there a m
      exact ⟨b0.nzn (f a m).2, o, e⟩
  · have key : ∀ {vs : List V} {rs : List R} {bs : List Addr}, RRl K C F H vs rs bs → (∀ a ∈ bs, a ∈ as) → ∀ ds, fdL rs = some ds → DqAll K (fun a => F a ∨ a ∈ as) H vs ds := by
      intro vs rs
      induction rs generalizing vs with
      | nil => intro bs h _ ds e; cases h; cases e; exact .nil
      | cons r rs ih =>
        intro bs h s ds e
        unfold fdL at e
        split at e
        · rename_i d ds' e1 e2
          cases e
          cases h with
          | val z t =>
            exact .cons (z.rd (fun _ m => .inl m) e1 fun a m => .inr (s a (List.mem_append_left _ m))) (ih t (fun a m => s a (List.mem_append_right _ m)) _ e2)
          | @br _ d' _ _ _ z t =>
            have e' : (if noLst d' then some d' else none) = some d := e1
            split at e'
            · rename_i n
              obtain rfl := Option.some.inj e'
              exact .cons (Dq.free _ _ n z) (ih t s _ e2)
            · cases e'
        · cases e
    exact key h fun _ m => m
  · have key : ∀ {vs : List V} {rs : List R} {bs : List Addr}, RRl K C F H vs rs bs → (∀ a ∈ bs, a ∈ as) → ∀ ds, arL rs = some ds → Reps K C (fun a => F a ∨ a ∈ as) H vs ds [] := by
      intro vs rs
      induction rs generalizing vs with
      | nil => intro bs h _ ds e; cases h; cases e; exact .nil
      | cons r rs ih =>
        intro bs h s ds e
        unfold arL at e
        split at e
        · rename_i d ds' e1 e2
          cases e
          cases h with
          | @val _ dv _ _ _ _ z t =>
            have t' := ih t (fun a m => s a (List.mem_append_right _ m)) _ e2
            cases dv with
            | tok n =>
              have e1' : some (DV.tok n) = some d := e1
              obtain rfl := Option.some.inj e1'
              cases z with
              | tok => exact .cons (as := []) (.tok n) t'
            | _ =>
              unfold R.ar at e1
              obtain ⟨d0, q1, q2⟩ := Option.map_eq_some_iff.mp e1
              subst q2
              exact .cons (as := []) (.sh (z.rd (fun _ m => .inl m) q1 fun a m => .inr (s a (List.mem_append_left _ m)))) t'
          | @br _ d' _ _ _ z t =>
            obtain ⟨d0, q1, q2⟩ := Option.map_eq_some_iff.mp (show (R.fd _).map DV.sh = some d from e1)
            subst q2
            have e' : (if noLst d' then some d' else none) = some d0 := q1
            split at e'
            · rename_i n
              obtain rfl := Option.some.inj e'
              exact .cons (as := []) (.sh (Dq.free _ _ n z)) (ih t s _ e2)
            · cases e'
        · cases e
    exact key h fun _ m => m
/-- all results as what a list may hold -/
theorem RRs.hold {vs : List V} {rs : List R} {ds : List DV} (h : RRs K C F H0 H vs rs) (e : fxL rs = some ds) : ∃ as, Reps K C F H vs ds as ∧ as.Nodup ∧ ∀ a ∈ as, ¬ F a ∧ H0 a = none := by
  obtain ⟨as, h, nd, f⟩ := h
  have key : ∀ {vs : List V} {rs : List R} {bs : List Addr} {ds : List DV}, RRl K C F H vs rs bs → fxL rs = some ds → Reps K C F H vs ds bs := by
    intro vs rs
    induction rs generalizing vs with
    | nil => intro bs ds h e; cases h; cases e; exact .nil
    | cons r rs ih =>
      intro bs ds h e
      unfold fxL at e
      split at e
      · rename_i d ds' e1 e2
        cases e
        cases h with
        | val z t =>
          obtain rfl := Option.some.inj (show some _ = some d from e1)
          exact .cons z (ih t e2)
        | @br _ d' _ _ _ z t =>
          have e' : (if noLst d' then some (DV.sh d') else none) = some d := e1
          split at e'
          · rename_i n
            obtain rfl := Option.some.inj e'
            exact .cons (as := []) (.sh (Dq.free _ _ n z)) (ih t e2)
          · cases e'
      · cases e
  exact ⟨as, key h e, nd, f⟩
end
/-! ### argument lists, displays -/
def dNil : DL' := fun _ Q => Q []
def dCons (te : DT) (t : DL') : DL' := fun δ Q => te δ fun r => t δ fun rs => Q (r :: rs)
section
variable {C : Zn} {X : Cx} {e a b : Expr} {es : List Expr} {pos : Pos}
theorem l_nil : PDL C X [] dNil := ⟨fun _ _ _ h q => h _ q, fun _ _ q => ⟨q, rfl⟩, pa_nil.imp fun σ H Q h => by
  obtain ⟨δ, F, x, h⟩ := h
  exact h F H [] (.refl x.bs) .nil⟩
theorem l_cons {te : DT} {t : DL'} (ha : PD C X e te) (hr : PDL C X es t) (hs : starEach (e :: es) X.env = (false, eval e X.env) :: starEach es X.env := by rfl) : PDL C X (e :: es) (dCons te t) :=
  ⟨fun δ Q Q' m q => ha.mono δ _ _ (fun r q => hr.mono δ _ _ (fun rs q => m _ q) q) q,
    fun δ Q q => ha.mono δ _ _ (fun r q => hr.mono δ _ _ (fun rs q => ⟨q.1, by rw [List.length_cons, List.length_cons, q.2]⟩) (hr.len _ _ q)) q,
    (pa_cons ha.run hr.run hs).imp fun σ H Q h => by
      obtain ⟨δ, F, x, h⟩ := h
      refine ⟨δ, F, x, ha.mono δ _ _ (fun r q F1 H1 v g rr => ⟨δ, F1, x.go g, hr.mono δ _ _ (fun rs q F2 H2 vs g' rrs => ?_) q⟩) h⟩
      exact q F2 H2 _ (g.trans x.bs g') (RRs.cons x.bs g g' rr rrs)⟩
/-- a tuple display -/
def dTup (t : DL') : DT := fun δ Q => t δ fun rs => match fdL rs with
  | some ds => Q (.val (.sh (.tuple ds)))
  | none => False
theorem d_tup {t : DL'} {x1} (h : PDL C X es t) (hl : es.length ≤ 1000 := by decide) : PD C X (.Tuple es x1 pos) (dTup t) :=
  ⟨fun δ Q Q' m q => h.mono δ _ _ (fun rs q => by
    cases e : fdL rs with
    | none => rw [e] at q; exact q
    | some ds => rw [e] at q; exact m _ q) q, (pe_tup h.run).imp fun σ H Q q => by
    obtain ⟨δ, F, x, q⟩ := q
    refine ⟨δ, F, x, h.mono δ _ _ (fun rs q F1 H1 vs g rrs => ?_) (h.len _ _ q)⟩
    obtain ⟨q, hlen⟩ := q
    refine ⟨?_, fun p n => ?_⟩
    · rw [rrs.length, hlen]
      exact Nat.le_trans hl (by decide)
    · cases e : fdL rs with
      | none => rw [e] at q; exact q.elim
      | some ds =>
        rw [e] at q
        obtain ⟨F2, g2, _, a2, _⟩ := rrs.away x.bs g
        have g3 := Go.laid (o := .tup vs) g2.ok n
        refine q F2 _ _ (g2.trans x.bs g3) (.sh (.tup (.inl (.inl upd_same)) ?_))
        exact DqAll.mono (g3.keep g2.ok) _ _ (a2 ds e)⟩
/-- a list display -/
def dLst (t : DL') : DT := fun δ Q => t δ fun rs => match fxL rs with
  | some ds => Q (.val (.own ds))
  | none => False
theorem d_lst {t : DL'} (h : PDL C X es t) (hl : es.length ≤ 1000 := by decide) : PD C X (.List es pos) (dLst t) :=
  ⟨fun δ Q Q' m q => h.mono δ _ _ (fun rs q => by
    cases e : fxL rs with
    | none => rw [e] at q; exact q
    | some ds => rw [e] at q; exact m _ q) q, (pe_lst h.run).imp fun σ H Q q => by
    obtain ⟨δ, F, x, q⟩ := q
    refine ⟨δ, F, x, h.mono δ _ _ (fun rs q F1 H1 vs g rrs => ?_) (h.len _ _ q)⟩
    obtain ⟨q, hlen⟩ := q
    refine ⟨?_, fun p n => ?_⟩
    · rw [rrs.length, hlen]
      exact Nat.le_trans hl (by decide)
    · cases e : fxL rs with
      | none => rw [e] at q; exact q.elim
      | some ds =>
        rw [e] at q
        obtain ⟨as, a1, a2, a3⟩ := rrs.hold e
        have g3 := Go.laid (o := .lst vs) g.ok n
        have np : p ∉ as := fun m => by
          obtain ⟨o, z, _⟩ := a1.there p m
          rw [n] at z; cases z
        refine q F1 _ _ (g.trans x.bs g3) ⟨p :: as, .own upd_same (a1.mono (g3.keep g.ok) fun a m => upd_ne fun z => np (z ▸ m)), List.nodup_cons.mpr ⟨np, a2⟩, fun a m => ?_⟩
        rcases List.mem_cons.mp m with rfl | m
        · refine ⟨fun z => ?_, g.none x.bs n⟩
          obtain ⟨o, q⟩ := (g.ok.f a z).2
          rw [n] at q; cases q
        · exact a3 a m⟩
end
/-! ### operations by results -/
structure LkR2 (C : Zn) (K : PySem.W.Frag) (r : R2) (f : R → R → (R → Prop) → Prop) : Prop where
  mono : ∀ x y Q Q', (∀ z, Q z → Q' z) → f x y Q → f x y Q'
  to : ∀ F0 H0 F H v w x y (Q : R → Prop) (Q' : VK), Bs C F0 H0 → Go C F0 H0 F H → RR K C F H0 H v x → RR K C F H0 H w y → f x y Q →
    (∀ z u F' H', Go C F0 H0 F' H' → RR K C F' H0 H' u z → Q z → Q' u H') → r v w H Q'
structure LkR1 (C : Zn) (K : PySem.W.Frag) (r : V → Hp → VK → Prop) (f : R → (R → Prop) → Prop) : Prop where
  mono : ∀ x Q Q', (∀ z, Q z → Q' z) → f x Q → f x Q'
  to : ∀ F0 H0 F H v x (Q : R → Prop) (Q' : VK), Bs C F0 H0 → Go C F0 H0 F H → RR K C F H0 H v x → f x Q →
    (∀ z u F' H', Go C F0 H0 F' H' → RR K C F' H0 H' u z → Q z → Q' u H') → r v H Q'
structure LkC (C : Zn) (K : PySem.W.Frag) (r : List V → Hp → VK → Prop) (f : List R → (R → Prop) → Prop) : Prop where
  mono : ∀ xs Q Q', (∀ z, Q z → Q' z) → f xs Q → f xs Q'
  to : ∀ F0 H0 F H vs xs (Q : R → Prop) (Q' : VK), Bs C F0 H0 → Go C F0 H0 F H → RRs K C F H0 H vs xs → f xs Q →
    (∀ z u F' H', Go C F0 H0 F' H' → RR K C F' H0 H' u z → Q z → Q' u H') → r vs H Q'
def dOpR (f : R → R → (R → Prop) → Prop) (ta tb : DT) : DT := fun δ Q => ta δ fun x => tb δ fun y => f x y Q
def dUn (f : R → (R → Prop) → Prop) (ta : DT) : DT := fun δ Q => ta δ fun x => f x Q
def dCB (f : List R → (R → Prop) → Prop) (t : DL') : DT := fun δ Q => t δ fun xs => f xs Q
section
variable {K : PySem.W.Frag} {C : Zn} {F F0 F1 F' : Addr → Prop} {H H0 H1 H' : Hp}
theorem RR.older (b : Bs C F0 H0) (g : Go C F0 H0 F1 H1) {v : V} {r : R} (h : RR K C F H1 H v r) : RR K C F H0 H v r := by
  cases r with
  | br d => exact h
  | val d =>
    obtain ⟨as, z1, z2, z3⟩ := h
    exact ⟨as, z1, z2, fun a m => ⟨(z3 a m).1, g.none b (z3 a m).2⟩⟩
end
section
variable {C : Zn} {X : Cx} {e a b : Expr} {es : List Expr} {pos : Pos} {ta tb : DT} {t : DL'}
theorem mono_opR {f : R → R → (R → Prop) → Prop} (hf : ∀ x y Q Q', (∀ z, Q z → Q' z) → f x y Q → f x y Q') (ha : Mono ta) (hb : Mono tb) : Mono (dOpR f ta tb) := fun δ Q Q' m q =>
  ha δ _ _ (fun x q => hb δ _ _ (fun y q => hf _ _ _ _ m q) q) q
theorem twoR {r : R2} {f : R → R → (R → Prop) → Prop} (lk : LkR2 C X.K r f) (ma : Mono ta) (mb : Mono tb) {σ : St} {H : Hp} {Q : VK} (h : lift C X.K (dOpR f ta tb) σ H Q) : tOp r (lift C X.K ta) (lift C X.K tb) σ H Q := by
  obtain ⟨δ, F, x, h⟩ := h
  refine ⟨δ, F, x, ma δ _ _ (fun r1 q F1 H1 v g1 rr1 => ⟨δ, F1, x.go g1, mb δ _ _ (fun r2 q F2 H2 w g2 rr2 => ?_) q⟩) h⟩
  exact lk.to F H F2 H2 v w r1 r2 _ _ x.bs (g1.trans x.bs g2) (rr1.go g1.ok (fun a n => x.bs.nzn n) g2) (rr2.older x.bs g1) q fun z u F' H' g rr q => q F' H' u g rr
theorem d_opR {op : Operator} {r : R2} {f : R → R → (R → Prop) → Prop} (ho : OpR X (binaryOp op) r) (lk : LkR2 C X.K r f) (ha : PD C X a ta) (hb : PD C X b tb) : PD C X (.BinOp a op b pos) (dOpR f ta tb) :=
  ⟨mono_opR lk.mono ha.mono hb.mono, (pe_op ho ha.run hb.run).imp fun _ _ _ h => twoR lk ha.mono hb.mono h⟩
theorem d_ix {r : R2} {f : R → R → (R → Prop) → Prop} (ho : IxR X r) (lk : LkR2 C X.K r f) (ha : PD C X a ta) (hb : PD C X b tb) (hs : PlainIx b) : PD C X (.Subscript a b pos) (dOpR f ta tb) :=
  ⟨mono_opR lk.mono ha.mono hb.mono, (pe_ix ho ha.run hb.run hs).imp fun _ _ _ h => twoR lk ha.mono hb.mono h⟩
theorem mono_un {f : R → (R → Prop) → Prop} (hf : ∀ x Q Q', (∀ z, Q z → Q' z) → f x Q → f x Q') (ha : Mono ta) : Mono (dUn f ta) := fun δ Q Q' m q => ha δ _ _ (fun x q => hf _ _ _ m q) q
theorem d_un {op : UnaryOp} {r : V → Hp → VK → Prop} {f : R → (R → Prop) → Prop} (ho : UnR X (unaryOp op) r) (lk : LkR1 C X.K r f) (ha : PD C X a ta) : PD C X (.UnaryOp op a pos) (dUn f ta) :=
  ⟨mono_un lk.mono ha.mono, (pe_un ho ha.run).imp fun σ H Q h => by
    obtain ⟨δ, F, x, h⟩ := h
    refine ⟨δ, F, x, ha.mono δ _ _ (fun r1 q F1 H1 v g1 rr1 => ?_) h⟩
    exact lk.to F H F1 H1 v r1 _ _ x.bs g1 rr1 q fun z u F' H' g rr q => q F' H' u g rr⟩
theorem mono_cb {f : List R → (R → Prop) → Prop} (hf : ∀ x Q Q', (∀ z, Q z → Q' z) → f x Q → f x Q') (ha : Mono t) : Mono (dCB f t) := fun δ Q Q' m q => ha δ _ _ (fun x q => hf _ _ _ m q) q
theorem cb_to {r : List V → Hp → VK → Prop} {f : List R → (R → Prop) → Prop} (lk : LkC C X.K r f) (m : Mono t) {σ : St} {H : Hp} {Q : VK} (h : lift C X.K (dCB f t) σ H Q) : tCB r (liftL C X.K t) σ H Q := by
  obtain ⟨δ, F, x, h⟩ := h
  refine ⟨δ, F, x, m δ _ _ (fun rs q F1 H1 vs g1 rr => ?_) h⟩
  exact lk.to F H F1 H1 vs rs _ _ x.bs g1 rr q fun z u F' H' g rr q => q F' H' u g rr
/-- f(e, ..), f a built-in function -/
theorem d_callB {x : Str} {p : Pos} {id : String} {r : List V → Hp → VK → Prop} {f : List R → (R → Prop) → Prop} (hc : CallR X (.builtin id) r) (lk : LkC C X.K r f) (hg : Gl X x) (hm : X.mg x = none) (hv : bootBuiltins x = some (.builtin id)) (ha : PDL C X (e :: es) t) (hn : x ≠ "__name__" := by decide) (hdb : (x == ("__debug__" : Str)) = false := by decide)
    (he : starEach (e :: es) X.env = (false, eval e X.env) :: starEach es X.env := by rfl) (hpl : (backTo pos (starEach es X.env)).any (·.1) = false := by rfl) : PD C X (.Call (.Name x p) (e :: es) [] pos) (dCB f t) :=
  ⟨mono_cb lk.mono ha.mono, (pe_callB hc hg hm hv ha.run hn hdb he hpl).imp fun _ _ _ h => cb_to lk ha.mono h⟩
/-- T(e, ..), T a built-in type -/
theorem d_callTy {x : Str} {p : Pos} {id : String} {r : List V → Hp → VK → Prop} {f : List R → (R → Prop) → Prop} (hc : CallR X (.type id) r) (lk : LkC C X.K r f) (hg : Gl X x) (hm : X.mg x = none) (hv : bootBuiltins x = some (.type id)) (ha : PDL C X (e :: es) t) (hn : x ≠ "__name__" := by decide) (hdb : (x == ("__debug__" : Str)) = false := by decide)
    (he : starEach (e :: es) X.env = (false, eval e X.env) :: starEach es X.env := by rfl) (hpl : (backTo pos (starEach es X.env)).any (·.1) = false := by rfl) : PD C X (.Call (.Name x p) (e :: es) [] pos) (dCB f t) :=
  ⟨mono_cb lk.mono ha.mono, (pe_callTy hc hg hm hv ha.run hn hdb he hpl).imp fun _ _ _ h => cb_to lk ha.mono h⟩
end
end DL
set_option Elab.async false
set_option linter.all false
set_option maxRecDepth 100000
set_option maxHeartbeats 1000000
namespace DL
open PySem PySem.Spec L2
open PyProof.Rows hiding St
/-! ### what a loop walks -/
/-- J hands out the data ds one by one, at every state that P speaks of -/
structure IR (C : Zn) (K : PySem.W.Frag) (P : (Addr → Prop) → Hp → Prop) (J : It) (ds : List D) : Prop where
  item : ∀ F H, Bs C F H → P F H → ∀ i d, ds[i]? = some d → J.go i H ∧ ∀ x H', J.yld i H x H' → ∃ F', Go C F H F' H' ∧ Dq K F' H' x d
  stop : ∀ F H, Bs C F H → P F H → J.stop ds.length H
theorem IR.imp {C : Zn} {K : PySem.W.Frag} {P P' : (Addr → Prop) → Hp → Prop} {J : It} {ds : List D} (h : IR C K P J ds) (k : ∀ F H, Bs C F H → P' F H → P F H) : IR C K P' J ds :=
  ⟨fun F H b p => h.item F H b (k F H b p), fun F H b p => h.stop F H b (k F H b p)⟩
def PK (C : Zn) (k : Bool) (F1 : Addr → Prop) (H1 : Hp) : (Addr → Prop) → Hp → Prop := fun F H => if k = true then Keep F1 H1 F H else Go C F1 H1 F H
/-- k: the loop's body may store (a for); else it is a comprehension's -/
def liftI (C : Zn) (K : PySem.W.Frag) (k : Bool) (t : DI) : TI := fun σ H R => ∃ δ F, At0 K C F H σ δ ∧ t δ fun ds => ∀ F' H' J, Go C F H F' H' → IR C K (PK C k F' H') J ds → R J H'
structure PDI (C : Zn) (X : Cx) (k : Bool) (tg e : Expr) (t : DI) : Prop where
  mono : Mono t
  run : PI X tg e (liftI C X.K k t)
theorem _root_.L2.PI.imp {X : Cx} {tg e : Expr} {t t' : TI} (h : PI X tg e t) (k : ∀ σ H R, t' σ H R → t σ H R) : PI X tg e t' := ⟨fun pins s σ H Q I q => h.run pins s σ H Q I (k _ _ _ q)⟩
section
variable {C : Zn} {X : Cx} {tg e : Expr} {pos : Pos}
/-- a list or a tuple, by values -/
def iSeq (K : PySem.W.Frag) (tl : TE) : TI := fun σ H R => tl σ H fun x H1 => ∃ a, x = .ref a ∧
  ((∃ xs, SqL K H1 a xs ∧ (xs.length ≤ sizeLine → R (Itl K a) H1)) ∨ ∃ xs, SqT K H1 a xs ∧ (xs.length ≤ sizeLine → R (Itt K a) H1))
theorem pi_seq {tl : TE} (hl : PE X e tl) : PI X tg e (iSeq X.K tl) := by
  refine ⟨fun pins s σ H R I h => ?_⟩
  refine thn (hl.run pins s σ H _ I h) fun v s1 ⟨x, H1, J1, rx, a, ea, q⟩ => ?_
  subst ea
  cases rx
  rcases q with ⟨xs, hq, q⟩ | ⟨xs, hq, q⟩
  · obtain ⟨its, _, p, hz⟩ := J1.list hq
    exact wpAny_pyIter_list p.isList (pi_one (tk := s1.toks) J1 _ (turn_list a _) ⟨_, Heap.get?_push_size _ rfl, rfl, rfl⟩ (q hz))
  · obtain ⟨its, _, p, hz⟩ := J1.tuple hq
    exact wpAny_pyIter_tuple (show s1.heap.IsTuple a its.toArray from p) (pi_one (tk := s1.toks) J1 _ (turn_tuple a _) ⟨_, Heap.get?_push_size _ rfl, rfl, rfl⟩ (q hz))
def seqOf : D → Option (List D)
  | .list ds => some ds
  | .tuple ds => some ds
  | _ => none
/-- for x in e: what e holds is given away -/
def dSeq (t : DT) : DI := fun δ Q => t δ fun r => match r.fd with
  | some d => (match seqOf d with
    | some ds => ds.length ≤ sizeLine → Q ds
    | none => False)
  | none => False
/-- .. in a comprehension: the items are given away -/
def dSeqQ (t : DT) : DI := fun δ Q => t δ fun r => match r.sup with
  | some d => (match seqOf d with
    | some ds => ds.length ≤ sizeLine → Q ds
    | none => False)
  | none => False
theorem LstAt.sq {K : PySem.W.Frag} {G : Addr → Prop} {H : Hp} {a : Addr} {vs : List V} (h : LstAt G H a vs) : SqL K H a vs := by
  exact .inl (.inl h.1)
theorem ir_list {K : PySem.W.Frag} {P : (Addr → Prop) → Hp → Prop} {a : Addr} {ds : List D} (h : ∀ F H, Bs C F H → P F H → ∃ vs, SqL K H a vs ∧ DqAll K F H vs ds) : IR C K P (Itl K a) ds := by
  refine ⟨fun F H b p i d e => ?_, fun F H b p => ?_⟩
  · obtain ⟨vs, h1, h2⟩ := h F H b p
    obtain ⟨v, q1, q2⟩ := h2.get e
    refine ⟨⟨vs, v, h1, q1⟩, fun x H' y => ?_⟩
    obtain ⟨rfl, y⟩ := y
    have := y vs h1
    rw [q1] at this; cases this
    exact ⟨F, .refl b, q2⟩
  · obtain ⟨vs, h1, h2⟩ := h F H b p
    exact ⟨vs, h1, Nat.le_of_eq h2.length⟩
theorem ir_tup {K : PySem.W.Frag} {P : (Addr → Prop) → Hp → Prop} {a : Addr} {ds : List D} (h : ∀ F H, Bs C F H → P F H → ∃ vs, SqT K H a vs ∧ DqAll K F H vs ds) : IR C K P (Itt K a) ds := by
  refine ⟨fun F H b p i d e => ?_, fun F H b p => ?_⟩
  · obtain ⟨vs, h1, h2⟩ := h F H b p
    obtain ⟨v, q1, q2⟩ := h2.get e
    refine ⟨⟨vs, v, h1, q1⟩, fun x H' y => ?_⟩
    obtain ⟨rfl, y⟩ := y
    have := y vs h1
    rw [q1] at this; cases this
    exact ⟨F, .refl b, q2⟩
  · obtain ⟨vs, h1, h2⟩ := h F H b p
    exact ⟨vs, h1, Nat.le_of_eq h2.length⟩
theorem mono_seq {t : DT} (h : Mono t) : Mono (dSeq t) := fun δ Q Q' m q => h δ _ _ (fun r q => by
  cases e : r.fd with
  | none => rw [e] at q; exact q
  | some d =>
    rw [e] at q
    simp only at q ⊢
    cases e2 : seqOf d with
    | none => rw [e2] at q; exact q
    | some ds =>
      rw [e2] at q
      exact fun z => m _ (q z)) q
theorem mono_seqQ {t : DT} (h : Mono t) : Mono (dSeqQ t) := fun δ Q Q' m q => h δ _ _ (fun r q => by
  cases e : r.sup with
  | none => rw [e] at q; exact q
  | some d =>
    rw [e] at q
    simp only at q ⊢
    cases e2 : seqOf d with
    | none => rw [e2] at q; exact q
    | some ds =>
      rw [e2] at q
      exact fun z => m _ (q z)) q
theorem i_seq {t : DT} (h : PD C X e t) : PDI C X true tg e (dSeq t) := by
  refine ⟨mono_seq h.mono, (pi_seq h.run).imp fun σ H R q => ?_⟩
  obtain ⟨δ, F, x, q⟩ := q
  refine ⟨δ, F, x, h.mono δ _ _ (fun r q F1 H1 v g rr => ?_) q⟩
  split at q
  · rename_i d e1
    split at q
    · rename_i ds e2
      obtain ⟨F2, g2, _, dq⟩ := RR.fd x.bs g rr e1
      unfold seqOf at e2
      split at e2
      · cases e2
        cases dq with
        | lst h1 h2 =>
          refine ⟨_, rfl, .inl ⟨_, h1.sq, fun hz => q (by rw [← h2.length]; exact hz) F2 H1 _ g2 (ir_list fun F H b p => ?_)⟩⟩
          exact ⟨_, (Keep.lstAt p h1).sq, DqAll.mono p _ _ h2⟩
      · cases e2
        cases dq with
        | tup h1 h2 =>
          refine ⟨_, rfl, .inr ⟨_, h1, fun hz => q (by rw [← h2.length]; exact hz) F2 H1 _ g2 (ir_tup fun F H b p => ?_)⟩⟩
          exact ⟨_, Keep.sqT p h1, DqAll.mono p _ _ h2⟩
      · cases e2
    · exact q.elim
  · exact q.elim
theorem i_seqQ {t : DT} (h : PD C X e t) : PDI C X false tg e (dSeqQ t) := by
  refine ⟨mono_seqQ h.mono, (pi_seq h.run).imp fun σ H R q => ?_⟩
  obtain ⟨δ, F, x, q⟩ := q
  refine ⟨δ, F, x, h.mono δ _ _ (fun r q F1 H1 v g rr => ?_) q⟩
  split at q
  · rename_i d e1
    split at q
    · rename_i ds e2
      obtain ⟨F2, g2, _, dq⟩ := RR.sup x.bs g rr e1
      unfold seqOf at e2
      split at e2
      · cases e2
        obtain ⟨a, vs, rfl, h1, h2⟩ := dq
        refine ⟨_, rfl, .inl ⟨_, h1.sq, fun hz => q (by rw [← h2.length]; exact hz) F2 H1 _ g2 (ir_list fun F H b p => ?_)⟩⟩
        have p : Go C F2 H1 F H := p
        exact ⟨_, (Keep.lstAt (p.keepZ g2.ok) h1).sq, DqAll.mono (p.keep g2.ok) _ _ h2⟩
      · cases e2
        obtain ⟨a, vs, rfl, h1, h2⟩ := dq
        refine ⟨_, rfl, .inr ⟨_, h1, fun hz => q (by rw [← h2.length]; exact hz) F2 H1 _ g2 (ir_tup fun F H b p => ?_)⟩⟩
        have p : Go C F2 H1 F H := p
        exact ⟨_, Keep.sqT (p.keep g2.ok) h1, DqAll.mono (p.keep g2.ok) _ _ h2⟩
      · cases e2
    · exact q.elim
  · exact q.elim
/-! ### range -/
def rangeD (lo hi : Int) : List D := (List.range (hi - lo).toNat).map fun i : Nat => PyData.int (lo + i)
theorem ir_range {K : PySem.W.Frag} {P : (Addr → Prop) → Hp → Prop} {lo hi : Int} : IR C K P (Itr lo (hi - lo).toNat) (rangeD lo hi) := by
  refine ⟨fun F H b p i d e => ?_, fun F H b p => ?_⟩
  · unfold rangeD at e
    rw [List.getElem?_map] at e
    obtain ⟨j, q1, q2⟩ := Option.map_eq_some_iff.mp e
    have hi' := (List.getElem?_eq_some_iff.mp q1).1
    rw [List.length_range] at hi'
    have : j = i := by
      rw [List.getElem?_range hi'] at q1
      exact (Option.some.inj q1).symm
    subst this
    refine ⟨hi', fun x H' y => ?_⟩
    obtain ⟨rfl, rfl⟩ := y
    subst q2
    exact ⟨F, .refl b, .int _⟩
  · show _ ≤ _
    unfold rangeD
    rw [List.length_map, List.length_range]
    exact Nat.le_refl _
def small (j : Int) : Prop := -(2 ^ 62) ≤ j ∧ j < 2 ^ 62
def onI (x : R) (Q : Int → Prop) : Prop := match x with
  | .val (.sh (.int i)) => Q i
  | _ => False
theorem onI_mono {x : R} {Q Q' : Int → Prop} (h : ∀ k, Q k → Q' k) (q : onI x Q) : onI x Q' := by
  unfold onI at q ⊢
  split at q
  · exact h _ q
  · exact q
theorem onI_to {K : PySem.W.Frag} {F : Addr → Prop} {H0 H : Hp} {v : V} {x : R} {Q : Int → Prop} (rr : RR K C F H0 H v x) (q : onI x Q) : ∃ k, v = .int k ∧ Q k := by
  unfold onI at q
  split at q
  · rename_i k
    obtain ⟨as, z, _⟩ := rr
    cases z with
    | sh z =>
      cases z
      exact ⟨k, rfl, q⟩
  · exact q.elim
def dRange1 (t : DT) : DI := fun δ Q => t δ fun x => onI x fun j => small j ∧ Q (rangeD 0 j)
def dRange2 (ta tb : DT) : DI := fun δ Q => ta δ fun x => onI x fun i => tb δ fun y => onI y fun j => small i ∧ small j ∧ Q (rangeD i j)
theorem PK.of {k : Bool} {K : PySem.W.Frag} {P : (Addr → Prop) → Hp → Prop} {J : It} {ds : List D} (h : IR C K (fun _ _ => True) J ds) : IR C K P J ds := h.imp fun _ _ _ _ => trivial
theorem i_range1 {k : Bool} {a : Expr} {p : Pos} {t : DT} (ha : PD C X a t) (hm : X.mg "range" = none) (hg : Gl X "range" := by rfl) (hs : starEach [a] X.env = [(false, eval a X.env)] := by rfl) : PDI C X k tg (.Call (.Name "range" p) [a] [] pos) (dRange1 t) :=
  ⟨fun δ Q Q' m q => ha.mono δ _ _ (fun x q => onI_mono (fun j q => ⟨q.1, m _ q.2⟩) q) q, (pi_range1 hg hm (pa_cons ha.run pa_nil hs) hs).imp fun σ H R q => by
    obtain ⟨δ, F, x, q⟩ := q
    refine ⟨δ, F, x, ha.mono δ _ _ (fun r q F1 H1 v g rr => ?_) q⟩
    obtain ⟨j, rfl, ⟨q1, q2⟩, q⟩ := onI_to rr q
    have e : j - 0 = j := by omega
    refine ⟨j, rfl, q1, q2, ?_⟩
    have h := q F1 H1 (Itr 0 (j - 0).toNat) g ir_range
    rw [e] at h
    exact h⟩
theorem i_range2 {k : Bool} {a b : Expr} {p : Pos} {ta tb : DT} (ha : PD C X a ta) (hb : PD C X b tb) (hm : X.mg "range" = none) (hg : Gl X "range" := by rfl) (hs : starEach [a, b] X.env = [(false, eval a X.env), (false, eval b X.env)] := by rfl) (hs2 : starEach [b] X.env = [(false, eval b X.env)] := by rfl) : PDI C X k tg (.Call (.Name "range" p) [a, b] [] pos) (dRange2 ta tb) :=
  ⟨fun δ Q Q' m q => ha.mono δ _ _ (fun x q => onI_mono (fun i q => hb.mono δ _ _ (fun y q => onI_mono (fun j q => ⟨q.1, q.2.1, m _ q.2.2⟩) q) q) q) q, (pi_range2 hg hm (pa_cons ha.run (pa_cons hb.run pa_nil hs2) (by rw [hs, hs2])) hs hs2).imp fun σ H R q => by
    obtain ⟨δ, F, x, q⟩ := q
    refine ⟨δ, F, x, ha.mono δ _ _ (fun r q F1 H1 v g rr => ?_) q⟩
    obtain ⟨i, rfl, q⟩ := onI_to rr q
    refine ⟨δ, F1, x.go g, hb.mono δ _ _ (fun r q F2 H2 v g' rr => ?_) q⟩
    obtain ⟨j, rfl, ⟨q1, q2⟩, ⟨q3, q4⟩, q⟩ := onI_to rr q
    exact ⟨i, j, rfl, ⟨q1, q2, q3, q4⟩, q F2 H2 _ (g.trans x.bs g') ir_range⟩⟩
end
/-! ### targets -/
abbrev DP := D → DE → (DE → Prop) → Prop
/-- names are stored: nothing is owned that was not -/
def Rst (K : PySem.W.Frag) (C : Zn) (F : Addr → Prop) (H : Hp) (σ : St) (δ : DE) (σ' : St) (δ' : DE) : Prop := ∀ as, Envs K C F H σ δ as → ∃ as', Envs K C F H σ' δ' as' ∧ as'.Sublist as
theorem Rst.at0 {K : PySem.W.Frag} {C : Zn} {F : Addr → Prop} {H : Hp} {σ σ' : St} {δ δ' : DE} (r : Rst K C F H σ δ σ' δ') (x : At0 K C F H σ δ) : At0 K C F H σ' δ' := by
  obtain ⟨as, e, nd, o, b⟩ := x
  obtain ⟨as', e', s⟩ := r as e
  exact ⟨as', e', nd.sublist s, fun a m => o a (s.subset m), b⟩
def liftG (C : Zn) (K : PySem.W.Frag) (is : List Nat) (g : DP) : TG := fun v σ H Q => ∃ δ F d, At0 K C F H σ δ ∧ Dq K F H v d ∧ g d δ fun δ' => ∀ σ', Rst K C F H σ δ σ' δ' → (∀ vs, (∀ i ∈ is, i ∈ vs) → wipe σ' vs = wipe σ vs) → Q σ' H
structure PDG (C : Zn) (X : Cx) (tg : Expr) (is : List Nat) (g : DP) : Prop where
  mono : ∀ d, Mono (g d)
  run : PG X tg (liftG C X.K is g)
def liftGs (C : Zn) (K : PySem.W.Frag) (is : List Nat) (g : List D → DE → (DE → Prop) → Prop) : TGs := fun vs σ H Q => ∃ δ F ds, At0 K C F H σ δ ∧ DqAll K F H vs ds ∧ g ds δ fun δ' => ∀ σ', Rst K C F H σ δ σ' δ' → (∀ vs, (∀ i ∈ is, i ∈ vs) → wipe σ' vs = wipe σ vs) → Q σ' H
structure PDGs (C : Zn) (X : Cx) (tgs : List Expr) (is : List Nat) (g : List D → DE → (DE → Prop) → Prop) : Prop where
  mono : ∀ d, Mono (g d)
  run : PGs X tgs (liftGs C X.K is g)
section
variable {K : PySem.W.Frag} {C : Zn} {F : Addr → Prop} {H : Hp} {X : Cx} {pos : Pos}
theorem Envs.set : ∀ {σ : St} {δ : DE} {as : List Addr} (i : Nat) {v : V} {dv : DV} {bs : List Addr}, Envs K C F H σ δ as → Rep K C F H v dv bs → i < σ.length → ∃ as', Envs K C F H (σ.set i (some v)) (δ.set i (some dv)) as' ∧ ∃ cs, as'.Perm (bs ++ cs) ∧ cs.Sublist as
  | _, _, _, _, _, _, _, .nil, _, h => absurd h (Nat.not_lt_zero _)
  | _, _, _, 0, v, dv, bs, .off t, r, _ => ⟨_, .on r t, _, .refl _, List.Sublist.refl _⟩
  | _, _, _, 0, v, dv, bs, .on q t, r, _ => ⟨_, .on r t, _, .refl _, List.sublist_append_right _ _⟩
  | _, _, _, i + 1, v, dv, bs, .off t, r, h => by
    obtain ⟨as', e, cs, p, s⟩ := Envs.set i t r (by simpa using h)
    exact ⟨as', .off e, cs, p, s⟩
  | _, _, _, i + 1, v, dv, bs, .on (as := as) q t, r, h => by
    obtain ⟨as', e, cs, p, s⟩ := Envs.set i t r (by simpa using h)
    refine ⟨_, .on q e, as ++ cs, ?_, s.append_left _⟩
    refine (List.Perm.append_left as p).trans ?_
    rw [← List.append_assoc, ← List.append_assoc]
    exact List.Perm.append_right cs List.perm_append_comm
theorem Envs.put {σ : St} {δ : DE} {as : List Addr} {i : Nat} {v : V} {d : D} (e : Envs K C F H σ δ as) (r : Dq K F H v d) (h : i < σ.length) : ∃ as', Envs K C F H (σ.set i (some v)) (δ.set i (some (.sh d))) as' ∧ as'.Sublist as := by
  revert i
  induction e with
  | nil => intro i h; exact absurd h (Nat.not_lt_zero _)
  | off t ih =>
    intro i h
    cases i with
    | zero => exact ⟨_, .on (.sh r) t, List.Sublist.refl _⟩
    | succ i =>
      obtain ⟨as', e, s⟩ := ih (i := i) (by simpa using h)
      exact ⟨as', .off e, s⟩
  | on q t ih =>
    intro i h
    cases i with
    | zero => exact ⟨_, .on (.sh r) t, List.sublist_append_right _ _⟩
    | succ i =>
      obtain ⟨as', e, s⟩ := ih (i := i) (by simpa using h)
      exact ⟨_, .on q e, s.append_left _⟩
theorem wipe_set {σ : St} {i : Nat} {x : Option V} : ∀ {vs : List Nat}, i ∈ vs → wipe (σ.set i x) vs = wipe σ vs
  | v :: vs, h => by
    unfold wipe
    by_cases e : i ∈ vs
    · rw [wipe_set e]
    · rcases List.mem_cons.mp h with rfl | h
      · have : ∀ (vs : List Nat), wipe (σ.set i x) vs = (wipe σ vs).set i x ∨ wipe (σ.set i x) vs = wipe σ vs := by
          intro vs
          induction vs with
          | nil => exact .inl rfl
          | cons u us ih =>
            unfold wipe
            by_cases e : u = i
            · subst e
              rcases ih with q | q
              · rw [q, List.set_set]; exact .inr rfl
              · rw [q]; exact .inr rfl
            · rcases ih with q | q
              · rw [q, List.set_comm _ _ (Ne.symm e)]; exact .inl rfl
              · rw [q]; exact .inr rfl
        rcases this vs with q | q
        · rw [q, List.set_set]
        · rw [q]
      · exact absurd h e
def gN (i : Nat) : DP := fun d δ Q => i < δ.length ∧ Q (δ.set i (some (.sh d)))
theorem g_name {i : Nat} {x : Str} (hN : X.N.Nodup) (hi : X.N[i]? = some x) (hx : Loc X.env.scope x) (hf : X.fn x = true ∨ X.env.scope.names.lookup x = some .local := by first | exact .inl rfl | exact .inr rfl | assumption) : PDG C X (.Name x pos) [i] (gN i) :=
  ⟨fun d δ Q Q' m q => ⟨q.1, m _ q.2⟩, ⟨fun pins s σ H v u Q I r h => (pg_name hN hi hx hf).run pins s σ H v u Q I r (by
    obtain ⟨δ, F, d, x, dq, hl, h⟩ := h
    have hl' : i < σ.length := by
      obtain ⟨as, e, _⟩ := x
      rw [e.length]; exact hl
    refine h _ (fun as e => e.put dq hl') fun vs hv => wipe_set (hv i List.mem_cons_self))⟩⟩
def gsNil : List D → DE → (DE → Prop) → Prop := fun ds δ Q => match ds with
  | [] => Q δ
  | _ => False
def gsCons (g : DP) (gs : List D → DE → (DE → Prop) → Prop) : List D → DE → (DE → Prop) → Prop := fun ds δ Q => match ds with
  | d :: r => g d δ fun δ' => gs r δ' Q
  | [] => False
theorem gs_nil : PDGs C X [] [] gsNil :=
  ⟨fun d δ Q Q' m q => by cases d with | nil => exact m _ q | cons _ _ => exact q, ⟨fun pins s σ H vs us Q I r h => pgs_nil.run pins s σ H vs us Q I r (by
    obtain ⟨δ, F, ds, x, dq, h⟩ := h
    cases dq with
    | nil => exact ⟨rfl, h σ (fun as e => ⟨as, e, List.Sublist.refl _⟩) fun _ _ => rfl⟩
    | cons _ _ => exact h.elim)⟩⟩
theorem gs_cons {e : Expr} {es : List Expr} {is js : List Nat} {g : DP} {gs : List D → DE → (DE → Prop) → Prop} (h1 : PDG C X e is g) (h2 : PDGs C X es js gs)
    (hs : (assignEach (e :: es) X.env).map (·.2) = assign e X.env :: (assignEach es X.env).map (·.2) := by rfl) : PDGs C X (e :: es) (is ++ js) (gsCons g gs) :=
  ⟨fun d δ Q Q' m q => by
    cases d with
    | nil => exact q
    | cons d r => exact h1.mono d δ _ _ (fun δ' q => h2.mono r δ' _ _ m q) q, ⟨fun pins s σ H vs us Q I r h => (pgs_cons h1.run h2.run hs).run pins s σ H vs us Q I r (by
    obtain ⟨δ, F, ds, x, dq, h⟩ := h
    cases dq with
    | nil => exact h.elim
    | @cons v d vs ds d1 d2 =>
      refine ⟨v, vs, rfl, δ, F, d, x, d1, h1.mono d δ _ _ (fun δ1 q σ1 k1 w1 => ?_) h⟩
      refine ⟨δ1, F, ds, k1.at0 x, d2, h2.mono ds δ1 _ _ (fun δ2 q σ2 k2 w2 => q σ2 (fun as e => ?_) fun vs hv => ?_) q⟩
      · obtain ⟨as1, e1, s1⟩ := k1 as e
        obtain ⟨as2, e2, s2⟩ := k2 as1 e1
        exact ⟨as2, e2, s2.trans s1⟩
      · rw [w2 vs fun i m => hv i (List.mem_append_right _ m), w1 vs fun i m => hv i (List.mem_append_left _ m)])⟩⟩
def gT (n : Nat) (gs : List D → DE → (DE → Prop) → Prop) : DP := fun d δ Q => match d with
  | .tuple ds => ds.length = n ∧ gs ds δ Q
  | _ => False
theorem g_tup {es : List Expr} {k : Nat} {is : List Nat} {gs : List D → DE → (DE → Prop) → Prop} {n : Nat} (hc : X.calm = true) (h : PDGs C X es is gs)
    (hn : (assignEach es X.env).length = n := by rfl) (hst : (assignEach es X.env).findIdx? (·.1) = none := by rfl) : PDG C X (.Tuple es k pos) is (gT n gs) :=
  ⟨fun d δ Q Q' m q => by
    unfold gT at q ⊢
    split at q
    · exact ⟨q.1, h.mono _ δ _ _ m q.2⟩
    · exact q, ⟨fun pins s σ H v u Q I r q => (pg_tup hc h.run hn hst).run pins s σ H v u Q I r (by
    obtain ⟨δ, F, d, x, dq, q⟩ := q
    unfold gT at q
    split at q
    · cases dq with
      | tup h1 h2 => exact ⟨_, _, rfl, h1, h2.length.trans q.1, δ, F, _, x, h2, q.2⟩
    · exact q.elim)⟩⟩
end
end DL
set_option Elab.async false
set_option linter.all false
set_option maxRecDepth 100000
set_option maxHeartbeats 1000000
namespace DL
open PySem PySem.Spec L2
open PyProof.Rows hiding St
section
variable {K : PySem.W.Frag} {C : Zn} {F F1 F' : Addr → Prop} {H H0 H1 H' : Hp}
/-- a thing of one's own is written -/
theorem Bs.put (b : Bs C F H) {a : Addr} {o : HO} (nz : ¬ C.Z a) : Bs C F (upd H a o) :=
  ⟨C.jloc H _ b.j fun c z => upd_ne fun e => nz (e ▸ z), fun c h => ⟨(b.f c h).1, by
    by_cases e : c = a
    · subst e; exact ⟨o, upd_same⟩
    · rw [upd_ne e]; exact (b.f c h).2⟩⟩
theorem Keep.put {a : Addr} {o : HO} (m : Mut (H a)) (nf : ¬ F a) : Keep F H F (upd H a o) :=
  ⟨fun c vs e => by
    have : c ≠ a := fun z => by rw [← z, e] at m; exact m
    rw [upd_ne this]; exact e, fun c u w e => by
    have : c ≠ a := fun z => by rw [← z, e] at m; exact m
    rw [upd_ne this]; exact e, fun c vs e f => by
    have : c ≠ a := fun z => nf (z ▸ f)
    rw [upd_ne this]; exact ⟨e, f⟩⟩
/-- .. where it was not yet at the base -/
theorem Go.put (b0 : Bs C F1 H1) (g : Go C F1 H1 F H) {a : Addr} {o : HO} (n : H1 a = Option.none) : Go C F1 H1 F (upd H a o) := by
  refine ⟨fun c u e z => ?_, g.grow, g.new, g.ok.put (b0.nzn n)⟩
  have : c ≠ a := fun z => by rw [z, n] at e; cases e
  rw [upd_ne this]; exact g.same c u e z
end
theorem wipe_sub (σ : St) {vs : List Nat} : ∀ ws : List Nat, (∀ i ∈ ws, i ∈ vs) → wipe (wipe σ ws) vs = wipe σ vs
  | [], _ => rfl
  | w :: ws, h => by
    show wipe ((wipe σ ws).set w none) vs = _
    rw [wipe_set (h w List.mem_cons_self)]
    exact wipe_sub σ ws fun i m => h i (List.mem_cons_of_mem _ m)
/-! ### comprehensions -/
def wipeD (δ : DE) : List Nat → DE
  | [] => δ
  | v :: vs => (wipeD δ vs).set v none
section
variable {K : PySem.W.Frag} {C : Zn} {F : Addr → Prop} {H : Hp}
theorem Envs.off1 {σ : St} {δ : DE} {as : List Addr} (i : Nat) (x : Option V) (e : Envs K C F H σ δ as) : ∃ as', Envs K C F H (σ.set i x) (δ.set i none) as' ∧ as'.Sublist as := by
  revert i
  induction e with
  | nil => intro i; exact ⟨[], .nil, .slnil⟩
  | off t ih =>
    intro i
    cases i with
    | zero => exact ⟨_, .off t, .refl _⟩
    | succ i =>
      obtain ⟨as', e, s⟩ := ih i
      exact ⟨as', .off e, s⟩
  | on q t ih =>
    intro i
    cases i with
    | zero => exact ⟨_, .off t, List.sublist_append_right _ _⟩
    | succ i =>
      obtain ⟨as', e, s⟩ := ih i
      exact ⟨_, .on q e, s.append_left _⟩
theorem Envs.wipe {σ : St} {δ : DE} {as : List Addr} (e : Envs K C F H σ δ as) : ∀ vs : List Nat, ∃ as', Envs K C F H (wipe σ vs) (wipeD δ vs) as' ∧ as'.Sublist as
  | [] => ⟨as, e, .refl _⟩
  | v :: vs => by
    obtain ⟨as', e', s⟩ := Envs.wipe e vs
    obtain ⟨as2, e2, s2⟩ := e'.off1 v none
    exact ⟨as2, e2, s2.trans s⟩
theorem At0.wipe {σ : St} {δ : DE} (x : At0 K C F H σ δ) (vs : List Nat) : At0 K C F H (wipe σ vs) (wipeD δ vs) := by
  obtain ⟨as, e, nd, o, b⟩ := x
  obtain ⟨as', e', s⟩ := e.wipe vs
  exact ⟨as', e', nd.sublist s, fun a m => o a (s.subset m), b⟩
end
/-- the turns of a comprehension -/
def lcRun (pat : DP) (tst : DB) (elt : DT) (δ : DE) : List D → List DV → (List DV → Prop) → Prop
  | [], acc, Q => Q acc
  | d :: ds, acc, Q => pat d δ fun δ' => tst δ' fun k => if k = true then
      elt δ' fun r => match r.fx with
        | some dv => acc.length < sizeLine ∧ lcRun pat tst elt δ ds (acc ++ [dv]) Q
        | none => False
    else lcRun pat tst elt δ ds acc Q
def dLc (it : DI) (pat : DP) (tst : DB) (elt : DT) (vs : List Nat) : DT := fun δ Q => it δ fun ds => lcRun pat tst elt (wipeD δ vs) ds [] fun acc => Q (.val (.own acc))
def dYes : DB := fun _ Q => Q true
structure PDTs (C : Zn) (X : Cx) (ifs : List Expr) (t : DB) : Prop where
  mono : Mono t
  run : PTs X ifs (liftB C X.K t)
theorem ts_nil {C : Zn} {X : Cx} : PDTs C X [] dYes := ⟨fun δ Q Q' m q => m _ q, ⟨fun pins s σ H Q I q => pts_nil.run pins s σ H Q I (by
  obtain ⟨δ, F, x, q⟩ := q
  exact q F H (.refl x.bs))⟩⟩
theorem ts_one {C : Zn} {X : Cx} {c : Expr} {t : DB} (h : PB C X c t) : PDTs C X [c] t := ⟨h.mono, pts_one h.run⟩
theorem mono_lcRun {pat : DP} {tst : DB} {elt : DT} (hp : ∀ d, Mono (pat d)) (ht : Mono tst) (he : Mono elt) (δ : DE) {Q Q' : List DV → Prop} (m : ∀ a, Q a → Q' a) : ∀ (ds : List D) (acc : List DV), lcRun pat tst elt δ ds acc Q → lcRun pat tst elt δ ds acc Q'
  | [], acc, q => m _ q
  | d :: ds, acc, q => hp d δ _ _ (fun δ' q => ht δ' _ _ (fun k q => by
    cases k with
    | false => exact mono_lcRun hp ht he δ m ds acc q
    | true =>
      refine he δ' _ _ (fun r q => ?_) q
      cases e : r.fx with
      | none => rw [e] at q; exact q
      | some dv =>
        rw [e] at q
        exact ⟨q.1, mono_lcRun hp ht he δ m ds _ q.2⟩) q) q
section
variable {C : Zn} {X : Cx} {K : PySem.W.Frag}
/-- the list that is being made: at p, what it holds -/
structure Acc (K : PySem.W.Frag) (C : Zn) (F1 : Addr → Prop) (H1 : Hp) (p : Addr) (acc : List DV) (F : Addr → Prop) (H : Hp) : Prop where
  go : Go C F1 H1 F H
  nf : ¬ F p
  ex : ∃ vs as, H p = some (.lst vs) ∧ Reps K C F H vs acc as ∧ (p :: as).Nodup ∧ ∀ a ∈ as, ¬ F a ∧ H1 a = none
theorem Acc.step {F1 F F' : Addr → Prop} {H1 H H' : Hp} {p : Addr} {acc : List DV} (b1 : Bs C F1 H1) (n1 : H1 p = none) (h : Acc K C F1 H1 p acc F H) (g : Go C F H F' H') : Acc K C F1 H1 p acc F' H' := by
  obtain ⟨g0, nf, vs, as, e, r, nd, f⟩ := h
  have o : ∀ a ∈ as, ¬ F a ∧ ¬ C.Z a := fun a m => ⟨(f a m).1, b1.nzn (f a m).2⟩
  obtain ⟨s, o'⟩ := g.own g0.ok r.there o
  refine ⟨g0.trans b1 g, fun z => ?_, vs, as, g.same p _ e (b1.nzn n1), r.mono (g.keep g0.ok) s, nd, fun a m => ⟨(o' a m).1, (f a m).2⟩⟩
  rcases g.new p z with z | z
  · exact nf z
  · rw [e] at z; cases z
/-- one more -/
theorem Acc.push {F1 F F' : Addr → Prop} {H1 H H' : Hp} {p : Addr} {acc : List DV} {v : V} {dv : DV} (b1 : Bs C F1 H1) (n1 : H1 p = none) (h : Acc K C F1 H1 p acc F H) (g : Go C F H F' H') (rr : RR K C F' H H' v (.val dv)) :
    ∃ vs, H' p = some (.lst vs) ∧ vs.length = acc.length ∧ Acc K C F1 H1 p (acc ++ [dv]) F' (upd H' p (.lst (vs ++ [v]))) := by
  have h' := h.step b1 n1 g
  obtain ⟨g0, nf, vs0, as0, e0, r0, nd0, f0⟩ := h
  obtain ⟨g1, nf1, vs, as, e, r, nd, f⟩ := h'
  obtain ⟨bs, z1, z2, z3⟩ := rr
  have ebs : ∀ a ∈ bs, a ≠ p := fun a m z => by
    have := (z3 a m).2
    rw [z, e0] at this; cases this
  have eas : ∀ a ∈ as0, a ≠ p := fun a m z => (List.nodup_cons.mp nd0).1 (z ▸ m)
  -- the elder items as they stood
  have o : ∀ a ∈ as0, ¬ F a ∧ ¬ C.Z a := fun a m => ⟨(f0 a m).1, b1.nzn (f0 a m).2⟩
  obtain ⟨s, o'⟩ := g.own g0.ok r0.there o
  have r0' := r0.mono (g.keep g0.ok) s
  have kp : Keep F' H' F' (upd H' p (.lst (vs ++ [v]))) := .put (by rw [e]; trivial) nf1
  have hvs : vs0 = vs := by
    have := g.same p _ e0 (b1.nzn n1)
    rw [e] at this
    cases this; rfl
  subst hvs
  refine ⟨_, e, r0'.length, g1.put b1 n1, nf1, _, as0 ++ (bs ++ []), upd_same, ?_, ?_, fun a m => ?_⟩
  · exact Reps.append (r0'.mono kp fun a m => upd_ne (eas a m)) (.cons (z1.mono kp fun a m => upd_ne (ebs a m)) .nil)
  · rw [List.append_nil]
    refine List.nodup_cons.mpr ⟨fun m => ?_, List.nodup_append.mpr ⟨(List.nodup_cons.mp nd0).2, z2, fun a m b m' q => ?_⟩⟩
    · rcases List.mem_append.mp m with m | m
      · exact (List.nodup_cons.mp nd0).1 m
      · exact ebs p m rfl
    · obtain ⟨u, q', _⟩ := r0.there a m
      have := (z3 b m').2
      rw [← q, q'] at this; cases this
  · rw [List.append_nil] at m
    rcases List.mem_append.mp m with m | m
    · exact ⟨(o' a m).1, (f0 a m).2⟩
    · exact ⟨(z3 a m).1, g0.none b1 (z3 a m).2⟩
theorem Acc.rr {F1 F : Addr → Prop} {H1 H : Hp} {p : Addr} {acc : List DV} (n1 : H1 p = none) (h : Acc K C F1 H1 p acc F H) : RR K C F H1 H (.ref p) (.val (.own acc)) := by
  obtain ⟨g0, nf, vs, as, e, r, nd, f⟩ := h
  refine ⟨p :: as, .own e r, nd, fun a m => ?_⟩
  rcases List.mem_cons.mp m with rfl | m
  · exact ⟨nf, n1⟩
  · exact f a m
theorem Acc.start {F1 : Addr → Prop} {H1 : Hp} {p : Addr} (b : Bs C F1 H1) (n : H1 p = none) : Acc K C F1 H1 p [] F1 (upd H1 p (.lst [])) := by
  refine ⟨Go.laid b n, fun z => ?_, [], [], upd_same, .nil, by simp, fun _ m => by cases m⟩
  obtain ⟨o, e⟩ := (b.f p z).2
  rw [n] at e; cases e
theorem lc_to {vs is : List Nat} {it : DI} {pat : DP} {tst : DB} {te : DT} (im : Mono it) (gm : ∀ d, Mono (pat d)) (tm : Mono tst) (em : Mono te) (his : ∀ i ∈ is, i ∈ vs) {σ : St} {H : Hp} {Q : VK} (q : lift C K (dLc it pat tst te vs) σ H Q) :
    tLc (liftI C K false it) (liftG C K is pat) (liftB C K tst) (lift C K te) vs σ H Q := by
  obtain ⟨δ, F, x, q⟩ := q
  refine ⟨δ, F, x, im δ _ _ (fun ds q F1 H1 J g ir => ?_) q⟩
  intro p n
  have x1 := x.go g
  have b1 := g.ok
  refine ⟨fun i m H' => m = ds.length - i ∧ i ≤ ds.length ∧ ∃ F' acc, Acc K C F1 H1 p acc F' H' ∧ lcRun pat tst te (wipeD δ vs) (ds.drop i) acc _, ⟨ds.length, by simp, Nat.zero_le _, F1, [], Acc.start b1 n, q⟩, ?_⟩
  rintro i m H' ⟨rfl, hi', F', acc, A, q⟩
  by_cases hlt : i < ds.length
  · have ed : ds[i]? = some ds[i] := List.getElem?_eq_getElem hlt
    have gP : Go C F1 H1 F' H' := A.go
    obtain ⟨go, yl⟩ := ir.item F' H' gP.ok gP i _ ed
    refine .inr ⟨go, fun H'' => ∃ F'' acc', Acc K C F1 H1 p acc' F'' H'' ∧ lcRun pat tst te (wipeD δ vs) (ds.drop (i + 1)) acc' _, fun H'' ⟨F'', acc', A', q'⟩ => ⟨ds.length - (i + 1), by omega, rfl, hlt, F'', acc', A', q'⟩, fun y H'' yy => ?_⟩
    obtain ⟨F2, g2, dq⟩ := yl y H'' yy
    have A2 := A.step b1 n g2
    rw [List.drop_eq_getElem_cons hlt] at q
    have x2 : At0 K C F2 H'' (wipe σ vs) (wipeD δ vs) := (x1.go A2.go).wipe _
    refine ⟨_, F2, ds[i], x2, dq, gm _ _ _ _ (fun δ' q σ' k w => ⟨(w _ his).trans (wipe_sub σ _ fun _ m => m), ?_⟩) q⟩
    refine ⟨δ', F2, k.at0 x2, tm δ' _ _ (fun kk q F3 H3 g3 => ?_) q⟩
    have A3 := A2.step b1 n g3
    cases kk with
    | false => exact ⟨F3, acc, A3, q⟩
    | true =>
      refine ⟨δ', F3, (k.at0 x2).go g3, em δ' _ _ (fun r q F4 H4 v g4 rr => ?_) q⟩
      split at q
      · rename_i dv e
        obtain ⟨vs, e1, e2, A4⟩ := A3.push b1 n g4 (rr.fx g4.ok e)
        exact ⟨vs, e1, by rw [e2]; exact q.1, F4, _, A4, q.2⟩
      · exact q.elim
  · have e : i = ds.length := by omega
    subst e
    refine .inl ⟨ir.stop F' H' A.go.ok A.go, ?_⟩
    rw [List.drop_length] at q
    have gg := g.trans x.bs A.go
    have rr := A.rr n
    exact q F' H' _ gg (rr.older x.bs g)
theorem d_lc {elt tg iter : Expr} {ifs : List Expr} {scope : Scope} {own : List (Str × Nat)} {pos : Pos} {it : DI} {pat : DP} {tst : DB} {te : DT} {is : List Nat} (hc : X.calm = true) (hN : X.N.Nodup) (hi : PDI C X false tg iter it) (ok : BlkOk X.N X.env.scope scope own) (his : ∀ i ∈ is, i ∈ own.map (·.2))
    (hg : ∀ (s : Shared) (H : Hp) (A : Addr) (cl : List (Str × Addr)) (fp : List Addr), PDG C (X.blk s H scope (compEnvC scope cl A X.env) fp) tg is pat) (ht : ∀ (s : Shared) (H : Hp) (A : Addr) (cl : List (Str × Addr)) (fp : List Addr), PDTs C (X.blk s H scope (compEnvC scope cl A X.env) fp) ifs tst)
    (he : ∀ (s : Shared) (H : Hp) (A : Addr) (cl : List (Str × Addr)) (fp : List Addr), PD C (X.blk s H scope (compEnvC scope cl A X.env) fp) elt te) (hs : ∀ x, foldedSetIterable iter X.env x = pure x := by intro _; rfl) :
    PD C X (.ListComp elt [⟨tg, iter, ifs, 0⟩] scope pos) (dLc it pat tst te (own.map (·.2))) := by
  have gm := fun d => (hg X.s_0 X.H_0 0 [] []).mono d
  have tm := (ht X.s_0 X.H_0 0 [] []).mono
  have em := (he X.s_0 X.H_0 0 [] []).mono
  refine ⟨fun δ Q Q' m q => hi.mono δ _ _ (fun ds q => mono_lcRun gm tm em _ (fun acc q => m _ q) ds [] q) q, ?_⟩
  exact (pe_lc (wi := liftI C X.K false it) (g := liftG C X.K is pat) (tt := liftB C X.K tst) (te := lift C X.K te) hc hN hi.run ok (fun s H A cl fp => (hg s H A cl fp).run) (fun s H A cl fp => (ht s H A cl fp).run) (fun s H A cl fp => (he s H A cl fp).run) hs).imp fun σ H Q q => lc_to hi.mono gm tm em his q
end
end DL
set_option Elab.async false
set_option linter.all false
set_option maxRecDepth 100000
set_option maxHeartbeats 1000000
namespace DL
open PySem PySem.Spec L2
open PyProof.Rows hiding St
/-! ### statements -/
structure DEnds where
  nx : DE → Prop
  rt : DV → Prop
  bk : DE → Prop := fun _ => False
  ct : DE → Prop := fun _ => False
abbrev DS := DEnds → DE → Prop
structure DEnds.Le (D D' : DEnds) : Prop where
  nx : ∀ δ, D.nx δ → D'.nx δ
  rt : ∀ v, D.rt v → D'.rt v
  bk : ∀ δ, D.bk δ → D'.bk δ
  ct : ∀ δ, D.ct δ → D'.ct δ
theorem DEnds.Le.refl (D : DEnds) : D.Le D := ⟨fun _ h => h, fun _ h => h, fun _ h => h, fun _ h => h⟩
def MonoS (t : DS) : Prop := ∀ D D' δ, D.Le D' → t D δ → t D' δ
theorem MonoS.ap {t : DS} (h : MonoS t) {D D' : DEnds} {δ : DE} (q : t D δ) (l : D.Le D') : t D' δ := h _ _ _ l q
section
variable (K : PySem.W.Frag) (C : Zn) (F0 : Addr → Prop) (H0 : Hp)
/-- the state of a def's body, seen from its entry -/
def At (σ : St) (δ : DE) (F : Addr → Prop) (H : Hp) : Prop := Bs C F0 H0 ∧ Go C F0 H0 F H ∧ ∃ as, Envs K C F H σ δ as ∧ as.Nodup ∧ ∀ a ∈ as, ¬ F a ∧ H0 a = none
def endsOf (D : Ends) (F : Addr → Prop) (H : Hp) : DEnds where
  nx := fun δ' => ∀ σ' F' H', At K C F0 H0 σ' δ' F' H' → Keep F H F' H' → D.nx σ' H'
  rt := fun dv => ∀ v F' H', Go C F0 H0 F' H' → RR K C F' H0 H' v (.val dv) → D.rt v H'
  bk := fun δ' => ∀ σ' F' H', At K C F0 H0 σ' δ' F' H' → Keep F H F' H' → D.bk σ' H'
  ct := fun δ' => ∀ σ' F' H', At K C F0 H0 σ' δ' F' H' → Keep F H F' H' → D.ct σ' H'
def liftS (t : DS) : TS := fun D σ H => ∃ δ F, At K C F0 H0 σ δ F H ∧ t (endsOf K C F0 H0 D F H) δ
end
structure PSD (C : Zn) (F0 : Addr → Prop) (H0 : Hp) (X : Cx) (st : Stmt) (t : DS) : Prop where
  mono : MonoS t
  run : PS X st (liftS X.K C F0 H0 t)
structure PSSD (C : Zn) (F0 : Addr → Prop) (H0 : Hp) (X : Cx) (sts : List Stmt) (t : DS) : Prop where
  mono : MonoS t
  run : PSs X sts (liftS X.K C F0 H0 t)
section
variable {K : PySem.W.Frag} {C : Zn} {F0 F F1 F' : Addr → Prop} {H0 H H1 H' : Hp} {σ σ' : St} {δ δ' : DE}
theorem At.bs (x : At K C F0 H0 σ δ F H) : Bs C F H := x.2.1.ok
theorem At.at0 (x : At K C F0 H0 σ δ F H) : At0 K C F H σ δ := by
  obtain ⟨b0, g, as, e, nd, o⟩ := x
  exact ⟨as, e, nd, fun a m => ⟨(o a m).1, b0.nzn (o a m).2⟩, g.ok⟩
theorem At.go (x : At K C F0 H0 σ δ F H) (g' : Go C F H F' H') : At K C F0 H0 σ δ F' H' := by
  obtain ⟨b0, g, as, e, nd, o⟩ := x
  obtain ⟨s, o'⟩ := g'.own g.ok e.there fun a m => ⟨(o a m).1, b0.nzn (o a m).2⟩
  exact ⟨b0, g.trans b0 g', as, e.mono (g'.keep g.ok) s, nd, fun a m => ⟨(o' a m).1, (o a m).2⟩⟩
theorem At.rst (x : At K C F0 H0 σ δ F H) (r : Rst K C F H σ δ σ' δ') : At K C F0 H0 σ' δ' F H := by
  obtain ⟨b0, g, as, e, nd, o⟩ := x
  obtain ⟨as', e', s⟩ := r as e
  exact ⟨b0, g, as', e', nd.sublist s, fun a m => o a (s.subset m)⟩
/-- a value is stored in a slot -/
theorem At.set (x : At K C F0 H0 σ δ F H) (g : Go C F H F' H') {v : V} {dv : DV} (rr : RR K C F' H H' v (.val dv)) {i : Nat} (hi : i < δ.length) : At K C F0 H0 (σ.set i (some v)) (δ.set i (some dv)) F' H' := by
  have x' := x.go g
  obtain ⟨b0, gg, as, e, nd, o⟩ := x
  obtain ⟨_, g2, as2, e2, nd2, o2⟩ := x'
  obtain ⟨bs, z1, z2, z3⟩ := rr
  obtain ⟨s, _⟩ := g.own gg.ok e.there fun a m => ⟨(o a m).1, b0.nzn (o a m).2⟩
  have e' := e.mono (g.keep gg.ok) s
  have o' : ∀ a ∈ as, ¬ F' a ∧ H0 a = none := fun a m => by
    have := (g.own gg.ok e.there fun a m => ⟨(o a m).1, b0.nzn (o a m).2⟩).2 a m
    exact ⟨this.1, (o a m).2⟩
  obtain ⟨as3, e3, cs, p, sb⟩ := Envs.set i e' z1 (by rw [e.length]; exact hi)
  refine ⟨b0, g2, as3, e3, ?_, fun a m => ?_⟩
  · refine (p.nodup_iff).mpr (List.nodup_append.mpr ⟨z2, nd.sublist sb, fun a m b m' q => ?_⟩)
    obtain ⟨u, q', _⟩ := e.there b (sb.subset m')
    have := (z3 a m).2
    rw [q, q'] at this; cases this
  · rcases List.mem_append.mp (p.mem_iff.mp m) with m | m
    · exact ⟨(z3 a m).1, gg.none b0 (z3 a m).2⟩
    · exact o' a (sb.subset m)
theorem endsOf_le {D : Ends} (k : Keep F H F1 H1) : (endsOf K C F0 H0 D F H).Le (endsOf K C F0 H0 D F1 H1) :=
  ⟨fun δ h σ' F' H' x k' => h σ' F' H' x (k.trans k'), fun v h => h, fun δ h σ' F' H' x k' => h σ' F' H' x (k.trans k'), fun δ h σ' F' H' x k' => h σ' F' H' x (k.trans k')⟩
theorem Envs.lens : ∀ {σ : St} {δ : DE} {as : List Addr} {i : Nat} {dv : DV}, Envs K C F H σ δ as → δ[i]? = some (some dv) → ∃ v as1 bs as2, as = as1 ++ bs ++ as2 ∧ σ[i]? = some (some v) ∧ Rep K C F H v dv bs ∧
    ∀ (F' : Addr → Prop) (H' : Hp) (dv' : DV) (bs' : List Addr), Keep F H F' H' → (∀ a ∈ as1 ++ as2, H' a = H a) → Rep K C F' H' v dv' bs' → Envs K C F' H' σ (δ.set i (some dv')) (as1 ++ bs' ++ as2)
  | _, _, _, _, _, .nil, e => by cases e
  | _, _, _, 0, _, .off t, e => by cases e
  | _, _, _, i + 1, d, .off t, e => by
    obtain ⟨v, as1, bs, as2, h1, h2, h3, h4⟩ := Envs.lens (i := i) (dv := d) t (by simpa using e)
    exact ⟨v, as1, bs, as2, h1, by simpa using h2, h3, fun F' H' dv' bs' k s r => .off (h4 F' H' dv' bs' k s r)⟩
  | _, _, _, 0, _, .on (as := as) (bs := bs) r t, e => by
    cases e
    refine ⟨_, [], as, bs, by simp, rfl, r, fun F' H' dv' bs' k s r' => ?_⟩
    exact .on r' (t.mono k fun a m => s a (by simpa using m))
  | _, _, _, i + 1, d, .on (as := as) (bs := cs) r t, e => by
    obtain ⟨v, as1, bs, as2, h1, h2, h3, h4⟩ := Envs.lens (i := i) (dv := d) t (by simpa using e)
    subst h1
    refine ⟨v, as ++ as1, bs, as2, by simp, by simpa using h2, h3, fun F' H' dv' bs' k s r' => ?_⟩
    have q := Envs.on (r.mono k fun a m => s a (by simp [m])) (h4 F' H' dv' bs' k (fun a m => s a (by
      rcases List.mem_append.mp m with m | m <;> simp [m])) r')
    simpa using q
/-- the list in slot i is written -/
theorem At.lens (x : At K C F0 H0 σ δ F H) (g : Go C F H F1 H1) {i : Nat} {es : List DV} (e : δ[i]? = some (some (.own es))) : ∃ a vs bs, σ[i]? = some (some (.ref a)) ∧ H1 a = some (.lst vs) ∧ Reps K C F1 H1 vs es bs ∧ (a :: bs).Nodup ∧ (∃ o, H a = some o) ∧ (∀ b ∈ bs, ∃ o, H b = some o) ∧ ¬ F1 a ∧ ¬ C.Z a ∧ (∀ b ∈ bs, ¬ F1 b ∧ ¬ C.Z b) ∧
    (∀ vs' es' bs' H2, (∀ c, c ∉ a :: bs → H2 c = H1 c) → Bs C F1 H2 → Keep F1 H1 F1 H2 → H2 a = some (.lst vs') → Reps K C F1 H2 vs' es' bs' → (a :: bs').Nodup → (∀ b ∈ bs', b ∈ bs ∨ (H b = none ∧ ¬ F1 b)) →
      At K C F0 H0 σ (δ.set i (some (.own es'))) F1 H2) := by
  obtain ⟨b0, gg, as, en, nd, o⟩ := x
  have oz : ∀ a ∈ as, ¬ F a ∧ ¬ C.Z a := fun a m => ⟨(o a m).1, b0.nzn (o a m).2⟩
  obtain ⟨s, o'⟩ := g.own gg.ok en.there oz
  have en1 := en.mono (g.keep gg.ok) s
  have g1 := gg.trans b0 g
  obtain ⟨v, as1, bs0, as2, ha, hs, r, put⟩ := en1.lens e
  cases r with
  | @own a vs _ bs e1 r =>
    have sub : ∀ c ∈ a :: bs, c ∈ as := fun c m => by rw [ha]; simp only [List.mem_append]; exact .inl (.inr m)
    have nd0 : (as1 ++ (a :: bs) ++ as2).Nodup := ha ▸ nd
    have ndm : (a :: bs).Nodup := (List.nodup_append.mp (List.nodup_append.mp nd0).1).2.1
    refine ⟨a, vs, bs, hs, e1, r, ndm, ?_, fun b m => ?_, (o' a (sub a List.mem_cons_self)).1, (o' a (sub a List.mem_cons_self)).2, fun b m => o' b (sub b (List.mem_cons_of_mem _ m)), ?_⟩
    · obtain ⟨u, q, _⟩ := en.there a (sub a List.mem_cons_self)
      exact ⟨u, q⟩
    · obtain ⟨u, q, _⟩ := en.there b (sub b (List.mem_cons_of_mem _ m))
      exact ⟨u, q⟩
    · intro vs' es' bs' H2 same b2 k2 h2 r2 nd2 fr
      have off : ∀ c ∈ as1 ++ as2, c ∉ a :: bs := fun c m m' => by
        rcases List.mem_append.mp m with m | m
        · exact (List.nodup_append.mp (List.nodup_append.mp nd0).1).2.2 c m c m' rfl
        · exact (List.nodup_append.mp nd0).2.2 c (List.mem_append_right _ m') c m rfl
      refine ⟨b0, ⟨fun c u q z => ?_, g1.grow, g1.new, b2⟩, as1 ++ (a :: bs') ++ as2, put F1 H2 (.own es') (a :: bs') k2 (fun c m => same c (off c m)) (.own h2 r2), ?_, ?_⟩
      · have : c ∉ a :: bs := fun m => by
          have := (o c (sub c m)).2
          rw [q] at this; cases this
        rw [same c this]; exact g1.same c u q z
      · have n12 : (as1 ++ as2).Nodup := by
          refine List.nodup_append.mpr ⟨(List.nodup_append.mp (List.nodup_append.mp nd0).1).1, (List.nodup_append.mp nd0).2.1, fun c m c' m' q => ?_⟩
          exact (List.nodup_append.mp nd0).2.2 c (List.mem_append_left _ m) c' m' q
        have apart : ∀ c ∈ as1 ++ as2, c ∉ a :: bs' := fun c m m' => by
          rcases List.mem_cons.mp m' with rfl | m'
          · exact off c m List.mem_cons_self
          · rcases fr c m' with q | ⟨q, _⟩
            · exact off c m (List.mem_cons_of_mem _ q)
            · have mc : c ∈ as := by
                rw [ha]
                rcases List.mem_append.mp m with m | m <;> simp [m]
              obtain ⟨u, q', _⟩ := en.there c mc
              rw [q] at q'; cases q'
        refine List.nodup_append.mpr ⟨List.nodup_append.mpr ⟨(List.nodup_append.mp n12).1, nd2, fun c m c' m' q => ?_⟩, (List.nodup_append.mp n12).2.1, fun c m c' m' q => ?_⟩
        · exact apart c (List.mem_append_left _ m) (q ▸ m')
        · rcases List.mem_append.mp m with m | m
          · exact (List.nodup_append.mp n12).2.2 c m c' m' q
          · exact apart c' (List.mem_append_right _ m') (q ▸ m)
      · intro c m
        rcases List.mem_append.mp m with m | m
        · rcases List.mem_append.mp m with m | m
          · have mc : c ∈ as := by rw [ha]; simp [m]
            exact ⟨(o' c mc).1, (o c mc).2⟩
          · rcases List.mem_cons.mp m with rfl | m
            · have mc := sub c List.mem_cons_self
              exact ⟨(o' c mc).1, (o c mc).2⟩
            · rcases fr c m with q | ⟨q, nf⟩
              · have mc := sub c (List.mem_cons_of_mem _ q)
                exact ⟨(o' c mc).1, (o c mc).2⟩
              · exact ⟨nf, gg.none b0 q⟩
        · have mc : c ∈ as := by rw [ha]; simp [m]
          exact ⟨(o' c mc).1, (o c mc).2⟩
/-- .. the list alone, items of its own kept -/
theorem At.lens1 (x : At K C F0 H0 σ δ F H) (g : Go C F H F1 H1) {i : Nat} {es : List DV} (e : δ[i]? = some (some (.own es))) : ∃ a vs bs, σ[i]? = some (some (.ref a)) ∧ H1 a = some (.lst vs) ∧ Reps K C F1 H1 vs es bs ∧ (a :: bs).Nodup ∧ (∃ o, H a = some o) ∧ (∀ b ∈ bs, ∃ o, H b = some o) ∧ ¬ F1 a ∧ ¬ C.Z a ∧ (∀ b ∈ bs, ¬ F1 b ∧ ¬ C.Z b) ∧
    (∀ vs' es' bs', Reps K C F1 H1 vs' es' bs' → (a :: bs').Nodup → (∀ b ∈ bs', b ∈ bs ∨ (H b = none ∧ ¬ F1 b)) →
      At K C F0 H0 σ (δ.set i (some (.own es'))) F1 (upd H1 a (.lst vs')) ∧ Keep F H F1 (upd H1 a (.lst vs'))) := by
  obtain ⟨a, vs, bs, h1, h2, h3, h4, h5, h6, h7, h8, h8', h9⟩ := x.lens g e
  have kp : Keep F1 H1 F1 (upd H1 a (.lst vs)) := .put (by rw [h2]; trivial) h7
  refine ⟨a, vs, bs, h1, h2, h3, h4, h5, h6, h7, h8, h8', fun vs' es' bs' r nd fr => ⟨h9 vs' es' bs' _ (fun c m => upd_ne fun q => m (q ▸ List.mem_cons_self)) (g.ok.put h8) (.put (by rw [h2]; trivial) h7) upd_same ?_ nd fr, (g.keep x.bs).trans (.put (by rw [h2]; trivial) h7)⟩⟩
  exact r.mono (.put (by rw [h2]; trivial) h7) fun c m => upd_ne fun q => (List.nodup_cons.mp nd).1 (q ▸ m)
end
section
variable {C : Zn} {F0 : Addr → Prop} {H0 : Hp} {X : Cx} {st : Stmt} {rest : List Stmt} {t u : DS} {e : Expr} {te : DT} {pos : Pos}
def dNext : DS := fun D δ => D.nx δ
def dSeq2 (t u : DS) : DS := fun D δ => t { D with nx := u D } δ
theorem s_nil : PSSD C F0 H0 X [] dNext := ⟨fun D D' δ l q => l.nx _ q, pss_nil.imp fun D σ H q => by
  obtain ⟨δ, F, x, q⟩ := q
  exact q σ F H x .refl⟩
theorem s_cons (h1 : PSD C F0 H0 X st t) (h2 : PSSD C F0 H0 X rest u) : PSSD C F0 H0 X (st :: rest) (dSeq2 t u) :=
  ⟨fun D D' δ l q => h1.mono { D with nx := u D } { D' with nx := u D' } δ ⟨fun δ q => h2.mono _ _ _ l q, l.rt, l.bk, l.ct⟩ q, (pss_cons h1.run h2.run).imp fun D σ H q => by
    obtain ⟨δ, F, x, q⟩ := q
    refine ⟨δ, F, x, h1.mono { endsOf X.K C F0 H0 D F H with nx := u (endsOf X.K C F0 H0 D F H) } _ δ ⟨fun δ' q σ' F' H' x' k => ?_, fun v q => q, fun δ q => q, fun δ q => q⟩ q⟩
    exact ⟨δ', F', x', h2.mono _ _ _ (endsOf_le k) q⟩⟩
theorem s_one (h1 : PSD C F0 H0 X st t) : PSSD C F0 H0 X [st] t := ⟨h1.mono, pss_one h1.run⟩
def dNever : DS := fun _ _ => False
theorem s_never : PSD C F0 H0 X st dNever := ⟨fun D D' δ l q => q, ps_never.imp fun D σ H q => by
  obtain ⟨δ, F, x, q⟩ := q
  exact q⟩
/-- name = e -/
def dSet (i : Nat) (te : DT) : DS := fun D δ => te δ fun r => match r.fx with
  | some dv => i < δ.length ∧ D.nx (δ.set i (some dv))
  | none => False
theorem mono_set {i : Nat} (h : Mono te) : MonoS (dSet i te) := fun D D' δ l q => h δ _ _ (fun r q => by
  cases e : r.fx with
  | none => rw [e] at q; exact q
  | some dv => rw [e] at q; exact ⟨q.1, l.nx _ q.2⟩) q
theorem s_set {i : Nat} {x : Str} {pos' : Pos} (hN : X.N.Nodup) (hi : X.N[i]? = some x) (hx : Loc X.env.scope x) (he : PD C X e te) (hs : swapsWith e (some (.Name x pos')) pos.line X.env = pure false := by rfl) (hf : X.fn x = true ∨ X.env.scope.names.lookup x = some .local := by first | exact .inl rfl | exact .inr rfl | assumption) :
    PSD C F0 H0 X (.Assign [.Name x pos'] e pos) (dSet i te) :=
  ⟨mono_set he.mono, (ps_set hN hi hx he.run hs hf).imp fun D σ H q => by
    obtain ⟨δ, F, x, q⟩ := q
    refine ⟨δ, F, x.at0, he.mono δ _ _ (fun r q F' H' v g rr => ?_) q⟩
    split at q
    · rename_i dv e
      exact q.2 _ F' H' (x.set g (rr.fx g.ok e) q.1) (g.keep x.bs)
    · exact q.elim⟩
/-- target = e, the value given away -/
def dAsg (te : DT) (g : DP) : DS := fun D δ => te δ fun r => match r.fd with
  | some d => g d δ D.nx
  | none => False
theorem mono_asg {g : DP} (h : Mono te) (hg : ∀ d, Mono (g d)) : MonoS (dAsg te g) := fun D D' δ l q => h δ _ _ (fun r q => by
  cases e : r.fd with
  | none => rw [e] at q; exact q
  | some dv => rw [e] at q; exact hg _ _ _ _ l.nx q) q
theorem s_asg {tg : Expr} {is : List Nat} {g : DP} (he : PD C X e te) (hg : PDG C X tg is g) (hs : swapsWithSole [tg] e pos.line X.env = pure false := by rfl) (hw : swappedStores [tg] e X.env = pure none := by rfl)
    (h1 : (assignEach [tg] X.env).map (·.2) = [assign tg X.env] := by rfl) : PSD C F0 H0 X (.Assign [tg] e pos) (dAsg te g) :=
  ⟨mono_asg he.mono hg.mono, (ps_asg he.run hg.run hs hw h1).imp fun D σ H q => by
    obtain ⟨δ, F, x, q⟩ := q
    refine ⟨δ, F, x.at0, he.mono δ _ _ (fun r q F' H' v g rr => ?_) q⟩
    split at q
    · rename_i d e
      obtain ⟨F2, g2, _, dq⟩ := RR.fd x.bs g rr e
      have x2 := x.go g2
      exact ⟨δ, F2, d, x2.at0, dq, hg.mono d δ _ _ (fun δ' q σ' k _ => q σ' F2 H' (x2.rst k) (g2.keep x.bs)) q⟩
    · exact q.elim⟩
/-- a, b = e1, e2 with plain local names -/
def dPar (i j : Nat) (t : DL') : DS := fun D δ => t δ fun rs => match fxL rs with
  | some [d1, d2] => i < δ.length ∧ j < δ.length ∧ D.nx ((δ.set i (some d1)).set j (some d2))
  | _ => False
theorem fxL2 {rs : List R} {d1 d2 : DV} (e : fxL rs = some [d1, d2]) : ∃ r1 r2, rs = [r1, r2] ∧ r1.fx = some d1 ∧ r2.fx = some d2 := by
  cases rs with
  | nil => cases e
  | cons r1 rs =>
    cases rs with
    | nil =>
      unfold fxL at e
      cases e1 : r1.fx with
      | none => rw [e1] at e; simp [fxL] at e
      | some d => rw [e1] at e; simp [fxL] at e
    | cons r2 rs =>
      cases rs with
      | nil =>
        unfold fxL at e
        unfold fxL at e
        cases e1 : r1.fx with
        | none => rw [e1] at e; simp at e
        | some d =>
          cases e2 : r2.fx with
          | none => rw [e1, e2] at e; simp at e
          | some d' =>
            rw [e1, e2] at e
            simp [fxL] at e
            obtain ⟨rfl, rfl⟩ := e
            exact ⟨r1, r2, rfl, e1, e2⟩
      | cons r3 rs =>
        unfold fxL at e
        unfold fxL at e
        unfold fxL at e
        cases e1 : r1.fx <;> cases e2 : r2.fx <;> cases e3 : r3.fx <;> cases e4 : fxL rs <;> rw [e1, e2, e3, e4] at e <;> simp at e
/-- two values are stored -/
theorem At.set2 {K : PySem.W.Frag} {F F' : Addr → Prop} {H H' : Hp} {σ : St} {δ : DE} (x : At K C F0 H0 σ δ F H) (g : Go C F H F' H') {v1 v2 : V} {r1 r2 : R} {d1 d2 : DV} (rr : RRs K C F' H H' [v1, v2] [r1, r2]) (e1 : r1.fx = some d1) (e2 : r2.fx = some d2) {i j : Nat} (hi : i < δ.length) (hj : j < δ.length) :
    At K C F0 H0 ((σ.set i (some v1)).set j (some v2)) ((δ.set i (some d1)).set j (some d2)) F' H' := by
  obtain ⟨as, hr, nd, f⟩ := RRs.hold (ds := [d1, d2]) rr (by simp [fxL, e1, e2])
  cases hr with
  | @cons _ _ _ _ as1 as2 z1 t =>
    cases t with
    | @cons _ _ _ _ as3 as4 z2 t =>
      cases t
      rw [List.append_nil] at nd f
      obtain ⟨n1, n2, n3⟩ := List.nodup_append.mp nd
      have x' := x.go g
      obtain ⟨b0, gg, as, e, nd', o⟩ := x
      obtain ⟨_, g2, _⟩ := x'
      have oz := fun a (m : a ∈ as) => (⟨(o a m).1, b0.nzn (o a m).2⟩ : ¬ F a ∧ ¬ C.Z a)
      obtain ⟨s, o'⟩ := g.own gg.ok e.there oz
      obtain ⟨bs1, w1, cs1, p1, s1⟩ := Envs.set i (e.mono (g.keep gg.ok) s) z1 (by rw [e.length]; exact hi)
      obtain ⟨bs2, w2, cs2, p2, s2⟩ := Envs.set j w1 z2 (by rw [List.length_set, e.length]; exact hj)
      have old : ∀ a ∈ as, H a ≠ none := fun a m z => by
        obtain ⟨u, q, _⟩ := e.there a m
        rw [z] at q; cases q
      have nb1 : bs1.Nodup := (p1.nodup_iff).mpr (List.nodup_append.mpr ⟨n1, nd'.sublist s1, fun a m b m' q => old b (s1.subset m') (q ▸ (f a (List.mem_append_left _ m)).2)⟩)
      refine ⟨b0, g2, bs2, w2, (p2.nodup_iff).mpr (List.nodup_append.mpr ⟨n2, nb1.sublist s2, fun a m b m' q => ?_⟩), fun a m => ?_⟩
      · rcases List.mem_append.mp (p1.mem_iff.mp (s2.subset m')) with z | z
        · exact n3 b z a m q.symm
        · exact old b (s1.subset z) (q ▸ (f a (List.mem_append_right _ m)).2)
      · have frs : ∀ a, a ∈ as1 ++ as3 → ¬ F' a ∧ H0 a = none := fun a m => ⟨(f a m).1, gg.none b0 (f a m).2⟩
        rcases List.mem_append.mp (p2.mem_iff.mp m) with m | m
        · exact frs a (List.mem_append_right _ m)
        · rcases List.mem_append.mp (p1.mem_iff.mp (s2.subset m)) with z | z
          · exact frs a (List.mem_append_left _ z)
          · exact ⟨(o' a (s1.subset z)).1, (o a (s1.subset z)).2⟩
end
end DL
set_option Elab.async false
set_option linter.all false
set_option maxRecDepth 100000
set_option maxHeartbeats 1000000
namespace DL
open PySem PySem.Spec L2
open PyProof.Rows hiding St
section
variable {C : Zn} {F0 : Addr → Prop} {H0 : Hp} {X : Cx} {st : Stmt} {rest : List Stmt} {t u : DS} {e : Expr} {te : DT} {pos : Pos}
theorem mono_par {i j : Nat} {t : DL'} (h : Mono t) : MonoS (dPar i j t) := fun D D' δ l q => h δ _ _ (fun rs q => by
  split at q
  · exact ⟨q.1, q.2.1, l.nx _ q.2.2⟩
  · exact q.elim) q
theorem s_par {i j : Nat} {x y : Str} {a b : Expr} {t : DL'} {px py pt : Pos} {kt k2 pt2} (hc : X.calm = true) (hN : X.N.Nodup) (hi : X.N[i]? = some x) (hj : X.N[j]? = some y) (hij : i ≠ j)
    (hx : X.env.scope.names.lookup x = some .local) (hy : X.env.scope.names.lookup y = some .local) (ha : PDL C X [a, b] t)
    (hw : swappedStores [.Tuple [.Name x px, .Name y py] kt pt] (.Tuple [a, b] k2 pt2) X.env = pure (some [x, y]))
    (hs : swapsWithSole [.Tuple [.Name x px, .Name y py] kt pt] (.Tuple [a, b] k2 pt2) pos.line X.env = pure false := by rfl) :
    PSD C F0 H0 X (.Assign [.Tuple [.Name x px, .Name y py] kt pt] (.Tuple [a, b] k2 pt2) pos) (dPar i j t) :=
  ⟨mono_par ha.mono, (ps_par hc hN hi hj hij hx hy ha.run hw hs).imp fun D σ H q => by
    obtain ⟨δ, F, x, q⟩ := q
    refine ⟨δ, F, x.at0, ha.mono δ _ _ (fun rs q F' H' vs g rrs => ?_) q⟩
    split at q
    · rename_i d1 d2 e
      obtain ⟨r1, r2, rfl, e1, e2⟩ := fxL2 e
      have hl := rrs.length
      match vs, hl with
      | [v1, v2], _ => exact ⟨v1, v2, rfl, q.2.2 _ F' H' (x.set2 g rrs e1 e2 q.1 q.2.1) (g.keep x.bs)⟩
    · exact q.elim⟩
/-- return e -/
def dRet (te : DT) : DS := fun D δ => te δ fun r => match r.fx with
  | some dv => D.rt dv
  | none => False
theorem mono_ret (h : Mono te) : MonoS (dRet te) := fun D D' δ l q => h δ _ _ (fun r q => by
  cases e : r.fx with
  | none => rw [e] at q; exact q
  | some dv => rw [e] at q; exact l.rt _ q) q
theorem s_ret (he : PD C X e te) : PSD C F0 H0 X (.Return (some e) pos) (dRet te) :=
  ⟨mono_ret he.mono, (ps_ret he.run).imp fun D σ H q => by
    obtain ⟨δ, F, x, q⟩ := q
    refine ⟨δ, F, x.at0, he.mono δ _ _ (fun r q F' H' v g rr => ?_) q⟩
    split at q
    · rename_i dv e
      exact q v F' H' (x.2.1.trans x.1 g) ((rr.fx g.ok e).older x.1 x.2.1)
    · exact q.elim⟩
/-- return x: what the name holds -/
def dRetV (i : Nat) : DS := fun D δ => match δ[i]? with
  | some (some dv) => D.rt dv
  | _ => False
theorem s_retV (i : Nat) {x : Str} {p : Pos} (hN : X.N[i]? = some x := by rfl) (hv : Vis X.env.scope x := by first | exact Or.inl rfl | exact Or.inr (Or.inl rfl) | exact Or.inr (Or.inr rfl)) (hd : (x == ("__debug__" : Str)) = false := by decide) (hcd : (x == ("__classdict__" : Str)) = false := by decide) :
    PSD C F0 H0 X (.Return (some (.Name x p)) pos) (dRetV i) :=
  ⟨fun D D' δ l q => by
    unfold dRetV at q ⊢
    split at q
    · exact l.rt _ q
    · exact q.elim, (ps_ret (pe_var hN hv hd hcd)).imp fun D σ H q => by
    obtain ⟨δ, F, x, q⟩ := q
    unfold dRetV at q
    split at q
    · rename_i dv e
      obtain ⟨b0, g, as, en, nd, o⟩ := x
      obtain ⟨v, bs, e1, r, m, sb⟩ := en.get e
      exact ⟨v, e1, q v F H g ⟨bs, r, nd.sublist sb, fun a z => o a (m a z)⟩⟩
    · exact q.elim⟩
/-- if -/
def dIfS (c : DB) (t u : DS) : DS := fun D δ => c δ fun k => if k = true then t D δ else u D δ
theorem s_if {c : Expr} {a b : List Stmt} {tc : DB} (hc : PB C X c tc) (ha : PSSD C F0 H0 X a t) (hb : PSSD C F0 H0 X b u) : PSD C F0 H0 X (.If c a b pos) (dIfS tc t u) :=
  ⟨fun D D' δ l q => hc.mono δ _ _ (fun k q => by
    cases k with
    | true => exact ha.mono _ _ _ l q
    | false => exact hb.mono _ _ _ l q) q, (ps_if hc.run ha.run hb.run).imp fun D σ H q => by
    obtain ⟨δ, F, x, q⟩ := q
    refine ⟨δ, F, x.at0, hc.mono δ _ _ (fun k q F' H' g => ?_) q⟩
    cases k with
    | true => exact ⟨δ, F', x.go g, ha.mono _ _ _ (endsOf_le (g.keep x.bs)) q⟩
    | false => exact ⟨δ, F', x.go g, hb.mono _ _ _ (endsOf_le (g.keep x.bs)) q⟩⟩
/-- for -/
def forRun (pat : DP) (body : DS) (D : DEnds) : List DL.D → DE → Prop
  | [], δ => D.nx δ
  | d :: ds, δ => pat d δ fun δ' => body { nx := forRun pat body D ds, rt := D.rt, bk := D.nx, ct := forRun pat body D ds } δ'
def dFor (it : DI) (pat : DP) (body : DS) : DS := fun D δ => it δ fun ds => forRun pat body D ds δ
theorem forRun_mono {pat : DP} {body : DS} (hp : ∀ d, Mono (pat d)) (hb : MonoS body) {D D' : DEnds} (l : D.Le D') : ∀ (ds : List DL.D) (δ : DE), forRun pat body D ds δ → forRun pat body D' ds δ
  | [], δ, q => l.nx _ q
  | d :: ds, δ, q => by
    refine hp d δ (fun δ' => body { nx := forRun pat body D ds, rt := D.rt, bk := D.nx, ct := forRun pat body D ds } δ') _ (fun δ' q => ?_) q
    exact hb.ap q ⟨fun δ q => forRun_mono hp hb l ds δ q, l.rt, l.nx, fun δ q => forRun_mono hp hb l ds δ q⟩
theorem s_for {tg iter : Expr} {body : List Stmt} {it : DI} {g : DP} {is : List Nat} {tb : DS} (hp : PassesOwn (model X.prog X.w) X.A X.env X.xe) (hc : X.calm = true) (hi : PDI C X true tg iter it) (hg : PDG C X tg is g) (hb : PSSD C F0 H0 X body tb)
    (hs : ∀ x, foldedSetIterable iter X.env x = pure x := by intro _; rfl) : PSD C F0 H0 X (.For tg iter body [] pos) (dFor it g tb) :=
  ⟨fun D D' δ l q => hi.mono δ _ _ (fun ds q => forRun_mono hg.mono hb.mono l ds δ q) q, (ps_for hp hc hi.run hg.run hb.run hs).imp fun D σ H q => by
    obtain ⟨δ, F, x, q⟩ := q
    refine ⟨δ, F, x.at0, hi.mono δ _ _ (fun ds q F1 H1 J g1 ir => ?_) q⟩
    refine ⟨fun i m σ' H' => m = ds.length - i ∧ i ≤ ds.length ∧ ∃ δ' F', At X.K C F0 H0 σ' δ' F' H' ∧ Keep F1 H1 F' H' ∧ forRun g tb (endsOf X.K C F0 H0 D F1 H1) (ds.drop i) δ', ⟨ds.length, by simp, Nat.zero_le _, δ, F1, x.go g1, .refl, forRun_mono hg.mono hb.mono (endsOf_le (g1.keep x.bs)) _ _ q⟩, ?_⟩
    rintro i m σ' H' ⟨rfl, hi', δ', F', x', k', q⟩
    by_cases hlt : i < ds.length
    · have ed : ds[i]? = some ds[i] := List.getElem?_eq_getElem hlt
      obtain ⟨go, yl⟩ := ir.item F' H' x'.bs k' i _ ed
      rw [List.drop_eq_getElem_cons hlt] at q
      refine .inr ⟨go, fun σ2 H2 => ∃ δ2 F2, At X.K C F0 H0 σ2 δ2 F2 H2 ∧ Keep F1 H1 F2 H2 ∧ forRun g tb (endsOf X.K C F0 H0 D F1 H1) (ds.drop (i + 1)) δ2, fun σ2 H2 ⟨δ2, F2, x2, k2, q2⟩ => ⟨ds.length - (i + 1), by omega, rfl, hlt, δ2, F2, x2, k2, q2⟩, fun v H'' yy => ?_⟩
      obtain ⟨F2, g2, dq⟩ := yl v H'' yy
      have x2 := x'.go g2
      have k2 := k'.trans (g2.keep x'.bs)
      refine ⟨δ', F2, ds[i], x2.at0, dq, hg.mono _ _ _ _ (fun δ3 q σ3 rs _ => ?_) q⟩
      exact ⟨δ3, F2, x2.rst rs, hb.mono.ap q ⟨fun δ4 q σ4 F4 H4 x4 k4 => ⟨δ4, F4, x4, k2.trans k4, q⟩, fun v q => q, fun δ4 q σ4 F4 H4 x4 k4 => q σ4 F4 H4 x4 (k2.trans k4), fun δ4 q σ4 F4 H4 x4 k4 => ⟨δ4, F4, x4, k2.trans k4, q⟩⟩⟩
    · have e : i = ds.length := by omega
      subst e
      rw [List.drop_length] at q
      exact .inl ⟨ir.stop F' H' x'.bs k', q σ' F' H' x' k'⟩⟩
/-- what the name in slot i holds is given away: no step of the program -/
def dFrz (i : Nat) (t : DS) : DS := fun D δ => match δ[i]? with
  | some (some dv) => (match dv.fz with
    | some d => t D (δ.set i (some (.sh d)))
    | none => False)
  | _ => False
theorem s_frz (i : Nat) {sts : List Stmt} (h : PSSD C F0 H0 X sts t) : PSSD C F0 H0 X sts (dFrz i t) :=
  ⟨fun D D' δ l q => by
    unfold dFrz at q ⊢
    split at q
    · split at q
      · exact h.mono _ _ _ l q
      · exact q.elim
    · exact q.elim, h.run.imp fun D σ H q => by
    obtain ⟨δ, F, x, q⟩ := q
    unfold dFrz at q
    split at q
    · rename_i dv e
      split at q
      · rename_i d ed
        obtain ⟨b0, g, as, en, nd, o⟩ := x
        obtain ⟨v, as1, bs, as2, ha, hs, r, put⟩ := en.lens e
        have sub : ∀ c ∈ bs, c ∈ as := fun c m => by rw [ha]; simp [m]
        have g2 : Go C F0 H0 (fun a => F a ∨ a ∈ bs) H := ⟨g.same, fun a m => .inl (g.grow a m), fun a m => by
          rcases m with m | m
          · exact g.new a m
          · exact .inr (o a (sub a m)).2, g.ok.j, fun a m => by
          rcases m with m | m
          · exact g.ok.f a m
          · obtain ⟨u, q, _⟩ := r.there a m
            exact ⟨b0.nzn (o a (sub a m)).2, u, q⟩⟩
        have kp : Keep F H (fun a => F a ∨ a ∈ bs) H := .weak fun a m => .inl m
        have en2 := put (fun a => F a ∨ a ∈ bs) H (.sh d) [] kp (fun a _ => rfl) (.sh (r.rd (fun a m => .inl m) ed fun a m => .inr m))
        have nd0 : (as1 ++ bs ++ as2).Nodup := ha ▸ nd
        refine ⟨_, _, ⟨b0, g2, as1 ++ [] ++ as2, en2, ?_, fun a m => ?_⟩, h.mono _ _ _ (endsOf_le kp) q⟩
        · rw [List.append_nil]
          refine List.nodup_append.mpr ⟨(List.nodup_append.mp (List.nodup_append.mp nd0).1).1, (List.nodup_append.mp nd0).2.1, fun c m c' m' q => ?_⟩
          exact (List.nodup_append.mp nd0).2.2 c (List.mem_append_left _ m) c' m' q
        · rw [List.append_nil] at m
          have mc : a ∈ as := by
            rw [ha]
            rcases List.mem_append.mp m with m | m <;> simp [m]
          refine ⟨fun z => ?_, (o a mc).2⟩
          rcases z with z | z
          · exact (o a mc).1 z
          · rcases List.mem_append.mp m with m | m
            · exact (List.nodup_append.mp (List.nodup_append.mp nd0).1).2.2 a m a z rfl
            · exact (List.nodup_append.mp nd0).2.2 a (List.mem_append_right _ z) a m rfl
      · exact q.elim
    · exact q.elim⟩
/-- an expression for its own sake -/
def dExpr (te : DT) : DS := fun D δ => te δ fun _ => D.nx δ
theorem s_expr (he : PD C X e te) (hs : swapsWith e none pos.line X.env = pure false := by rfl) : PSD C F0 H0 X (.Expr e pos) (dExpr te) :=
  ⟨fun D D' δ l q => he.mono δ _ _ (fun r q => l.nx _ q) q, (ps_expr he.run hs).imp fun D σ H q => by
    obtain ⟨δ, F, x, q⟩ := q
    exact ⟨δ, F, x.at0, he.mono δ _ _ (fun r q F' H' v g rr => q σ F' H' (x.go g) (g.keep x.bs)) q⟩⟩
/-! ### lists of one's own, changed -/
/-- the list in slot i -/
def onOwn (δ : DE) (i : Nat) (k : List DV → Prop) : Prop := match δ[i]? with
  | some (some (.own es)) => k es
  | _ => False
theorem onOwn_mono {δ : DE} {i : Nat} {k k' : List DV → Prop} (h : ∀ es, k es → k' es) (q : onOwn δ i k) : onOwn δ i k' := by
  unfold onOwn at q ⊢
  split at q
  · exact h _ q
  · exact q
theorem onOwn_to {δ : DE} {i : Nat} {k : List DV → Prop} (q : onOwn δ i k) : ∃ es, δ[i]? = some (some (.own es)) ∧ k es := by
  unfold onOwn at q
  split at q
  · rename_i es e
    exact ⟨es, e, q⟩
  · exact q.elim
/-- x.append(e) -/
def dAppend (i : Nat) (te : DT) : DS := fun D δ => onOwn δ i fun es => es.length < sizeLine ∧ te δ fun r => match r.fx with
  | some dv => D.nx (δ.set i (some (.own (es ++ [dv]))))
  | none => False
theorem Reps.snoc {K : PySem.W.Frag} {F : Addr → Prop} {H : Hp} {vs : List V} {es : List DV} {as : List Addr} {v : V} {dv : DV} {bs : List Addr} (r : Reps K C F H vs es as) (q : Rep K C F H v dv bs) : Reps K C F H (vs ++ [v]) (es ++ [dv]) (as ++ bs) := by
  have := r.append (Reps.cons q .nil)
  simpa using this
theorem s_append (i : Nat) {x : Str} {p apos cpos : Pos} (hN : X.N[i]? = some x) (hv : Vis X.env.scope x) (he : PD C X e te) (hd : (x == ("__debug__" : Str)) = false := by decide) (hcd : (x == ("__classdict__" : Str)) = false := by decide)
    (hs0 : starEach [e] X.env = (false, eval e X.env) :: starEach [] X.env := by rfl)
    (hbase : attributeBase (.Name x p) "append" X.env (eval (.Name x p) X.env) = eval (.Name x p) X.env := by rfl)
    (hfew : ((backTo cpos (starEach [e] X.env)).all (fun x => !x.1) && (backToKw cpos (keywordEach [] X.env)).all (fun x => x.1.isSome)
      && decide ([e].length + ([] : List Keyword).length + (if ([] : List Keyword).isEmpty then 0 else 1) < 30)) = true := by rfl)
    (hline : (apos.endLine == cpos.line) = true := by rfl) (hplain : (backTo cpos (starEach [] X.env)).any (·.1) = false := by rfl)
    (hs : swapsWith (.Call (.Attribute (.Name x p) "append" apos) [e] [] cpos) none pos.line X.env = pure false := by rfl) :
    PSD C F0 H0 X (.Expr (.Call (.Attribute (.Name x p) "append" apos) [e] [] cpos) pos) (dAppend i te) :=
  ⟨fun D D' δ l q => onOwn_mono (fun es q => ⟨q.1, he.mono δ _ _ (fun r q => by
    cases e : r.fx with
    | none => rw [e] at q; exact q
    | some dv => rw [e] at q; exact l.nx _ q) q.2⟩) q,
   (ps_expr (pe_bm PySem.F.plainAttrs_list PySem.F.slot_list_append PySem.F.type_list_append mt_append (pe_var hN hv hd hcd) (pa_cons he.run pa_nil hs0) hbase hfew hline hs0 hplain) hs).imp fun D σ H q => by
    obtain ⟨δ, F, x, q⟩ := q
    obtain ⟨es, e, hz, q⟩ := onOwn_to q
    have q0 := x.lens1 (.refl x.bs) e
    obtain ⟨a, vs, bs, e1, h1, r1, _⟩ := q0
    refine ⟨.ref a, e1, .inl ⟨rfl, vs, SqL.of h1⟩, δ, F, x.at0, he.mono δ _ _ (fun r q F' H' v g rr => ?_) q⟩
    split at q
    · rename_i dv ed
      obtain ⟨a', vs', bs', e1', h1', r1', nd, ta, tb, nfa, nza, ob, put⟩ := x.lens1 g e
      rw [e1] at e1'
      cases e1'
      obtain ⟨cs, z1, z2, z3⟩ := rr.fx g.ok ed
      have apart : ∀ c ∈ cs, c ∉ a :: bs' := fun c m m' => by
        rcases List.mem_cons.mp m' with rfl | m'
        · obtain ⟨u, w⟩ := ta
          rw [(z3 c m).2] at w; cases w
        · obtain ⟨u, w⟩ := tb c m'
          rw [(z3 c m).2] at w; cases w
      obtain ⟨x2, k2⟩ := put (vs' ++ [v]) (es ++ [dv]) (bs' ++ cs) (Reps.snoc r1' z1) (by
        have : a :: (bs' ++ cs) = (a :: bs') ++ cs := rfl
        rw [this]
        exact List.nodup_append.mpr ⟨nd, z2, fun c m c' m' w => apart c' m' (w ▸ m)⟩) (fun b m => by
        rcases List.mem_append.mp m with m | m
        · exact .inl m
        · exact .inr ⟨(z3 b m).2, (z3 b m).1⟩)
      exact ⟨a, vs', v, rfl, rfl, h1', by rw [r1'.length]; exact hz, q σ F' _ x2 k2⟩
    · exact q.elim⟩
/-- x.extend(e): e a new list -/
def dExtend (i : Nat) (te : DT) : DS := fun D δ => onOwn δ i fun es => te δ fun r => match r with
  | .val (.own zs) => es.length + zs.length ≤ sizeLine ∧ D.nx (δ.set i (some (.own (es ++ zs))))
  | r => (match r.sup with
    | some (.list ds) => es.length + ds.length ≤ sizeLine ∧ D.nx (δ.set i (some (.own (es ++ ds.map DV.sh))))
    | _ => False)
theorem s_extend (i : Nat) {x : Str} {p apos cpos : Pos} (hN : X.N[i]? = some x) (hv : Vis X.env.scope x) (he : PD C X e te) (hd : (x == ("__debug__" : Str)) = false := by decide) (hcd : (x == ("__classdict__" : Str)) = false := by decide)
    (hs0 : starEach [e] X.env = (false, eval e X.env) :: starEach [] X.env := by rfl)
    (hbase : attributeBase (.Name x p) "extend" X.env (eval (.Name x p) X.env) = eval (.Name x p) X.env := by rfl)
    (hfew : ((backTo cpos (starEach [e] X.env)).all (fun x => !x.1) && (backToKw cpos (keywordEach [] X.env)).all (fun x => x.1.isSome)
      && decide ([e].length + ([] : List Keyword).length + (if ([] : List Keyword).isEmpty then 0 else 1) < 30)) = true := by rfl)
    (hline : (apos.endLine == cpos.line) = true := by rfl) (hplain : (backTo cpos (starEach [] X.env)).any (·.1) = false := by rfl)
    (hs : swapsWith (.Call (.Attribute (.Name x p) "extend" apos) [e] [] cpos) none pos.line X.env = pure false := by rfl) :
    PSD C F0 H0 X (.Expr (.Call (.Attribute (.Name x p) "extend" apos) [e] [] cpos) pos) (dExtend i te) :=
  ⟨fun D D' δ l q => onOwn_mono (fun es q => he.mono δ _ _ (fun r q => by
    split at q
    · exact ⟨q.1, l.nx _ q.2⟩
    · split at q
      · exact ⟨q.1, l.nx _ q.2⟩
      · exact q.elim) q) q,
   (ps_expr (pe_bm PySem.F.plainAttrs_list PySem.F.slot_list_extend PySem.F.type_list_extend mt_extend (pe_var hN hv hd hcd) (pa_cons he.run pa_nil hs0) hbase hfew hline hs0 hplain) hs).imp fun D σ H q => by
    obtain ⟨δ, F, x, q⟩ := q
    obtain ⟨es, e, q⟩ := onOwn_to q
    have q0 := x.lens1 (.refl x.bs) e
    obtain ⟨a, vs, bs, e1, h1, r1, _⟩ := q0
    refine ⟨.ref a, e1, .inl ⟨rfl, vs, SqL.of h1⟩, δ, F, x.at0, he.mono δ _ _ (fun r q F' H' v g rr => ?_) q⟩
    obtain ⟨a', vs', bs', e1', h1', r1', nd, ta, tb, nfa, nza, ob, put⟩ := x.lens1 g e
    rw [e1] at e1'
    cases e1'
    split at q
    · rename_i zs
      obtain ⟨cs, z1, z2, z3⟩ := rr
      cases z1 with
      | @own b ws _ cs w1 w2 =>
        have apart : ∀ c ∈ cs, c ∉ a :: bs' := fun c m m' => by
          have f := (z3 c (List.mem_cons_of_mem _ m)).2
          rcases List.mem_cons.mp m' with rfl | m'
          · obtain ⟨u, w⟩ := ta
            rw [f] at w; cases w
          · obtain ⟨u, w⟩ := tb c m'
            rw [f] at w; cases w
        obtain ⟨x2, k2⟩ := put (vs' ++ ws) (es ++ zs) (bs' ++ cs) (Reps.append r1' w2) (by
          have : a :: (bs' ++ cs) = (a :: bs') ++ cs := rfl
          rw [this]
          exact List.nodup_append.mpr ⟨nd, (List.nodup_cons.mp z2).2, fun c m c' m' w => apart c' m' (w ▸ m)⟩) (fun b m => by
          rcases List.mem_append.mp m with m | m
          · exact .inl m
          · exact .inr ⟨(z3 b (List.mem_cons_of_mem _ m)).2, (z3 b (List.mem_cons_of_mem _ m)).1⟩)
        exact ⟨a, b, vs', ws, rfl, rfl, h1', w1, by rw [r1'.length, w2.length]; exact q.1, q.2 σ F' _ x2 k2⟩
    · split at q
      · rename_i ds ed
        obtain ⟨F2, g2, gr, sp⟩ := RR.sup x.bs g rr ed
        obtain ⟨b, ws, rfl, w1, w2⟩ := sp
        obtain ⟨a', vs2, bs2, e1', h12, r12, nd, ta, tb, nfa, nza, ob, put⟩ := x.lens1 g2 e
        rw [e1] at e1'
        cases e1'
        rw [h1'] at h12
        cases h12
        obtain ⟨x2, k2⟩ := put (vs' ++ ws) (es ++ ds.map DV.sh) (bs2 ++ []) (Reps.append r12 (Reps.ofDq w2)) (by rw [List.append_nil]; exact nd) (fun b m => by rw [List.append_nil] at m; exact .inl m)
        exact ⟨a, b, vs', ws, rfl, rfl, h1', w1.1, by rw [r12.length, w2.length]; exact q.1, q.2 σ F2 _ x2 k2⟩
      · exact q.elim⟩
end
end DL
set_option Elab.async false
set_option linter.all false
set_option maxRecDepth 100000
set_option maxHeartbeats 1000000
namespace DL
open PySem PySem.Spec L2
open PyProof.Rows hiding St
section
variable {K : PySem.W.Frag} {C : Zn} {F F' : Addr → Prop} {H H' : Hp}
theorem Reps.set : ∀ {vs : List V} {es : List DV} {as : List Addr} (j : Nat) {v : V} {dv : DV} {bs : List Addr}, Reps K C F H vs es as → Rep K C F H v dv bs → j < es.length → ∃ as', Reps K C F H (vs.set j v) (es.set j dv) as' ∧ ∃ cs, as'.Perm (bs ++ cs) ∧ cs.Sublist as
  | _, _, _, _, _, _, _, .nil, _, h => absurd h (Nat.not_lt_zero _)
  | _, _, _, 0, v, dv, bs, .cons q t, r, _ => ⟨_, .cons r t, _, .refl _, List.sublist_append_right _ _⟩
  | _, _, _, i + 1, v, dv, bs, .cons (as := as) q t, r, h => by
    obtain ⟨as', e, cs, p, s⟩ := Reps.set i t r (by simpa using h)
    refine ⟨_, .cons q e, as ++ cs, ?_, s.append_left _⟩
    refine (List.Perm.append_left as p).trans ?_
    rw [← List.append_assoc, ← List.append_assoc]
    exact List.Perm.append_right cs List.perm_append_comm
theorem Reps.erase : ∀ {vs : List V} {es : List DV} {as : List Addr} (j : Nat), Reps K C F H vs es as → ∃ as', Reps K C F H (vs.eraseIdx j) (es.eraseIdx j) as' ∧ as'.Sublist as
  | _, _, _, _, .nil => ⟨[], .nil, .refl _⟩
  | _, _, _, 0, .cons q t => ⟨_, t, List.sublist_append_right _ _⟩
  | _, _, _, i + 1, .cons q t => by
    obtain ⟨as', e, s⟩ := Reps.erase i t
    exact ⟨_, .cons q e, s.append_left _⟩
theorem Reps.get : ∀ {vs : List V} {es : List DV} {as : List Addr} {j : Nat} {dv : DV}, Reps K C F H vs es as → es[j]? = some dv → ∃ v bs, vs[j]? = some v ∧ Rep K C F H v dv bs ∧ bs.Sublist as
  | _, _, _, _, _, .nil, e => by cases e
  | _, _, _, 0, _, .cons q t, e => by cases e; exact ⟨_, _, rfl, q, List.sublist_append_left _ _⟩
  | _, _, _, i + 1, dv, .cons q t, e => by
    obtain ⟨v, bs, h1, h2, h3⟩ := Reps.get (j := i) (dv := dv) t (by simpa using e)
    exact ⟨v, bs, by simpa using h1, h2, h3.trans (List.sublist_append_right _ _)⟩
theorem Reps.lens : ∀ {vs : List V} {es : List DV} {as : List Addr} {j : Nat} {fs : List DV}, Reps K C F H vs es as → es[j]? = some (.own fs) → ∃ b ws cs as1 as2, vs[j]? = some (.ref b) ∧ H b = some (.lst ws) ∧ Reps K C F H ws fs cs ∧ as = as1 ++ (b :: cs) ++ as2 ∧
    ∀ (F' : Addr → Prop) (H' : Hp) (ws' : List V) (fs' : List DV) (cs' : List Addr), Keep F H F' H' → (∀ c ∈ as1 ++ as2, H' c = H c) → H' b = some (.lst ws') → Reps K C F' H' ws' fs' cs' → Reps K C F' H' vs (es.set j (.own fs')) (as1 ++ (b :: cs') ++ as2)
  | _, _, _, _, _, .nil, e => by cases e
  | _, _, _, 0, _, .cons q t, e => by
    cases e
    cases q with
    | @own b ws _ cs e1 r =>
      refine ⟨b, ws, cs, [], _, rfl, e1, r, rfl, fun F' H' ws' fs' cs' k s h r' => ?_⟩
      exact .cons (.own h r') (t.mono k fun a m => s a (by simpa using m))
  | _, _, _, i + 1, fs, .cons (as := as) q t, e => by
    obtain ⟨b, ws, cs, as1, as2, h1, h2, h3, h4, h5⟩ := Reps.lens (j := i) (fs := fs) t (by simpa using e)
    subst h4
    refine ⟨b, ws, cs, as ++ as1, as2, by simpa using h1, h2, h3, by simp, fun F' H' ws' fs' cs' k s h r' => ?_⟩
    have := Reps.cons (q.mono k fun a m => s a (by simp [m])) (h5 F' H' ws' fs' cs' k (fun c m => s c (by
      rcases List.mem_append.mp m with m | m <;> simp [m])) h r')
    simpa using this
end
section
variable {C : Zn} {F0 : Addr → Prop} {H0 : Hp} {X : Cx} {e : Expr} {te tx : DT} {pos : Pos}
/-- the last item; the item at k -/
def lastSh (es : List DV) (k : D → Prop) : Prop := match es[es.length - 1]? with
  | some (.sh d) => k d
  | _ => False
def atSh (es : List DV) (j : Nat) (k : D → Prop) : Prop := match es[j]? with
  | some (.sh d) => k d
  | _ => False
/-- x = y.pop() -/
def dPop (i j : Nat) : DS := fun D δ => onOwn δ j fun es => lastSh es fun d => i < δ.length ∧ D.nx ((δ.set j (some (.own es.dropLast))).set i (some (.sh d)))
theorem atSh_mono {es : List DV} {j : Nat} {k k' : D → Prop} (h : ∀ d, k d → k' d) (q : atSh es j k) : atSh es j k' := by
  unfold atSh at q ⊢
  split at q
  · exact h _ q
  · exact q
theorem At.drop1 {K : PySem.W.Frag} {F : Addr → Prop} {H : Hp} {σ : St} {δ : DE} (x : At K C F0 H0 σ δ F H) {i : Nat} {es : List DV} (e : δ[i]? = some (some (.own es))) {d : D} {k : Nat} (hk : es[k]? = some (.sh d)) : ∃ a vs v, σ[i]? = some (some (.ref a)) ∧ H a = some (.lst vs) ∧ vs.length = es.length ∧ vs[k]? = some v ∧ Dq K F H v d ∧
    (At K C F0 H0 σ (δ.set i (some (.own (es.eraseIdx k)))) F (upd H a (.lst (vs.eraseIdx k))) ∧ Keep F H F (upd H a (.lst (vs.eraseIdx k)))) := by
  obtain ⟨a, vs, bs, h1, h2, h3, nd, ta, tb, nf, nz, ob, put⟩ := x.lens1 (.refl x.bs) e
  obtain ⟨v, cs, g1, g2, _⟩ := h3.get hk
  obtain ⟨bs', r', s'⟩ := h3.erase k
  refine ⟨a, vs, v, h1, h2, h3.length, g1, by cases g2 with | sh g2 => exact g2, put _ _ bs' r' (List.nodup_cons.mpr ⟨fun m => (List.nodup_cons.mp nd).1 (s'.subset m), (List.nodup_cons.mp nd).2.sublist s'⟩) fun b m => .inl (s'.subset m)⟩
/-- x.append(y.pop(e)) -/
def dAppPop (i j : Nat) (te : DT) : DS := fun D δ => onOwn δ i fun fs => fs.length < sizeLine ∧ onOwn δ j fun es => te δ fun r => onI r fun n => (-(2 ^ 63) ≤ n ∧ n < 2 ^ 63) ∧ match seqIndex? n es.length with
  | some k => atSh es k fun d => D.nx ((δ.set j (some (.own (es.eraseIdx k)))).set i (some (.own (fs ++ [.sh d]))))
  | none => False
/-- x[k] = e -/
def dSetIx (i : Nat) (tx te : DT) : DS := fun D δ => te δ fun r => match r.fx with
  | some dv => onOwn δ i fun es => tx δ fun y => onI y fun n => match ixN es.length n with
    | some j => D.nx (δ.set i (some (.own (es.set j dv))))
    | none => False
  | none => False
theorem s_setIx (i : Nat) {x : Str} {p pp : Pos} {ix : Expr} (hN : X.N[i]? = some x) (hv : Vis X.env.scope x) (hx : PD C X ix tx) (he : PD C X e te) (hd : (x == ("__debug__" : Str)) = false := by decide) (hcd : (x == ("__classdict__" : Str)) = false := by decide)
    (ha : ∀ v, assign (.Subscript (.Name x p) ix pp) X.env v = (do
      let ov ← holding [v] (eval (.Name x p) X.env)
      let iv ← holding [v, ov] (eval ix X.env)
      standAt pp
      holding [v, ov, iv] (setItem ov iv v)
      release [v, ov, iv] []) := by intro _; rfl)
    (hs : swapsWithSole [.Subscript (.Name x p) ix pp] e pos.line X.env = pure false := by rfl) (hw : swappedStores [.Subscript (.Name x p) ix pp] e X.env = pure none := by rfl)
    (h1 : (assignEach [.Subscript (.Name x p) ix pp] X.env).map (·.2) = [assign (.Subscript (.Name x p) ix pp) X.env] := by rfl) :
    PSD C F0 H0 X (.Assign [.Subscript (.Name x p) ix pp] e pos) (dSetIx i tx te) :=
  ⟨fun D D' δ l q => he.mono δ _ _ (fun r q => by
    cases e : r.fx with
    | none => rw [e] at q; exact q
    | some dv =>
      rw [e] at q
      refine onOwn_mono (fun es q => hx.mono δ _ _ (fun y q => onI_mono (fun n q => ?_) q) q) q
      split at q
      · exact l.nx _ q
      · exact q) q,
   (ps_asg he.run (pg_sub (pe_var hN hv hd hcd) hx.run set_list ha) hs hw h1).imp fun D σ H q => by
    obtain ⟨δ, F, x, q⟩ := q
    refine ⟨δ, F, x.at0, he.mono δ _ _ (fun r q F1 H1 v g rr => ?_) q⟩
    split at q
    · rename_i dv ed
      obtain ⟨es, e1, q⟩ := onOwn_to q
      obtain ⟨a, vs, bs, z1, _⟩ := x.lens1 (.refl x.bs) e1
      refine ⟨.ref a, z1, δ, F1, (x.go g).at0, hx.mono δ _ _ (fun y q F2 H2 w g' rr' => ?_) q⟩
      obtain ⟨n, rfl, q⟩ := onI_to rr' q
      split at q
      · rename_i j hj
        have gg := g.trans x.bs g'
        have rv := (RR.go g.ok (fun a n => x.bs.nzn n) g' rr).fx g'.ok ed
        obtain ⟨a', vs', bs', h1', h2', h3', nd, ta, tb, nf, nz, ob, put⟩ := x.lens1 gg e1
        rw [z1] at h1'
        cases h1'
        obtain ⟨cs, q1, q2, q3⟩ := rv
        have jl := (ixN_seq hj).2.1
        obtain ⟨as2, r2, ks, pm, sb⟩ := Reps.set j h3' q1 jl
        have apart : ∀ c ∈ cs, c ∉ a :: bs' := fun c m m' => by
          rcases List.mem_cons.mp m' with rfl | m'
          · obtain ⟨u, w⟩ := ta
            rw [(q3 c m).2] at w; cases w
          · obtain ⟨u, w⟩ := tb c m'
            rw [(q3 c m).2] at w; cases w
        obtain ⟨x2, k2⟩ := put _ _ as2 r2 (List.nodup_cons.mpr ⟨fun m => by
          rcases List.mem_append.mp (pm.mem_iff.mp m) with m | m
          · exact apart a m List.mem_cons_self
          · exact (List.nodup_cons.mp nd).1 (sb.subset m), (pm.nodup_iff).mpr (List.nodup_append.mpr ⟨q2, (List.nodup_cons.mp nd).2.sublist sb, fun c m c' m' w => apart c m (List.mem_cons_of_mem _ (w ▸ sb.subset m'))⟩)⟩) (fun b m => by
          rcases List.mem_append.mp (pm.mem_iff.mp m) with m | m
          · exact .inr ⟨(q3 b m).2, (q3 b m).1⟩
          · exact .inl (sb.subset m))
        exact ⟨a, vs', n, j, rfl, rfl, h2', by rw [h3'.length]; exact hj, q σ F2 _ x2 k2⟩
      · exact q.elim
    · exact q.elim⟩
/-- x[k][m] = e, the lists x[..] x's own -/
def dSetIx2 (i : Nat) (tk tm te : DT) : DS := fun D δ => te δ fun r => match r.fx with
  | some dv => onOwn δ i fun es => tk δ fun y => onI y fun n => match atI es n, ixN es.length n with
    | some (.own fs), some j => tm δ fun z => onI z fun m => (match ixN fs.length m with
      | some l => D.nx (δ.set i (some (.own (es.set j (.own (fs.set l dv))))))
      | none => False)
    | _, _ => False
  | none => False
theorem s_setIx2 (i : Nat) {x : Str} {p pp p2 : Pos} {ik im : Expr} {tk tm : DT} (hN : X.N[i]? = some x) (hv : Vis X.env.scope x) (hk : PD C X ik tk) (hm : PD C X im tm) (he : PD C X e te) (hpl : PlainIx ik) (hd : (x == ("__debug__" : Str)) = false := by decide) (hcd : (x == ("__classdict__" : Str)) = false := by decide)
    (ha : ∀ v, assign (.Subscript (.Subscript (.Name x p) ik p2) im pp) X.env v = (do
      let ov ← holding [v] (eval (.Subscript (.Name x p) ik p2) X.env)
      let iv ← holding [v, ov] (eval im X.env)
      standAt pp
      holding [v, ov, iv] (setItem ov iv v)
      release [v, ov, iv] []) := by intro _; rfl)
    (hs : swapsWithSole [.Subscript (.Subscript (.Name x p) ik p2) im pp] e pos.line X.env = pure false := by rfl) (hw : swappedStores [.Subscript (.Subscript (.Name x p) ik p2) im pp] e X.env = pure none := by rfl)
    (h1 : (assignEach [.Subscript (.Subscript (.Name x p) ik p2) im pp] X.env).map (·.2) = [assign (.Subscript (.Subscript (.Name x p) ik p2) im pp) X.env] := by rfl) :
    PSD C F0 H0 X (.Assign [.Subscript (.Subscript (.Name x p) ik p2) im pp] e pos) (dSetIx2 i tk tm te) :=
  ⟨fun D D' δ l q => he.mono δ _ _ (fun r q => by
    cases e : r.fx with
    | none => rw [e] at q; exact q
    | some dv =>
      rw [e] at q
      refine onOwn_mono (fun es q => hk.mono δ _ _ (fun y q => onI_mono (fun n q => ?_) q) q) q
      split at q
      · refine hm.mono δ _ _ (fun z q => onI_mono (fun m q => ?_) q) q
        split at q
        · exact l.nx _ q
        · exact q
      · exact q) q,
   (ps_asg he.run (pg_sub (pe_ix ix_list (pe_var hN hv hd hcd) hk.run hpl) hm.run set_list ha) hs hw h1).imp fun D σ H q => by
    obtain ⟨δ, F, x, q⟩ := q
    refine ⟨δ, F, x.at0, he.mono δ _ _ (fun r q F1 H1 v g rr => ?_) q⟩
    split at q
    · rename_i dv ed
      obtain ⟨es, e1, q⟩ := onOwn_to q
      obtain ⟨a, vs, bs, z1, _⟩ := x.lens1 (.refl x.bs) e1
      refine ⟨.ref a, z1, δ, F1, (x.go g).at0, hk.mono δ _ _ (fun y q F2 H2 w g' rr' => ?_) q⟩
      obtain ⟨n, rfl, q⟩ := onI_to rr' q
      split at q
      · rename_i fs j ef hj
        have gg := g.trans x.bs g'
        have x2 := x.go gg
        obtain ⟨a', vs', bs', h1', h2', h3', _⟩ := x2.lens1 (.refl x2.bs) e1
        rw [z1] at h1'
        cases h1'
        have jl := (ixN_seq hj).2.1
        have ej : es[j]? = some (.own fs) := by
          unfold atI at ef
          rw [hj] at ef
          exact ef
        obtain ⟨b, ws, cs, as1, as2, w1, w2, w3, w4, _⟩ := h3'.lens ej
        refine ⟨a, vs', n, .ref b, rfl, rfl, SqL.of h2', by unfold atI; rw [h3'.length, hj]; exact w1, δ, F2, x2.at0, hm.mono δ _ _ (fun z q F3 H3 w g3 rr3 => ?_) q⟩
        obtain ⟨m, rfl, q⟩ := onI_to rr3 q
        split at q
        · rename_i l hl
          have g4 := gg.trans x.bs g3
          have rv := (RR.go g'.ok (fun a n => x.bs.nzn n) g3 (RR.go g.ok (fun a n => x.bs.nzn n) g' rr)).fx g3.ok ed
          obtain ⟨a', vs3, bs3, h13, h23, h33, nd, ta, tb, nf, nz, ob, put⟩ := x.lens g4 e1
          rw [z1] at h13
          cases h13
          obtain ⟨b3, ws3, cs3, as13, as23, v1, v2, v3, v4, v5⟩ := h33.lens ej
          have hbb : b3 = b := by
            have : H3 a = some (.lst vs') := g3.same a _ h2' nz
            rw [h23] at this
            cases this
            rw [v1] at w1
            cases w1; rfl
          subst hbb
          obtain ⟨ds, q1, q2, q3⟩ := rv
          obtain ⟨es2, r2, ks, pm, sb⟩ := Reps.set l v3 q1 (ixN_seq hl).2.1
          have mb : ∀ c ∈ b3 :: cs3, c ∈ bs3 := fun c m => by rw [v4]; exact List.mem_append_left _ (List.mem_append_right _ m)
          have nbF : ¬ F3 b3 ∧ ¬ C.Z b3 := ob b3 (mb b3 List.mem_cons_self)
          have kp : Keep F3 H3 F3 (upd H3 b3 (.lst (ws3.set l v))) := .put (by rw [v2]; trivial) nbF.1
          have apart : ∀ c ∈ ds, c ∉ a :: bs3 := fun c m m' => by
            rcases List.mem_cons.mp m' with rfl | m'
            · obtain ⟨u, w⟩ := ta
              rw [(q3 c m).2] at w; cases w
            · obtain ⟨u, w⟩ := tb c m'
              rw [(q3 c m).2] at w; cases w
          have ndb := (List.nodup_cons.mp nd).2
          have ndb' : (as13 ++ (b3 :: cs3) ++ as23).Nodup := v4 ▸ ndb
          have off : ∀ c ∈ as13 ++ as23, c ≠ b3 := fun c m z => by
            subst z
            rcases List.mem_append.mp m with m | m
            · exact (List.nodup_append.mp (List.nodup_append.mp ndb').1).2.2 c m c List.mem_cons_self rfl
            · exact (List.nodup_append.mp ndb').2.2 c (List.mem_append_right _ List.mem_cons_self) c m rfl
          have ndm := (List.nodup_append.mp (List.nodup_append.mp ndb').1).2.1
          have nes2 : b3 ∉ es2 := fun m => by
            rcases List.mem_append.mp (pm.mem_iff.mp m) with m | m
            · exact apart b3 m (List.mem_cons_of_mem _ (mb b3 List.mem_cons_self))
            · exact (List.nodup_cons.mp ndm).1 (sb.subset m)
          have r3 := r2.mono kp fun c m => upd_ne fun z => nes2 (z ▸ m)
          have R := v5 F3 _ _ _ _ kp (fun c m => upd_ne (off c m)) upd_same r3
          have nab : a ≠ b3 := fun z => (List.nodup_cons.mp nd).1 (z ▸ mb b3 List.mem_cons_self)
          have es2old : ∀ c ∈ es2, c ∈ bs3 ∨ c ∈ ds := fun c m => by
            rcases List.mem_append.mp (pm.mem_iff.mp m) with m | m
            · exact .inr m
            · exact .inl (mb c (List.mem_cons_of_mem _ (sb.subset m)))
          have n13 : (as13 ++ as23).Nodup := List.nodup_append.mpr ⟨(List.nodup_append.mp (List.nodup_append.mp ndb').1).1, (List.nodup_append.mp ndb').2.1, fun c m c' m' z => (List.nodup_append.mp ndb').2.2 c (List.mem_append_left _ m) c' m' z⟩
          have ndes2 : (b3 :: es2).Nodup := List.nodup_cons.mpr ⟨nes2, (pm.nodup_iff).mpr (List.nodup_append.mpr ⟨q2, (List.nodup_cons.mp ndm).2.sublist sb, fun c m c' m' z => apart c m (List.mem_cons_of_mem _ (mb c (List.mem_cons_of_mem _ (sb.subset (z ▸ m')))))⟩)⟩
          have offes : ∀ c ∈ as13 ++ as23, c ∉ b3 :: es2 := fun c m m' => by
            rcases List.mem_cons.mp m' with z | m'
            · exact off c m z
            · rcases List.mem_append.mp (pm.mem_iff.mp m') with m' | m'
              · refine apart c m' (List.mem_cons_of_mem _ ?_)
                rw [v4]
                rcases List.mem_append.mp m with m | m <;> simp [m]
              · have m2 := sb.subset m'
                rcases List.mem_append.mp m with m | m
                · exact (List.nodup_append.mp (List.nodup_append.mp ndb').1).2.2 c m c (List.mem_cons_of_mem _ m2) rfl
                · exact (List.nodup_append.mp ndb').2.2 c (List.mem_append_right _ (List.mem_cons_of_mem _ m2)) c m rfl
          have ndall : (as13 ++ (b3 :: es2) ++ as23).Nodup := by
            refine List.nodup_append.mpr ⟨List.nodup_append.mpr ⟨(List.nodup_append.mp n13).1, ndes2, fun c m c' m' z => offes c (List.mem_append_left _ m) (z ▸ m')⟩, (List.nodup_append.mp n13).2.1, fun c m c' m' z => ?_⟩
            rcases List.mem_append.mp m with m | m
            · exact (List.nodup_append.mp n13).2.2 c m c' m' z
            · exact offes c' (List.mem_append_right _ m') (z ▸ m)
          have x3 := put vs3 _ _ (upd H3 b3 (.lst (ws3.set l v))) (fun c m => upd_ne fun z => m (List.mem_cons_of_mem _ (z ▸ mb b3 List.mem_cons_self))) (g3.ok.put nbF.2) kp (by rw [upd_ne nab]; exact h23) R (List.nodup_cons.mpr ⟨fun m => by
            rcases List.mem_append.mp m with m | m
            · rcases List.mem_append.mp m with m | m
              · exact (List.nodup_cons.mp nd).1 (by rw [v4]; simp [m])
              · rcases List.mem_cons.mp m with z | m
                · exact nab z
                · rcases es2old a m with m | m
                  · exact (List.nodup_cons.mp nd).1 m
                  · exact apart a m List.mem_cons_self
            · exact (List.nodup_cons.mp nd).1 (by rw [v4]; simp [m]), ndall⟩) (fun c m => by
            rcases List.mem_append.mp m with m | m
            · rcases List.mem_append.mp m with m | m
              · exact .inl (by rw [v4]; simp [m])
              · rcases List.mem_cons.mp m with z | m
                · exact .inl (z ▸ mb b3 List.mem_cons_self)
                · rcases es2old c m with m | m
                  · exact .inl m
                  · exact .inr ⟨(q3 c m).2, (q3 c m).1⟩
            · exact .inl (by rw [v4]; simp [m]))
          exact ⟨b3, ws3, m, l, rfl, rfl, v2, by rw [v3.length]; exact hl, q σ F3 _ x3 ((g4.keep x.bs).trans kp)⟩
        · exact q.elim
      · exact q.elim
    · exact q.elim⟩
end
end DL
set_option Elab.async false
set_option linter.all false
set_option maxRecDepth 100000
set_option maxHeartbeats 1000000
namespace DL
open PySem PySem.Spec L2
open PyProof.Rows hiding St
/-! ### a def that is called where no guard runs -/
structure FnG (P : Program) (w : World) (K : PySem.W.Frag) (mg : Str → Option Value) (base : Heap) (CX : CXT) (k : Nat) (f : Addr) (fd : FuncData) (ps : List Str) (sp : Sp) : Prop where
  len : ∀ vs H Q E, sp vs H Q E → vs.length = ps.length
  run : ∀ (A : Around) (fr : List Env) (s : Shared) (H : Hp) (args : Args) (us : List Value) (vs : List V) (Q : VK) (E : XK), A.guards = some [] → Room k A →
    Env0 P w K mg base A fr s H → BindsTo s fd args (ps.zip us) → Vals vs us → sp vs H Q E → codeAny (model P w) A (.call (.ref f) args) (CR CX fr P w H s Q E) s
section
variable {P : Program} {w : World} {K : PySem.W.Frag} {mg : Str → Option Value} {base : Heap} {CX : CXT} {k j : Nat} {f : Addr} {fd : FuncData} {ps : List Str} {sp sp' : Sp}
theorem FnG.mono (h : FnG P w K mg base CX j f fd ps sp) (l : j ≤ k) : FnG P w K mg base CX k f fd ps sp :=
  ⟨h.len, fun A fr s H args us vs Q E hg hr => h.run A fr s H args us vs Q E hg (hr.mono l)⟩
theorem FnG.imp (h : FnG P w K mg base CX k f fd ps sp) (i : ∀ vs H Q E, sp' vs H Q E → sp vs H Q E) : FnG P w K mg base CX k f fd ps sp' :=
  ⟨fun vs H Q E q => h.len vs H Q E (i _ _ _ _ q), fun A fr s H args us vs Q E hg hr e0 hb rv q => h.run A fr s H args us vs Q E hg hr e0 hb rv (i _ _ _ _ q)⟩
theorem FnG.of (h : FnOk P w K mg base CX k f fd ps sp) : FnG P w K mg base CX k f fd ps sp :=
  ⟨h.len, fun A fr s H args us vs Q E _ hr => h.run A fr s H args us vs Q E hr⟩
/-- the body, run where no guard runs -/
theorem fnG_of {x qual : Str} {st : Stmt} {N : List Str} (F : Fun K x qual st f fd) (S : FnScope N ps (defScope st)) (len : ∀ vs H Q E, sp vs H Q E → vs.length = ps.length)
    (body : ∀ (cdv : Value) (A : Around) (fr : List Env) (s : Shared) (H : Hp) (vs : List V) (Q : VK) (E : XK), (A.deeper (envOfC qual (defScope st) s.heap.objs.size f cdv)).guards = some [] → Room k (A.deeper (envOfC qual (defScope st) s.heap.objs.size f cdv)) → sp vs H Q E →
      ∃ t, PSs (cxOf CX P w K mg base N qual (defScope st) f cdv A fr s H E) (defBody st) t ∧ t { nx := fun _ H' => Q .non H', rt := Q } (L2.start N vs) H) : FnG P w K mg base CX (k + 1) f fd ps sp := by
  obtain ⟨oc, od, kV, doc, pm, an, cdv, ct, osl, rfl, lk, hcd⟩ := F.ex
  refine ⟨len, fun A fr s H args us vs Q E hg hr e0 hb rv q => ?_⟩
  have inK : K.In s.heap := e0.mod.kin.keeps fun c o z => (e0.bs c o z).1
  have nol : s.heap.NoLimit := e0.mod.nolimit.keeps fun c o z => (e0.bs c o z).1
  refine codeAny_call_function hr.depth (inK _ _ lk) rfl S.co S.gen rfl (PySem.W.codeRec_of inK hcd) (hb _ _ _ _ ?_)
  refine wpAny_newFunctionEnv_cells S.kind (fun y my => ?_) fun env ee s1 y => ?_
  · obtain ⟨n, u⟩ := y
    rcases S.par n (List.of_mem_zip my).1 with z | z
    · exact .inl z
    · exact .inr ⟨z, PySem.W.cellsFrom_some _ _ _ (.inl z)⟩
  · subst ee
    refine ⟨nol.keeps y.toInCall.keep, codeAny_func ?_⟩
    obtain ⟨t, pt, tq⟩ := body cdv A fr s H vs Q E hg (hr.deeper _) q
    have I0 := inv_start (CX := CX) (P := P) (w := w) (mg := mg) (base := base) (N := N) (E := E) S hr.hd e0 (len _ _ _ _ q) rv y
    refine wpAny_mono (pt.run [] s1 _ H _ I0 tq) (fun fl s2 back => ?_) fun _ _ z => z
    cases fl with
    | next =>
      obtain ⟨σ2, H2, J2, z⟩ := back
      exact ⟨V.non, H2, J2.os, J2.bare, J2.base, J2.hok, rfl, z⟩
    | ret u =>
      obtain ⟨v2, σ2, H2, J2, r2, z⟩ := back
      exact ⟨v2, H2, J2.os, J2.bare, J2.base, J2.hok, r2, z⟩
    | brk =>
      obtain ⟨_, _, _, z⟩ := back
      exact z.elim
    | cont =>
      obtain ⟨_, _, _, z⟩ := back
      exact z.elim
end
/-! ### calls, by values -/
section
variable {X : Cx} {CX : CXT} {k : Nat} {f : Addr} {fd : FuncData} {ps ks : List Str} {sp : Sp} {dvs : List V} {ds : List Value} {E : XK} {x : Str} {p pos : Pos} {e : Expr} {es : List Expr} {kws : List Keyword} {t tk : TA} {g : List Value → List Value → List Value} {gV : List V → List V → List V}
theorem goG {pins : List (Addr × Obj)} {σ : St} {H : Hp} {s : Shared} {Q : VK} {us ws : List Value} {vs zs : List V} (F : FnG X.prog X.w X.K X.mg X.base CX k f fd ps sp) (hg : X.A.guards = some []) (hr : Room k X.A) (hb : KBinds X.K fd ps ks g gV) (hx : Passes CX X E)
    (I : Inv X pins σ H s) (r : Vals vs us) (rz : Vals zs ws) (h : sp (gV vs zs) H Q E) : wpAny (model X.prog X.w) X.A (call (.ref f) us (ks.zip ws)) (EP X pins σ Q) X.xe s := by
  have rr := hb.rel r rz
  have hl : (g us ws).length = ps.length := rr.length.symm.trans (F.len _ _ _ _ h)
  refine wpAny_call (codeAny_mono (F.run X.A X.stack s H ⟨us, ks.zip ws⟩ (g us ws) (gV vs zs) Q E hg hr I.env0 (hb.to s us ws I.kIn hl) rr h) fun res s2 back => ?_)
  match res, back with
  | .error e, back => exact hx pins σ H s e s2 I back
  | .ok (.ret u), back => exact I.after back
theorem pe_callG (F : FnG X.prog X.w X.K X.mg X.base CX k f fd ps sp) (gu : X.A.guards = some []) (hr : Room k X.A) (hm : X.mg x = some (.ref f)) (hk : PySem.W.keepIn X.K (.ref f) = true) (hb : KBinds X.K fd ps [] g gV) (hx : Passes CX X E)
    (ha : PA X (e :: es) t) (hg : Gl X x := by rfl) (hdb : (x == ("__debug__" : Str)) = false := by decide) (he : starEach (e :: es) X.env = (false, eval e X.env) :: starEach es X.env := by rfl) (hpl : (backTo pos (starEach es X.env)).any (·.1) = false := by rfl) :
    PE X (.Call (.Name x p) (e :: es) [] pos) (tCallK sp gV E t tNil) := by
  refine ⟨fun pins s σ H Q I h => wpAny_Call_Name_kw (ld_glob I hg hm ?_ hdb)⟩
  refine PySem.W.callWith_K (h₀ := X.base) I.ok.mod.kin hk (thn (ha.run pos pins s σ H _ I h) fun us s1 ⟨vs, H1, J1, r, q⟩ => ⟨J1.kIn, ?_⟩) he hpl
  exact goG (ks := []) (ws := []) F gu hr hb hx J1 r .nil q
theorem pe_callK0G (F : FnG X.prog X.w X.K X.mg X.base CX k f fd ps sp) (gu : X.A.guards = some []) (hr : Room k X.A) (hm : X.mg x = some (.ref f)) (hk : PySem.W.keepIn X.K (.ref f) = true) (hb : KBinds X.K fd ps ks g gV) (hx : Passes CX X E)
    (hkw : L2.PK X kws tk) (hg : Gl X x := by rfl) (hall : (backToKw pos (keywordEach kws X.env)).all (·.1.isSome) = true := by rfl) (hks : (backToKw pos (keywordEach kws X.env)).filterMap (·.1) = ks := by rfl)
    (hdb : (x == ("__debug__" : Str)) = false := by decide)
    (hpl : ((backTo pos (starEach [] X.env)).any (·.1) || (backToKw pos (keywordEach kws X.env)).any (·.1.isNone)) = false := by rfl) :
    PE X (.Call (.Name x p) [] kws pos) (tCallK sp gV E tNil tk) := by
  refine ⟨fun pins s σ H Q I h => wpAny_Call_Name_kw (ld_glob I hg hm ?_ hdb)⟩
  refine PySem.W.callWith_KW0 (h₀ := X.base) I.ok.mod.kin hk hall (thn (hkw.run pos pins s σ H _ I h) fun ws s1 ⟨zs, H1, J1, rz, q⟩ => ⟨J1.kIn, ?_⟩) hpl
  rw [hks]
  exact goG (us := []) F gu hr hb hx J1 .nil rz q
end
/-! ### a def's promise by data -/
abbrev Sg := List DV → (DV → Prop) → Prop
/-- no exception: g of the arguments comes to the wanted -/
def spD (C : Zn) (K : PySem.W.Frag) (g : Sg) : Sp := fun vs H Q _ => ∃ F ds, Bs C F H ∧ Reps K C F H vs ds [] ∧ g ds fun dv => ∀ F' H' v, Go C F H F' H' → RR K C F' H H' v (.val dv) → Q v H'
def MonoG (g : Sg) : Prop := ∀ ds Q Q', (∀ d, Q d → Q' d) → g ds Q → g ds Q'
def startD (N : List Str) (ds : List DV) : DE := ds.map some ++ List.replicate (N.length - ds.length) none
theorem Envs.start {K : PySem.W.Frag} {C : Zn} {F : Addr → Prop} {H : Hp} {n : Nat} : ∀ {vs : List V} {ds : List DV} {as : List Addr}, Reps K C F H vs ds as → Envs K C F H (vs.map some ++ List.replicate n none) (ds.map some ++ List.replicate n none) as
  | _, _, _, .nil => by
    have : ∀ n : Nat, Envs K C F H (List.replicate n none) (List.replicate n none) [] := fun n => by
      induction n with
      | zero => exact .nil
      | succ n ih => rw [List.replicate_succ, List.replicate_succ]; exact .off ih
    exact this n
  | _, _, _, .cons r t => .on r (Envs.start t)
section
variable {P : Program} {w : World} {K : PySem.W.Frag} {mg : Str → Option Value} {base : Heap} {k : Nat} {f : Addr} {fd : FuncData} {ps N : List Str} {C : Zn} {g : Sg}
/-- THE RULE for a def -/
theorem fnD_ok {x qual : Str} {st : Stmt} (F : Fun K x qual st f fd) (S : FnScope N ps (defScope st)) (len : ∀ ds Q, g ds Q → ds.length = ps.length)
    (body : ∀ (cdv : Value) (A : Around) (fr : List Env) (s : Shared) (H : Hp) (E : XK) (F0 : Addr → Prop), (A.deeper (envOfC qual (defScope st) s.heap.objs.size f cdv)).guards = some [] → Room k (A.deeper (envOfC qual (defScope st) s.heap.objs.size f cdv)) →
      ∃ t, PSSD C F0 H (cxOf CX0 P w K mg base N qual (defScope st) f cdv A fr s H E).nox (defBody st) t ∧ ∀ ds Q, g ds Q → t { nx := fun _ => Q (.sh .none), rt := Q } (startD N ds)) : FnG P w K mg base CX0 (k + 1) f fd ps (spD C K g) := by
  refine fnG_of F S (fun vs H Q E h => ?_) fun cdv A fr s H vs Q E hg hr h => ?_
  · obtain ⟨F0, ds, b, r, q⟩ := h
    rw [r.length]; exact len _ _ q
  · obtain ⟨F0, ds, b, r, q⟩ := h
    obtain ⟨t, pt, tq⟩ := body cdv A fr s H E F0 hg hr
    refine ⟨_, pt.run.nox, ?_⟩
    have hl : vs.length = ds.length := r.length
    refine ⟨startD N ds, F0, ⟨b, .refl b, [], ?_, List.nodup_nil, fun _ m => by cases m⟩, ?_⟩
    · unfold L2.start startD
      rw [hl]
      exact Envs.start r
    · refine pt.mono.ap (tq ds _ q) ⟨fun δ q σ' F' H' x k => ?_, fun dv q v F' H' g rr => q F' H' v g rr, fun δ q => q.elim, fun δ q => q.elim⟩
      exact q F' H' .non x.2.1 (.sh .non)
end
section
variable {C : Zn} {X : Cx} {k : Nat} {f : Addr} {fd : FuncData} {ps ks : List Str} {x : Str} {p pos : Pos} {e : Expr} {es : List Expr} {kws : List Keyword} {g : Sg} {t tk : DL'} {gv : List Value → List Value → List Value} {gV : List V → List V → List V}
/-- a call of a def: the arguments given away -/
def dCall (g : Sg) (t : DL') : DT := fun δ Q => t δ fun rs => match arL rs with
  | some ds => g ds fun dv => Q (.val dv)
  | none => False
theorem mono_call (mg : MonoG g) (h : Mono t) : Mono (dCall g t) := fun δ Q Q' m q => h δ _ _ (fun rs q => by
  cases e : arL rs with
  | none => rw [e] at q; exact q
  | some ds => rw [e] at q; exact mg _ _ _ (fun d q => m _ q) q) q
theorem call_to {K : PySem.W.Frag} (m : Mono t) (m' : MonoG g) {σ : St} {H : Hp} {Q : VK} (h : lift C K (dCall g t) σ H Q) : liftL C K t σ H fun vs H1 => spD C K g vs H1 Q E0 := by
  obtain ⟨δ, F, x, h⟩ := h
  refine ⟨δ, F, x, m δ _ _ (fun rs q F1 H1 vs g1 rrs => ?_) h⟩
  split at q
  · rename_i ds e
    obtain ⟨F2, g2, _, _, ar⟩ := rrs.away x.bs g1
    refine ⟨F2, ds, g2.ok, ar ds e, m' _ _ _ (fun dv q F' H' v gg rr => q F' H' v (g2.trans x.bs gg) (rr.older x.bs g2)) q⟩
  · exact q.elim
theorem binds_k (hb : Binds X.K fd ps []) : KBinds X.K fd ps [] (fun us _ => us) (fun vs _ => vs) :=
  ⟨fun s us ws kin hl => by
    have := hb s us kin (by simpa using hl)
    simpa using this, fun r _ => r⟩
theorem d_call (F : FnG X.prog X.w X.K X.mg X.base CX0 k f fd ps (spD C X.K g)) (mg : MonoG g) (gu : X.A.guards = some []) (hr : Room k X.A) (hx : Passes CX0 X E0) (hm : X.mg x = some (.ref f)) (hk : PySem.W.keepIn X.K (.ref f) = true) (hb : Binds X.K fd ps [])
    (ha : PDL C X (e :: es) t) (hg : Gl X x := by rfl) (hdb : (x == ("__debug__" : Str)) = false := by decide) (he : starEach (e :: es) X.env = (false, eval e X.env) :: starEach es X.env := by rfl) (hpl : (backTo pos (starEach es X.env)).any (·.1) = false := by rfl) :
    PD C X (.Call (.Name x p) (e :: es) [] pos) (dCall g t) :=
  ⟨mono_call mg ha.mono, (pe_callG F gu hr hm hk (binds_k hb) hx ha.run hg hdb he hpl).imp fun σ H Q h => call_to ha.mono mg h⟩
/-- keywords: the values in the order in which they are written -/
structure PDK (C : Zn) (X : Cx) (kws : List Keyword) (t : DL') : Prop where
  mono : Mono t
  run : L2.PK X kws (liftL C X.K t)
theorem k_nil : PDK C X [] dNil := ⟨fun _ _ _ h q => h _ q, ⟨fun pos pins s σ H Q I h => pk_nil.run pos pins s σ H Q I (by
  obtain ⟨δ, F, x, h⟩ := h
  exact h F H [] (.refl x.bs) .nil)⟩⟩
theorem k_cons {te : DT} {nm : Option Str} {kp : Pos} (ha : PD C X e te) (hr : PDK C X kws t) : PDK C X (⟨nm, e, kp⟩ :: kws) (dCons te t) :=
  ⟨fun δ Q Q' m q => ha.mono δ _ _ (fun r q => hr.mono δ _ _ (fun rs q => m _ q) q) q,
    ⟨fun pos pins s σ H Q I h => (pk_cons ha.run hr.run).run pos pins s σ H Q I (by
      obtain ⟨δ, F, x, h⟩ := h
      refine ⟨δ, F, x, ha.mono δ _ _ (fun r q F1 H1 v g rr => ⟨δ, F1, x.go g, hr.mono δ _ _ (fun rs q F2 H2 vs g' rrs => ?_) q⟩) h⟩
      exact q F2 H2 _ (g.trans x.bs g') (RRs.cons x.bs g g' rr rrs))⟩⟩
/-- f(k = e, ..): perm puts the values in the parameters' order -/
def dCallK (g : Sg) (perm : List DV → List DV) (t : DL') : DT := fun δ Q => t δ fun rs => match arL rs with
  | some ds => g (perm ds) fun dv => Q (.val dv)
  | none => False
structure Perms (K : PySem.W.Frag) (fd : FuncData) (ps ks : List Str) (pv : List V → List V) (pu : List Value → List Value) (perm : List DV → List DV) : Prop where
  binds : KBinds K fd ps ks (fun us ws => if us.isEmpty then pu ws else []) (fun vs zs => if vs.isEmpty then pv zs else [])
  reps : ∀ (C : Zn) (F : Addr → Prop) (H : Hp) (vs : List V) (ds : List DV), Reps K C F H vs ds [] → Reps K C F H (pv vs) (perm ds) []
theorem d_callK0 {perm : List DV → List DV} {pv : List V → List V} {pu : List Value → List Value} (F : FnG X.prog X.w X.K X.mg X.base CX0 k f fd ps (spD C X.K g)) (mg : MonoG g) (gu : X.A.guards = some []) (hr : Room k X.A) (hx : Passes CX0 X E0) (hm : X.mg x = some (.ref f)) (hk : PySem.W.keepIn X.K (.ref f) = true) (hb : Perms X.K fd ps ks pv pu perm)
    (hkw : PDK C X kws t) (hg : Gl X x := by rfl) (hall : (backToKw pos (keywordEach kws X.env)).all (·.1.isSome) = true := by rfl) (hks : (backToKw pos (keywordEach kws X.env)).filterMap (·.1) = ks := by rfl)
    (hdb : (x == ("__debug__" : Str)) = false := by decide)
    (hpl : ((backTo pos (starEach [] X.env)).any (·.1) || (backToKw pos (keywordEach kws X.env)).any (·.1.isNone)) = false := by rfl) :
    PD C X (.Call (.Name x p) [] kws pos) (dCallK g perm t) :=
  ⟨fun δ Q Q' m q => hkw.mono δ _ _ (fun rs q => by
    cases e : arL rs with
    | none => rw [e] at q; exact q
    | some ds => rw [e] at q; exact mg _ _ _ (fun d q => m _ q) q) q, (pe_callK0G F gu hr hm hk hb.binds hx hkw.run hg hall hks hdb hpl).imp fun σ H Q h => by
    obtain ⟨δ, F, x, h⟩ := h
    refine ⟨δ, F, x, hkw.mono δ _ _ (fun rs q F1 H1 vs g1 rrs => ?_) h⟩
    split at q
    · rename_i ds e
      obtain ⟨F2, g2, _, _, ar⟩ := rrs.away x.bs g1
      exact ⟨F2, perm ds, g2.ok, hb.reps C F2 H1 vs ds (ar ds e), mg _ _ _ (fun dv q F' H' v gg rr => q F' H' v (g2.trans x.bs gg) (rr.older x.bs g2)) q⟩
    · exact q.elim⟩
end
/-! ### the law's end -/
theorem law_G {P : Program} {w : World} {K : PySem.W.Frag} {mg mb : Str → Option Value} {k : Nat} {fa a : Addr} {fd : FuncData} {x : Str} {sp : Sp} {s1 : Shared} {us : List Value} {ns : List Int}
    (inK : K.In s1.heap) (n1 : s1.heap.Ns mainGlobals mg) (n2 : s1.heap.Ns builtinsNs mb) (n3 : ∀ y : Str, y ≠ "__name__" → mb y = bootBuiltins y) (lim : s1.heap.NoLimit) (gn : s1.gens = #[])
    (ha : s1.heap.get? a = some { cls := .type "list", data := .seq us.toArray }) (hi : IntsAre us ns) (hz : ns.length ≤ sizeLine) (hr : Room k callerA)
    (F : ∀ base : Heap, K.In base → base.Ns mainGlobals mg → FnG P w K mg base CX0 k fa fd [x] sp) (hb : ∀ (s : Shared) (u : Value), BindsTo s fd ⟨[u], []⟩ [(x, u)])
    (hsp : ∀ H : Hp, Only H → SqL K H a (ns.map V.int) → sp [.ref a] H (fun v _ => v = .bl true) E0) :
    codeAny (model P w) callerA (.call (.ref fa) ⟨[.ref a], []⟩) (fun r s' => r = .ok (.ret (.bool true)) ∧ OldK s1.heap s'.heap ∧ s'.os = s1.os ∧ AllBare s'.gens) s1 := by
  have ru := vals_ints hi
  -- H: nothing is tracked but, at most, the script
  have main : ∀ H : Hp, Only H → SqL K H a (ns.map V.int) → HOk P w H s1.heap → (∀ c, H c ≠ none → c = a) → (H a ≠ none → K.lookup a = none) →
      codeAny (model P w) callerA (.call (.ref fa) ⟨[.ref a], []⟩) (fun r s' => r = .ok (.ret (.bool true)) ∧ OldK s1.heap s'.heap ∧ s'.os = s1.os ∧ AllBare s'.gens) s1 := by
    intro H only sq ok alone notK
    have dictFree : ∀ {c : Addr} {o : Obj} {es : Array DictEntry} {n : Nat}, s1.heap.get? c = some o → o.data = .dict es n → H c = none := fun {c o es n} g d => by
      cases z : H c with
      | none => rfl
      | some t =>
        obtain rfl := alone c (by rw [z]; simp)
        rw [ha] at g
        cases g
        cases (show Data.seq us.toArray _ = Data.dict es n from d)
    have names : ∀ {c : Addr} {m : Str → Option Value}, s1.heap.Ns c m → (hidT s1.heap H).Ns c m := fun {c m} n => by
      obtain ⟨o, es, ep, g, d, t⟩ := n
      exact ⟨o, es, ep, hidT_get g (dictFree g d), d, t⟩
    have kin : K.In (hidT s1.heap H) := fun c o g => hidT_get (inK c o g) (by
      cases z : H c with
      | none => rfl
      | some t =>
        have ca := alone c (by rw [z]; simp)
        subst ca
        rw [notK (by rw [z]; simp)] at g
        cases g)
    obtain ⟨ml, l1, l2⟩ := id lim
    have md : Mod K mg (hidT s1.heap H) := ⟨kin, names n1, ⟨mb, names n2, n3⟩, ⟨ml, names l1, l2⟩⟩
    have nofr : ∀ c : Addr, c ∉ frs ([] : List Env) := fun c z => absurd (show c ∈ ([] : List Addr) from z) (by simp)
    have e0 : Env0 P w K mg (hidT s1.heap H) callerA [] s1 H := ⟨rfl, md, fun c o g => of_hidT g, Nat.le_of_eq (hidT_size _ _), trivial, fun c z => absurd z (nofr c), ok, .of_eq gn⟩
    refine codeAny_mono ((F _ kin (names n1)).run callerA [] s1 H ⟨[.ref a], []⟩ [.ref a] [.ref a] (fun v _ => v = .bl true) E0 rfl hr e0 (hb s1 (.ref a)) (.cons rfl .nil) (hsp H only sq)) fun r s' back => ?_
    match r, back with
    | .error _, back => exact False.elim back
    | .ok (.ret u), back =>
      obtain ⟨v, H', os, bare, un, ok', rv, rfl⟩ := back
      have eu : u = Value.bool true := rv
      refine ⟨by rw [eu], .of_keep fun c o g => ?_, os, bare⟩
      cases z : H c with
      | none => exact un.keep c o g z (nofr c) (by simp)
      | some t =>
        rcases only c with q | ⟨ob, xs, q⟩
        · rw [z] at q; cases q
        · obtain ⟨p1, _⟩ := ok c _ q
          obtain ⟨p2, _⟩ := ok' c _ (un.frzs c ob _ q)
          rw [g] at p1
          cases p1
          exact p2
  by_cases hk : K.lookup a = none
  · refine main (fun c => if c = a then some (.frz { cls := .type "list", data := .seq us.toArray } (.lst (ns.map V.int))) else none) (fun c => ?_) (.inl (.inr ⟨_, if_pos rfl⟩)) (fun c t z => ?_) (fun c z => ?_) fun _ => hk
    · by_cases e : c = a
      · exact .inr ⟨_, _, if_pos e⟩
      · exact .inl (if_neg e)
    · by_cases e : c = a
      · subst e
        have z' := (if_pos rfl).symm.trans z
        cases z'
        exact ⟨ha, by rw [List.length_map]; exact hz, us, _, ru, ha⟩
      · have z' := (if_neg e).symm.trans z
        cases z'
    · by_cases e : c = a
      · exact e
      · exact absurd (if_neg e) z
  · obtain ⟨o, eo⟩ := Option.ne_none_iff_exists'.mp hk
    have g := inK a o eo
    rw [ha] at g
    cases g
    refine main (fun _ => none) (fun _ => .inl rfl) (.inr ⟨_, us.toArray, _, eo, rfl, rfl, rfl, by rw [List.size_toArray, hi.length]; exact hz, by simpa using ru⟩) (fun c t z => ?_) (fun c z => absurd rfl z) fun z => absurd rfl z
    have z' : (none : Option HO) = some t := z
    cases z'
theorem walk_G {l : PySem.W.OpenLaw} {n k : Nat} {q : Program} {loose : List Str} {XP : (Str → Option Value) → Heap → Prop} {YP : World → Heap → Prop} {d : DefRec} {K : Params → PySem.W.Frag} {sp : World → Sp} {x : Str}
    (hn : l.most = some n) (hn2 : n ≤ sizeLine) (hdf : d.params.defaults = []) (hr : Room k callerA) (hY : ∀ (w : World) (h : Heap), YP w h → (K w.params).In h)
    (F : ∀ (w : World) (mg : Str → Option Value) (fa : Addr) (h : Heap), (K w.params).In h → h.Ns mainGlobals mg → mg d.name = some (.ref fa) →
      ∃ fd : FuncData, (∀ (s : Shared) (u : Value), BindsTo s fd ⟨[u], []⟩ [(x, u)]) ∧ ∀ base : Heap, (K w.params).In base → base.Ns mainGlobals mg → FnG l.prog w (K w.params) mg base CX0 k fa fd [x] (sp w))
    (hsp : ∀ (w : World) (H : Hp) (a : Addr) (ns : List Int), ns.length ≤ n → Only H → SqL (K w.params) H a (ns.map V.int) → sp w [.ref a] H (fun v _ => v = .bl true) E0) :
    PySem.W.WalkO q loose XP YP l.row.toRowW d [] (fun f vs => PySem.call f vs) :=
  Att.attach_call hn hdf fun w s0 s1 mg mb fa o pm cd doc a vs ns G Y ho hd hcd hmg hobj hints hlen hgn => by
    have kx := hY w _ Y
    obtain ⟨fd, bd, ff⟩ := F w mg fa _ kx G.T.g hmg
    exact law_G kx G.T.g G.T.b G.T.builtins G.T.nolimit hgn hobj hints (Nat.le_trans hlen hn2) hr ff bd fun H h1 h2 => hsp w H a ns hlen h1 h2
end DL
set_option Elab.async false
set_option linter.all false
set_option maxRecDepth 100000
set_option maxHeartbeats 1000000
namespace DL
open PySem PySem.Spec L2
open PyProof.Rows hiding St
open PySem.W (alike dataLt dataLe AllAlike Sortable EachIs)
/-! ### from data to the library's reading -/
abbrev Any : Addr → Prop := fun _ => True
section
variable {X : Cx} {pins : List (Addr × Obj)} {σ : St} {H : Hp} {s : Shared} {G : Addr → Prop}
mutual
theorem Dq.reads (I : Inv X pins σ H s) : ∀ (d : D) (v : V) (u : Value), Dq X.K G H v d → RelV v u → ∃ as, Reads s.heap u d as
  | .none, _, _, h, r => by cases h; cases r; exact ⟨_, .none⟩
  | .bool b, _, _, h, r => by cases h; cases r; exact ⟨_, .bool b⟩
  | .int i, _, _, h, r => by
    cases h
    obtain ⟨t, rfl⟩ := r
    exact ⟨_, .int i t⟩
  | .str x, _, _, h, r => by
    cases h
    obtain ⟨t, rfl⟩ := r
    exact ⟨_, .str x t⟩
  | .list ds, _, _, h, r => by
    cases h with
    | lst h1 h2 =>
      cases r
      obtain ⟨its, rv, ⟨o, n, ho, hc, _, hd⟩, _⟩ := I.list h1.sq
      obtain ⟨as, q⟩ := DqAll.reads I ds _ its h2 rv
      exact ⟨_, .list ho hc hd q⟩
  | .tuple ds, _, _, h, r => by
    cases h with
    | tup h1 h2 =>
      cases r
      obtain ⟨its, rv, ⟨o, ho, hc, n, hd⟩, _⟩ := I.tuple h1
      obtain ⟨as, q⟩ := DqAll.reads I ds _ its h2 rv
      exact ⟨_, .tuple ho hc hd q⟩
  | .dict _, _, _, h, _ => by cases h
theorem DqAll.reads (I : Inv X pins σ H s) : ∀ (ds : List D) (vs : List V) (us : List Value), DqAll X.K G H vs ds → Vals vs us → ∃ as, ReadsAll s.heap us ds as
  | [], _, _, h, r => by cases h; cases r; exact ⟨_, .nil⟩
  | d :: ds, _, _, h, r => by
    cases h with
    | cons h1 h2 =>
      cases r with
      | cons r1 r2 =>
        obtain ⟨as, q1⟩ := Dq.reads I d _ _ h1 r1
        obtain ⟨bs, q2⟩ := DqAll.reads I ds _ _ h2 r2
        exact ⟨_, .cons q1 q2⟩
end
end
mutual
theorem Dq.plain {K : PySem.W.Frag} {G : Addr → Prop} {H : Hp} : ∀ (d : D) (v : V), Dq K G H v d → d.plain = true
  | .none, _, _ => by rw [PyData.plain]
  | .bool _, _, _ => by rw [PyData.plain]
  | .int _, _, _ => by rw [PyData.plain]
  | .str _, _, _ => by rw [PyData.plain]
  | .list ds, _, h => by
    cases h with
    | lst h1 h2 => rw [PyData.plain]; exact DqAll.plain ds _ h2
  | .tuple ds, _, h => by
    cases h with
    | tup h1 h2 => rw [PyData.plain]; exact DqAll.plain ds _ h2
  | .dict _, _, h => by cases h
theorem DqAll.plain {K : PySem.W.Frag} {G : Addr → Prop} {H : Hp} : ∀ (ds : List D) (vs : List V), DqAll K G H vs ds → PyData.plainAll ds = true
  | [], _, _ => by rw [PyData.plainAll]
  | d :: ds, _, h => by
    cases h with
    | cons h1 h2 => rw [PyData.plainAll, Dq.plain d _ h1, DqAll.plain ds _ h2]; rfl
end
mutual
theorem Dq.noDict {K : PySem.W.Frag} {G : Addr → Prop} {H : Hp} : ∀ (d : D) (v : V), Dq K G H v d → d.hasDict = false
  | .none, _, _ => by rw [PyData.hasDict]
  | .bool _, _, _ => by rw [PyData.hasDict]
  | .int _, _, _ => by rw [PyData.hasDict]
  | .str _, _, _ => by rw [PyData.hasDict]
  | .list ds, _, h => by
    cases h with
    | lst h1 h2 => rw [PyData.hasDict]; exact DqAll.noDict ds _ h2
  | .tuple ds, _, h => by
    cases h with
    | tup h1 h2 => rw [PyData.hasDict]; exact DqAll.noDict ds _ h2
  | .dict _, _, h => by cases h
theorem DqAll.noDict {K : PySem.W.Frag} {G : Addr → Prop} {H : Hp} : ∀ (ds : List D) (vs : List V), DqAll K G H vs ds → PyData.hasDictAll ds = false
  | [], _, _ => by rw [PyData.hasDictAll]
  | d :: ds, _, h => by
    cases h with
    | cons h1 h2 => rw [PyData.hasDictAll, Dq.noDict d _ h1, DqAll.noDict ds _ h2]; rfl
end
theorem Dq.anyG {K : PySem.W.Frag} {G : Addr → Prop} {H : Hp} {d : D} {v : V} (h : Dq K G H v d) : Dq K Any H v d := Dq.mono (.weak fun _ _ => trivial) d v h
/-! ### comparisons of data -/
/-- a relation of two data, under a side condition -/
def qRel (K : PySem.W.Frag) (side : D → D → Prop) (res : D → D → Bool) : R2 := fun x y H Q => ∃ d e, Dq K Any H x d ∧ Dq K Any H y e ∧ side d e ∧ Q (.bl (res d e)) H
def fRel (side : D → D → Prop) (res : D → D → Bool) : D → D → (R → Prop) → Prop := fun d e Q => side d e ∧ Q (.val (.sh (.bool (res d e))))
theorem lk_rel {C : Zn} {K : PySem.W.Frag} {side : D → D → Prop} {res : D → D → Bool} : Lk2 C K (qRel K side res) (fRel side res) :=
  ⟨fun d e Q Q' m q => ⟨q.1, m _ q.2⟩, fun F H v w d e Q Q' b h1 h2 q k => ⟨d, e, h1.anyG, h2.anyG, q.1, k _ _ F H (.refl b) (.sh (.bl _)) q.2⟩⟩
/-- shallow enough -/
def sDep (d e : D) : Prop := min d.depth e.depth ≤ 60
def sLt (d e : D) : Prop := alike d e = true ∧ d ≠ .none ∧ min d.depth e.depth ≤ 60
def rEqv (d e : D) : Bool := match d, e with
  | .int i, .int j => decide (i = j)
  | .str i, .str j => decide (i = j)
  | d, e => PyData.eqv d e
def rLtD (d e : D) : Bool := match d, e with
  | .int i, .int j => decide (i < j)
  | d, e => dataLt d e
def rLeD (d e : D) : Bool := match d, e with
  | .int i, .int j => decide (i ≤ j)
  | d, e => !dataLt e d
theorem rEqv_eq (d e : D) : rEqv d e = PyData.eqv d e := by
  unfold rEqv
  split
  · rw [PyData.eqv]; rw [Bool.eq_iff_iff]; simp
  · rw [PyData.eqv]; rw [Bool.eq_iff_iff]; simp
  · rfl
theorem rLtD_eq (d e : D) : rLtD d e = dataLt d e := by
  unfold rLtD
  split
  · rw [PySem.W.dataLt_int]
  · rfl
theorem rLeD_eq (d e : D) : rLeD d e = !dataLt e d := by
  unfold rLeD
  split
  · rw [PySem.W.dataLt_int, PySem.W.not_lt_int]
  · rfl
section
variable {X : Cx}
theorem op_eqQ (hu : X.A.units + 64 < cLine) : OpR X (compareOp .Eq) (qRel X.K sDep rEqv) := by
  intro pins s σ H x y v u Q I rx ry h
  obtain ⟨d, e, hd, he, sd, q⟩ := h
  obtain ⟨as, r1⟩ := Dq.reads I d x v hd rx
  obtain ⟨bs, r2⟩ := Dq.reads I e y u he ry
  exact PySem.SeqAt.eq_plain r1 r2 (Dq.plain _ _ hd) (Dq.plain _ _ he) (by unfold sDep at sd; omega) ⟨.bl _, H, I, by rw [rEqv_eq]; rfl, q⟩
theorem op_neQ (hu : X.A.units + 64 < cLine) : OpR X (compareOp .NotEq) (qRel X.K sDep fun d e => !rEqv d e) := by
  intro pins s σ H x y v u Q I rx ry h
  obtain ⟨d, e, hd, he, sd, q⟩ := h
  obtain ⟨as, r1⟩ := Dq.reads I d x v hd rx
  obtain ⟨bs, r2⟩ := Dq.reads I e y u he ry
  exact PySem.SeqAt.ne_plain r1 r2 (Dq.plain _ _ hd) (Dq.plain _ _ he) (by unfold sDep at sd; omega) ⟨.bl _, H, I, by show L2.RelV (V.bl (!rEqv d e)) _; rw [rEqv_eq]; rfl, q⟩
theorem op_ltQ (hu : X.A.units + 64 < cLine) : OpR X (compareOp .Lt) (qRel X.K sLt rLtD) := by
  intro pins s σ H x y v u Q I rx ry h
  obtain ⟨d, e, hd, he, ⟨s1, s2, s3⟩, q⟩ := h
  obtain ⟨as, r1⟩ := Dq.reads I d x v hd rx
  obtain ⟨bs, r2⟩ := Dq.reads I e y u he ry
  exact PySem.W.lt_data r1 r2 s1 s2 (by omega) ⟨.bl _, H, I, by rw [rLtD_eq]; rfl, q⟩
theorem op_gtQ (hu : X.A.units + 64 < cLine) : OpR X (compareOp .Gt) (qRel X.K sLt fun d e => rLtD e d) := by
  intro pins s σ H x y v u Q I rx ry h
  obtain ⟨d, e, hd, he, ⟨s1, s2, s3⟩, q⟩ := h
  obtain ⟨as, r1⟩ := Dq.reads I d x v hd rx
  obtain ⟨bs, r2⟩ := Dq.reads I e y u he ry
  exact PySem.W.gt_data r1 r2 s1 s2 (by omega) ⟨.bl _, H, I, by show L2.RelV (V.bl (rLtD e d)) _; rw [rLtD_eq]; rfl, q⟩
theorem op_leQ (hu : X.A.units + 64 < cLine) : OpR X (compareOp .LtE) (qRel X.K sLt rLeD) := by
  intro pins s σ H x y v u Q I rx ry h
  obtain ⟨d, e, hd, he, ⟨s1, s2, s3⟩, q⟩ := h
  obtain ⟨as, r1⟩ := Dq.reads I d x v hd rx
  obtain ⟨bs, r2⟩ := Dq.reads I e y u he ry
  exact PySem.W.le_data r1 r2 s1 s2 (by omega) ⟨.bl _, H, I, by rw [rLeD_eq]; rfl, q⟩
theorem op_geQ (hu : X.A.units + 64 < cLine) : OpR X (compareOp .GtE) (qRel X.K sLt fun d e => rLeD e d) := by
  intro pins s σ H x y v u Q I rx ry h
  obtain ⟨d, e, hd, he, ⟨s1, s2, s3⟩, q⟩ := h
  obtain ⟨as, r1⟩ := Dq.reads I d x v hd rx
  obtain ⟨bs, r2⟩ := Dq.reads I e y u he ry
  exact PySem.W.ge_data r1 r2 s1 s2 (by omega) ⟨.bl _, H, I, by show L2.RelV (V.bl (rLeD e d)) _; rw [rLeD_eq]; rfl, q⟩
/-- x in c -/
def sIn (d e : D) : Prop := match e with
  | .list ds => min (PyData.depthAll ds) d.depth ≤ 60
  | .tuple ds => min (PyData.depthAll ds) d.depth ≤ 60
  | _ => False
def rInD (d e : D) : Bool := match e with
  | .list ds => ds.any fun y => rEqv y d
  | .tuple ds => ds.any fun y => rEqv y d
  | _ => false
theorem any_eqv (ds : List D) (d : D) : (ds.any fun y => rEqv y d) = ds.any fun y => PyData.eqv y d := by
  congr 1
  funext y
  exact rEqv_eq y d
theorem op_inQ (hu : X.A.units + 64 < cLine) : OpR X (compareOp .In) (qRel X.K sIn rInD) := by
  intro pins s σ H x y v u Q I rx ry h
  obtain ⟨d, e, hd, he, sd, q⟩ := h
  obtain ⟨as, r1⟩ := Dq.reads I d x v hd rx
  obtain ⟨bs, r2⟩ := Dq.reads I e y u he ry
  have p1 := Dq.plain _ _ hd
  have p2 := Dq.plain _ _ he
  unfold sIn at sd
  split at sd
  · rw [PyData.plain] at p2
    exact PySem.SeqAt.in_list_data r2 r1 p2 p1 (by omega) ⟨.bl _, H, I, by rw [rInD, any_eqv]; rfl, q⟩
  · rw [PyData.plain] at p2
    exact PySem.SeqAt.in_tuple_data r2 r1 p2 p1 (by omega) ⟨.bl _, H, I, by rw [rInD, any_eqv]; rfl, q⟩
  · exact sd.elim
theorem op_notInQ (hu : X.A.units + 64 < cLine) : OpR X (compareOp .NotIn) (qRel X.K sIn fun d e => !rInD d e) := by
  intro pins s σ H x y v u Q I rx ry h
  obtain ⟨d, e, hd, he, sd, q⟩ := h
  obtain ⟨as, r1⟩ := Dq.reads I d x v hd rx
  obtain ⟨bs, r2⟩ := Dq.reads I e y u he ry
  have p1 := Dq.plain _ _ hd
  have p2 := Dq.plain _ _ he
  unfold sIn at sd
  split at sd
  · rw [PyData.plain] at p2
    exact PySem.SeqAt.notIn_list_data r2 r1 p2 p1 (by omega) ⟨.bl _, H, I, by show L2.RelV (V.bl (!rInD _ _)) _; rw [rInD, any_eqv]; rfl, q⟩
  · rw [PyData.plain] at p2
    exact PySem.SeqAt.notIn_tuple_data r2 r1 p2 p1 (by omega) ⟨.bl _, H, I, by show L2.RelV (V.bl (!rInD _ _)) _; rw [rInD, any_eqv]; rfl, q⟩
  · exact sd.elim
/-- is, is not: of None, of truth values -/
def sIs (d e : D) : Prop := match d, e with
  | _, .none => True
  | .bool _, .bool _ => True
  | _, _ => False
def rIsD (d e : D) : Bool := match d, e with
  | .none, .none => true
  | .bool a, .bool b => decide (a = b)
  | _, _ => false
theorem Dq.isNone {K : PySem.W.Frag} {G : Addr → Prop} {H : Hp} {x : V} {d : D} (h : Dq K G H x d) : decide (x = .non) = rIsD d .none := by
  cases h <;> rfl
theorem op_isNotQ : OpR X (compareOp .IsNot) (qRel X.K sIs fun d e => !rIsD d e) := by
  intro pins s σ H x y v u Q I rx ry h
  obtain ⟨d, e, hd, he, sd, q⟩ := h
  cases e with
  | none =>
    have hy : y = .non := by cases he; rfl
    exact op_notN pins s σ H x y v u Q I rx ry ⟨hy, by rw [Dq.isNone hd]; exact q⟩
  | bool b =>
    cases d with
    | bool a =>
      cases hd
      cases he
      exact op_notBl pins s σ H _ _ v u Q I rx ry ⟨a, b, rfl, rfl, q⟩
    | _ => exact sd.elim
  | _ => cases d <;> exact sd.elim
end
/-! ### arithmetic -/
/-- two whole numbers, under a side condition -/
def fI (side : Int → Int → Prop) (g : Int → Int → Int) : D → D → (R → Prop) → Prop := fun d e Q => match d, e with
  | .int i, .int j => side i j ∧ Q (.val (.sh (.int (g i j))))
  | _, _ => False
theorem lk_I {C : Zn} {K : PySem.W.Frag} {side : Int → Int → Prop} {g : Int → Int → Int} {cond : Int → Int → Prop} (hs : ∀ i j, side i j → cond i j) : Lk2 C K (rI cond fun i j => .int (g i j)) (fI side g) := by
  refine ⟨fun d e Q Q' m q => ?_, fun F H v w d e Q Q' b h1 h2 q k => ?_⟩
  · unfold fI at q ⊢
    split at q
    · exact ⟨q.1, m _ q.2⟩
    · exact q
  · unfold fI at q
    split at q
    · cases h1
      cases h2
      exact ⟨_, _, rfl, rfl, hs _ _ q.1, k _ _ F H (.refl b) (.sh (.int _)) q.2⟩
    · exact q.elim
def sT (_ _ : Int) : Prop := True
theorem lk_I0 {C : Zn} {K : PySem.W.Frag} {g : Int → Int → Int} : Lk2 C K (rI0 fun i j => .int (g i j)) (fI sT g) := by
  refine ⟨fun d e Q Q' m q => ?_, fun F H v w d e Q Q' b h1 h2 q k => ?_⟩
  · unfold fI at q ⊢
    split at q
    · exact ⟨q.1, m _ q.2⟩
    · exact q
  · unfold fI at q
    split at q
    · cases h1
      cases h2
      exact ⟨_, _, rfl, rfl, k _ _ F H (.refl b) (.sh (.int _)) q.2⟩
    · exact q.elim
section
variable {C : Zn} {X : Cx} {a b e : Expr} {pos : Pos} {ta tb : DT}
abbrev fSub := fI sT fun i j => i - j
abbrev fMod := fI (fun _ j => 0 < j) fun i j => i % j
abbrev fDiv := fI (fun _ j => 0 < j ∧ j < 1073741824) fun i j => i / j
abbrev fShl := fI (fun i j => 0 ≤ j ∧ j ≤ 1000000 ∧ i.natAbs < 2 ^ 64) fun i j => i * 2 ^ j.toNat
abbrev fShr := fI (fun _ j => 0 ≤ j) fun i j => i / 2 ^ j.toNat
abbrev fAnd := fI sT Builtin.bitAnd
abbrev fOr := fI sT Builtin.bitOr
theorem d_sub (ha : PD C X a ta) (hb : PD C X b tb) : PD C X (.BinOp a .Sub b pos) (dOp fSub ta tb) := d_op op_sub lk_I0 ha hb
theorem d_mod (ha : PD C X a ta) (hb : PD C X b tb) : PD C X (.BinOp a .Mod b pos) (dOp fMod ta tb) := d_op op_mod (lk_I fun _ _ h => h) ha hb
theorem d_div (ha : PD C X a ta) (hb : PD C X b tb) : PD C X (.BinOp a .FloorDiv b pos) (dOp fDiv ta tb) := d_op op_fdiv (lk_I fun _ _ h => h) ha hb
theorem d_shl (ha : PD C X a ta) (hb : PD C X b tb) : PD C X (.BinOp a .LShift b pos) (dOp fShl ta tb) := d_op op_shl (lk_I fun _ _ h => h) ha hb
theorem d_shr (ha : PD C X a ta) (hb : PD C X b tb) : PD C X (.BinOp a .RShift b pos) (dOp fShr ta tb) := d_op op_shr (lk_I fun _ _ h => h) ha hb
theorem d_band (ha : PD C X a ta) (hb : PD C X b tb) : PD C X (.BinOp a .BitAnd b pos) (dOp fAnd ta tb) := d_op op_and lk_I0 ha hb
theorem d_bor (ha : PD C X a ta) (hb : PD C X b tb) : PD C X (.BinOp a .BitOr b pos) (dOp fOr ta tb) := d_op op_or lk_I0 ha hb
/-- one whole number -/
def fU (g : Int → Int) : R → (R → Prop) → Prop := fun x Q => onI x fun i => Q (.val (.sh (.int (g i))))
theorem lk_U {K : PySem.W.Frag} {g : Int → Int} : LkR1 C K (rU fun i => .int (g i)) (fU g) :=
  ⟨fun x Q Q' m q => onI_mono (fun i q => m _ q) q, fun F0 H0 F H v x Q Q' b0 g rr q k => by
    obtain ⟨i, rfl, q⟩ := onI_to rr q
    exact ⟨i, rfl, k _ _ F H g (.sh (.int _)) q⟩⟩
theorem d_neg (ha : PD C X a ta) : PD C X (.UnaryOp .USub a pos) (dUn (fU fun i => -i) ta) := d_un un_neg lk_U ha
theorem d_inv (ha : PD C X a ta) : PD C X (.UnaryOp .Invert a pos) (dUn (fU Builtin.bitNot) ta) := d_un un_inv lk_U ha
theorem d_eq (hu : X.A.units + 64 < cLine) (ha : PD C X a ta) (hb : PD C X b tb) : PD C X (.Compare a [.Eq] [b] pos) (dOp (fRel sDep rEqv) ta tb) := d_cmp (op_eqQ hu) lk_rel ha hb (nomark _)
theorem d_ne (hu : X.A.units + 64 < cLine) (ha : PD C X a ta) (hb : PD C X b tb) : PD C X (.Compare a [.NotEq] [b] pos) (dOp (fRel sDep fun d e => !rEqv d e) ta tb) := d_cmp (op_neQ hu) lk_rel ha hb (nomark _)
theorem d_lt (hu : X.A.units + 64 < cLine) (ha : PD C X a ta) (hb : PD C X b tb) : PD C X (.Compare a [.Lt] [b] pos) (dOp (fRel sLt rLtD) ta tb) := d_cmp (op_ltQ hu) lk_rel ha hb (nomark _)
theorem d_in (hu : X.A.units + 64 < cLine) (ha : PD C X a ta) (hb : PD C X b tb) (hm : behindInMarks .In b = false := by rfl) : PD C X (.Compare a [.In] [b] pos) (dOp (fRel sIn rInD) ta tb) := d_cmp (op_inQ hu) lk_rel ha hb hm
/-- a < b < c and its like -/
def dChain (f g : D → D → (R → Prop) → Prop) (ta tb tc : DT) : DT := fun δ Q => ta δ fun x => tb δ fun y => on2 f x y fun z => onB z fun k => if k = true then tc δ fun w => on2 g y w Q else Q (.val (.sh (.bool false)))
theorem on2_mono {f : D → D → (R → Prop) → Prop} (hf : ∀ d e Q Q', (∀ x, Q x → Q' x) → f d e Q → f d e Q') {x y : R} {Q Q' : R → Prop} (m : ∀ x, Q x → Q' x) (q : on2 f x y Q) : on2 f x y Q' := by
  unfold on2 at q ⊢
  split at q
  · exact hf _ _ _ _ m q
  · exact q
theorem d_chain {c : Expr} {tc : DT} {op op' : CmpOp} {r r' : R2} {f g : D → D → (R → Prop) → Prop} (ho : OpR X (compareOp op) r) (ho' : OpR X (compareOp op') r') (lk : Lk2 C X.K r f) (lk' : Lk2 C X.K r' g) (ha : PD C X a ta) (hb : PD C X b tb) (hc : PD C X c tc)
    (hm : lastMarks [op, op'] [b, c] = false := by with_unfolding_all rfl) : PD C X (.Compare a [op, op'] [b, c] pos) (dChain f g ta tb tc) := by
  refine ⟨fun δ Q Q' m q => ha.mono δ _ _ (fun x q => hb.mono δ _ _ (fun y q => on2_mono lk.mono (fun z q => onB_mono (fun k q => by
    cases k with
    | true => exact hc.mono δ _ _ (fun w q => on2_mono lk'.mono m q) q
    | false => exact m _ q) q) q) q) q, (pe_chain ho ho' ha.run hb.run hc.run hm).imp fun σ H Q h => ?_⟩
  obtain ⟨δ, F, x, h⟩ := h
  have nz : ∀ a, H a = none → ¬ C.Z a := fun a n => x.bs.nzn n
  refine ⟨δ, F, x, ha.mono δ _ _ (fun r1 q F1 H1 v g1 rr1 => ⟨δ, F1, x.go g1, hb.mono δ _ _ (fun r2 q F2 H2 w g2 rr2 => ?_) q⟩) h⟩
  have nz1 : ∀ a, H1 a = none → ¬ C.Z a := fun a n => g1.ok.nzn n
  unfold on2 at q
  split at q
  · rename_i d e e1 e2
    have d1 := RR.rd g2.ok nz (rr1.go g1.ok nz g2) e1
    have d2 := RR.rd g2.ok nz1 rr2 e2
    refine lk.to F2 H2 v w d e _ _ g2.ok d1 d2 q fun z u F3 H3 g3 rr3 q => ?_
    obtain ⟨k, rfl, q⟩ := onB_to rr3 q
    refine ⟨k, rfl, ?_⟩
    have g13 := g1.trans x.bs (g2.trans g1.ok g3)
    cases k with
    | false => exact q F3 H3 _ g13 (.sh (.bl _))
    | true =>
      refine ⟨δ, F3, x.go g13, hc.mono δ _ _ (fun r4 q F4 H4 w4 g4 rr4 => ?_) q⟩
      unfold on2 at q
      split at q
      · rename_i e' d' e3 e4
        rw [e2] at e3
        cases e3
        have d2' := Dq.mono ((g3.trans g2.ok g4).keepZ g2.ok) _ _ d2
        have d4 := RR.rd g4.ok (fun a n => g3.ok.nzn n) rr4 e4
        exact lk'.to F4 H4 w w4 _ _ _ _ g4.ok d2' d4 q fun z' u' F5 H5 g5 rr5 q' => q' F5 H5 u' (g13.trans x.bs (g4.trans g3.ok g5)) ((rr5.older g3.ok g4).older x.bs g13)
      · exact q.elim
  · exact q.elim
theorem d_lele {c : Expr} {tc : DT} (hu : X.A.units + 64 < cLine) (ha : PD C X a ta) (hb : PD C X b tb) (hc : PD C X c tc) (hm : lastMarks [CmpOp.LtE, .LtE] [b, c] = false := by with_unfolding_all rfl) : PD C X (.Compare a [.LtE, .LtE] [b, c] pos) (dChain (fRel sLt rLeD) (fRel sLt rLeD) ta tb tc) :=
  d_chain (op_leQ hu) (op_leQ hu) lk_rel lk_rel ha hb hc hm
end
end DL
set_option Elab.async false
set_option linter.all false
set_option maxRecDepth 100000
set_option maxHeartbeats 1000000
namespace DL
open PySem PySem.Spec L2
open PyProof.Rows hiding St
open PySem.W (alike dataLt dataLe AllAlike Sortable EachIs)
section
variable {K : PySem.W.Frag} {C : Zn} {F0 F F1 F' : Addr → Prop} {H0 H H' : Hp} {v w : V} {x y : R} {d e : D}
theorem Sup.grow (g : ∀ a, F a → F' a) (h : Sup K C F H v d) : Sup K C F' H v d := by
  have k : Keep F H F' H := .weak g
  unfold Sup at h ⊢
  split at h
  · obtain ⟨a, vs, e, h1, h2⟩ := h
    exact ⟨a, vs, e, h1, DqAll.mono k _ _ h2⟩
  · obtain ⟨a, vs, e, h1, h2⟩ := h
    exact ⟨a, vs, e, h1, DqAll.mono k _ _ h2⟩
  · exact Dq.mono k _ _ h
theorem Go.join (g1 : Go C F0 H0 F H) (g2 : Go C F0 H0 F' H) : Go C F0 H0 (fun a => F a ∨ F' a) H :=
  ⟨g1.same, fun a m => .inl (g1.grow a m), fun a m => m.elim (g1.new a) (g2.new a), g1.ok.j, fun a m => m.elim (g1.ok.f a) (g2.ok.f a)⟩
/-- both, their items given away -/
theorem sup2 (b0 : Bs C F0 H0) (g : Go C F0 H0 F H) (hx : RR K C F H0 H v x) (hy : RR K C F H0 H w y) (ex : x.sup = some d) (ey : y.sup = some e) : ∃ F', Go C F0 H0 F' H ∧ Sup K C F' H v d ∧ Sup K C F' H w e := by
  obtain ⟨F1, g1, k1, s1⟩ := RR.sup b0 g hx ex
  obtain ⟨F2, g2, k2, s2⟩ := RR.sup b0 g hy ey
  exact ⟨_, g1.join g2, s1.grow fun a m => .inl m, s2.grow fun a m => .inr m⟩
theorem Sup.lst {ds : List D} (h : Sup K C F H v (.list ds)) : ∃ a vs, v = .ref a ∧ LstAt (NZ C) H a vs ∧ DqAll K F H vs ds := h
theorem Sup.tup {ds : List D} (h : Sup K C F H v (.tuple ds)) : ∃ a vs, v = .ref a ∧ SqT K H a vs ∧ DqAll K F H vs ds := h
theorem Sup.int {i : Int} (h : Sup K C F H v (.int i)) : v = .int i := by
  have h : Dq K F H v (.int i) := h
  cases h; rfl
theorem Sup.str {i : Str} (h : Sup K C F H v (.str i)) : v = .str i := by
  have h : Dq K F H v (.str i) := h
  cases h; rfl
/-- a new list of what is given away -/
theorem RR.newl (b0 : Bs C F0 H0) (g : Go C F0 H0 F H) {vs : List V} {ds : List D} (h : DqAll K F H vs ds) {p : Addr} (n : H p = none) : Go C F0 H0 F (upd H p (.lst vs)) ∧ RR K C F H0 (upd H p (.lst vs)) (.ref p) (.val (.own (ds.map DV.sh))) := by
  have g3 := Go.laid (o := .lst vs) g.ok n
  refine ⟨g.trans b0 g3, [p], .own upd_same (Reps.ofDq (DqAll.mono (g3.keep g.ok) _ _ h)), by simp, fun a m => ?_⟩
  obtain rfl := List.mem_singleton.mp m
  refine ⟨fun z => ?_, g.none b0 n⟩
  obtain ⟨o, q⟩ := (g.ok.f a z).2
  rw [n] at q; cases q
theorem RR.newt (b0 : Bs C F0 H0) (g : Go C F0 H0 F H) {vs : List V} {ds : List D} (h : DqAll K F H vs ds) {p : Addr} (n : H p = none) : Go C F0 H0 F (upd H p (.tup vs)) ∧ RR K C F H0 (upd H p (.tup vs)) (.ref p) (.val (.sh (.tuple ds))) := by
  have g3 := Go.laid (o := .tup vs) g.ok n
  exact ⟨g.trans b0 g3, .sh (.tup (.inl (.inl upd_same)) (DqAll.mono (g3.keep g.ok) _ _ h))⟩
end
/-! ### + and * of any kind -/
def fAdd : R → R → (R → Prop) → Prop := fun x y Q => match x.sup, y.sup with
  | some (.int i), some (.int j) => Q (.val (.sh (.int (i + j))))
  | some (.str s), some (.str t) => s.length + t.length ≤ sizeLine ∧ Q (.val (.sh (.str (s ++ t))))
  | some (.tuple a), some (.tuple b) => a.length + b.length ≤ sizeLine ∧ Q (.val (.sh (.tuple (a ++ b))))
  | some (.list a), some (.list b) => a.length + b.length ≤ sizeLine ∧ Q (.val (.own ((a ++ b).map DV.sh)))
  | _, _ => False
abbrev rStrCat : R2 := fun x y H Q => ∃ i j, x = .str i ∧ y = .str j ∧ i.length + j.length ≤ sizeLine ∧ Q (.str (i ++ j)) H
abbrev rAddAll (K : PySem.W.Frag) : R2 := fun x y H Q => rI0 (fun i j => .int (i + j)) x y H Q ∨ (rStrCat x y H Q ∨ (rCatA K x y H Q ∨ rCat x y H Q))
theorem op_addAll {X : Cx} : OpR X (binaryOp .Add) (rAddAll X.K) := op_add.or (op_add_str.or (op_catA.or op_cat))
theorem lk_add {C : Zn} {K : PySem.W.Frag} : LkR2 C K (rAddAll K) fAdd := by
  refine ⟨fun x y Q Q' m q => ?_, fun F0 H0 F H v w x y Q Q' b0 g rx ry q k => ?_⟩
  · unfold fAdd at q ⊢
    split at q
    · exact m _ q
    · exact ⟨q.1, m _ q.2⟩
    · exact ⟨q.1, m _ q.2⟩
    · exact ⟨q.1, m _ q.2⟩
    · exact q
  · unfold fAdd at q
    split at q
    · rename_i i j e1 e2
      obtain ⟨F2, g2, s1, s2⟩ := sup2 b0 g rx ry e1 e2
      exact .inl ⟨i, j, s1.int, s2.int, k _ _ F2 H g2 (.sh (.int _)) q⟩
    · rename_i i j e1 e2
      obtain ⟨F2, g2, s1, s2⟩ := sup2 b0 g rx ry e1 e2
      exact .inr (.inl ⟨i, j, s1.str, s2.str, q.1, k _ _ F2 H g2 (.sh (.str _)) q.2⟩)
    · rename_i a b e1 e2
      obtain ⟨F2, g2, s1, s2⟩ := sup2 b0 g rx ry e1 e2
      obtain ⟨p1, vs, rfl, h1, d1⟩ := s1.tup
      obtain ⟨p2, ws, rfl, h2, d2⟩ := s2.tup
      refine .inr (.inr (.inl ⟨p1, p2, vs, ws, rfl, rfl, h1, h2, by rw [d1.length, d2.length]; exact q.1, fun z => ?_, fun _ z => ?_, fun _ _ p n => ?_⟩))
      · subst z
        cases d1
        exact k _ _ F2 H g2 (.sh (.tup h2 d2)) q.2
      · subst z
        cases d2
        refine k _ _ F2 H g2 (.sh (.tup h1 ?_)) q.2
        rw [List.append_nil]; exact d1
      · obtain ⟨g3, r3⟩ := RR.newt b0 g2 (d1.append d2) n
        exact k _ _ F2 _ g3 r3 q.2
    · rename_i a b e1 e2
      obtain ⟨F2, g2, s1, s2⟩ := sup2 b0 g rx ry e1 e2
      obtain ⟨p1, vs, rfl, h1, d1⟩ := s1.lst
      obtain ⟨p2, ws, rfl, h2, d2⟩ := s2.lst
      refine .inr (.inr (.inr ⟨p1, p2, vs, ws, rfl, rfl, h1.1, h2.1, by rw [d1.length, d2.length]; exact q.1, fun p n => ?_⟩))
      obtain ⟨g3, r3⟩ := RR.newl b0 g2 (d1.append d2) n
      exact k _ _ F2 _ g3 r3 q.2
    · exact q.elim
def fMul : R → R → (R → Prop) → Prop := fun x y Q => match x.sup, y.sup with
  | some (.int i), some (.int j) => CMul i j ∧ Q (.val (.sh (.int (i * j))))
  | some (.list a), some (.int j) => (-(2 ^ 63) ≤ j ∧ j < 2 ^ 63 ∧ a.length * j.toNat ≤ sizeLine) ∧ Q (.val (.own ((List.replicate j.toNat a).flatten.map DV.sh)))
  | some (.tuple a), some (.int j) => (a ≠ [] ∧ 2 ≤ j ∧ j ≤ 1000 ∧ a.length ≤ 1000) ∧ Q (.val (.sh (.tuple (List.replicate j.toNat a).flatten)))
  | _, _ => False
abbrev rMulAll (K : PySem.W.Frag) : R2 := fun x y H Q => rI CMul (fun i j => .int (i * j)) x y H Q ∨ (rRep x y H Q ∨ rRepT K x y H Q)
theorem op_mulAll {X : Cx} : OpR X (binaryOp .Mult) (rMulAll X.K) := op_mul.or (op_rep.or op_repT)
theorem DqAll.rep {K : PySem.W.Frag} {F : Addr → Prop} {H : Hp} {vs : List V} {ds : List D} (h : DqAll K F H vs ds) : ∀ n : Nat, DqAll K F H (List.replicate n vs).flatten (List.replicate n ds).flatten
  | 0 => .nil
  | n + 1 => by
    rw [List.replicate_succ, List.replicate_succ, List.flatten_cons, List.flatten_cons]
    exact h.append (DqAll.rep h n)
theorem lk_mul {C : Zn} {K : PySem.W.Frag} : LkR2 C K (rMulAll K) fMul := by
  refine ⟨fun x y Q Q' m q => ?_, fun F0 H0 F H v w x y Q Q' b0 g rx ry q k => ?_⟩
  · unfold fMul at q ⊢
    split at q
    · exact ⟨q.1, m _ q.2⟩
    · exact ⟨q.1, m _ q.2⟩
    · exact ⟨q.1, m _ q.2⟩
    · exact q
  · unfold fMul at q
    split at q
    · rename_i i j e1 e2
      obtain ⟨F2, g2, s1, s2⟩ := sup2 b0 g rx ry e1 e2
      exact .inl ⟨i, j, s1.int, s2.int, q.1, k _ _ F2 H g2 (.sh (.int _)) q.2⟩
    · rename_i a j e1 e2
      obtain ⟨F2, g2, s1, s2⟩ := sup2 b0 g rx ry e1 e2
      obtain ⟨p1, vs, rfl, h1, d1⟩ := s1.lst
      refine .inr (.inl ⟨p1, j, vs, rfl, s2.int, h1.1, q.1.1, q.1.2.1, by rw [d1.length]; exact q.1.2.2, fun p n => ?_⟩)
      obtain ⟨g3, r3⟩ := RR.newl b0 g2 (d1.rep j.toNat) n
      exact k _ _ F2 _ g3 r3 q.2
    · rename_i a j e1 e2
      obtain ⟨F2, g2, s1, s2⟩ := sup2 b0 g rx ry e1 e2
      obtain ⟨p1, vs, rfl, h1, d1⟩ := s1.tup
      obtain ⟨⟨z1, z2, z3, z4⟩, q⟩ := q
      refine .inr (.inr ⟨p1, j, vs, rfl, s2.int, h1, fun z => z1 ?_, z2, z3, by rw [d1.length]; exact z4, fun p n => ?_⟩)
      · subst z
        cases d1; rfl
      · obtain ⟨g3, r3⟩ := RR.newt b0 g2 (d1.rep j.toNat) n
        exact k _ _ F2 _ g3 r3 q
    · exact q.elim
section
variable {C : Zn} {X : Cx} {a b e : Expr} {es : List Expr} {pos p : Pos} {ta tb te : DT} {t : DL'}
theorem d_add (ha : PD C X a ta) (hb : PD C X b tb) : PD C X (.BinOp a .Add b pos) (dOpR fAdd ta tb) := d_opR op_addAll lk_add ha hb
theorem d_mul (ha : PD C X a ta) (hb : PD C X b tb) : PD C X (.BinOp a .Mult b pos) (dOpR fMul ta tb) := d_opR op_mulAll lk_mul ha hb
/-! ### an item -/
/-- an item of what may be read -/
def itemR (x : R) (d : D) : R := match x with
  | .val _ => .val (.sh d)
  | .br _ => if noLst d then .val (.sh d) else .br d
def fIx : R → R → (R → Prop) → Prop := fun x y Q => onI y fun i => match x.rd with
  | some (.list ds) => (match atI ds i with
    | some d => Q (itemR x d)
    | none => False)
  | some (.tuple ds) => (match atI ds i with
    | some d => Q (itemR x d)
    | none => False)
  | some (.str z) => z.length ≤ sizeLine ∧ (match atI z.cps.toList i with
    | some c => Q (.val (.sh (.str ⟨#[c]⟩)))
    | none => False)
  | _ => False
theorem atI_get {α : Type} {xs : List α} {i : Int} {z : α} (h : atI xs i = some z) : ∃ j, ixN xs.length i = some j ∧ xs[j]? = some z := by
  unfold atI at h
  cases e : ixN xs.length i with
  | none => rw [e] at h; cases h
  | some j => rw [e] at h; exact ⟨j, rfl, h⟩
theorem DqAll.atI {K : PySem.W.Frag} {F : Addr → Prop} {H : Hp} {vs : List V} {ds : List D} {i : Int} {d : D} (h : DqAll K F H vs ds) (e : L2.atI ds i = some d) : ∃ v, L2.atI vs i = some v ∧ Dq K F H v d := by
  obtain ⟨j, e1, e2⟩ := atI_get e
  obtain ⟨v, q1, q2⟩ := h.get e2
  refine ⟨v, ?_, q2⟩
  unfold L2.atI
  rw [h.length, e1]
  exact q1
theorem itemRR {K : PySem.W.Frag} {F0 F : Addr → Prop} {H0 H : Hp} {v : V} {x : R} {d : D} (b0 : Bs C F0 H0) (g : Go C F0 H0 F H) (rx : RR K C F H0 H v x) {D0 : D} (e : x.rd = some D0) {w : V}
    (get : ∀ G, Dq K G H v D0 → Dq K G H w d) : ∃ F', Go C F0 H0 F' H ∧ RR K C F' H0 H w (itemR x d) := by
  cases x with
  | val dv =>
    obtain ⟨F', g', _, dq⟩ := RR.fd (d := D0) b0 g rx (by rw [R.fd]; exact e)
    exact ⟨F', g', .sh (get F' dq)⟩
  | br d' =>
    have e' : some d' = some D0 := e
    obtain rfl := Option.some.inj e'
    have h := get _ (show Dq K (NZ C) H v d' from rx)
    refine ⟨F, g, ?_⟩
    unfold itemR
    by_cases n : noLst d = true
    · rw [if_pos n]
      exact .sh (Dq.free _ _ n h)
    · rw [if_neg n]
      exact h
theorem lk_ix {K : PySem.W.Frag} : LkR2 C K (rIx K) fIx := by
  refine ⟨fun x y Q Q' m q => onI_mono (fun i q => ?_) q, fun F0 H0 F H v w x y Q Q' b0 g rx ry q k => ?_⟩
  · split at q
    · split at q
      · exact m _ q
      · exact q
    · split at q
      · exact m _ q
      · exact q
    · refine ⟨q.1, ?_⟩
      have q2 := q.2
      split at q2
      · exact m _ q2
      · exact q2
    · exact q
  · obtain ⟨i, rfl, q⟩ := onI_to ry q
    have rd := fun (d : D) (e : x.rd = some d) => RR.rd g.ok (fun a n => b0.nzn n) rx e
    split at q
    · rename_i ds e
      split at q
      · rename_i d ed
        have h := rd _ e
        cases h with
        | @lst a vs _ h1 h2 =>
          obtain ⟨w', q1, _⟩ := h2.atI ed
          obtain ⟨F', g', r'⟩ := itemRR (d := d) (w := w') b0 g rx e (fun G h => by
            cases h with
            | lst z1 z2 =>
              have : some (HO.lst vs) = some (HO.lst _) := h1.1.symm.trans z1.1
              cases this
              obtain ⟨w2, q2, q3⟩ := z2.atI ed
              rw [q1] at q2; cases q2
              exact q3)
          exact .inl ⟨a, vs, i, w', rfl, rfl, h1.sq, q1, k _ _ F' H g' r' q⟩
      · exact q.elim
    · rename_i ds e
      split at q
      · rename_i d ed
        have h := rd _ e
        cases h with
        | @tup a vs _ h1 h2 =>
          obtain ⟨w', q1, q0⟩ := h2.atI ed
          cases x with
          | val dv =>
            obtain ⟨F', g', _, dq⟩ := RR.fd (d := .tuple ds) b0 g rx (by rw [R.fd]; exact e)
            cases dq with
            | @tup _ vs' _ z1 z2 =>
              obtain ⟨w2, q2, q3⟩ := z2.atI ed
              exact .inr (.inl ⟨a, vs', i, w2, rfl, rfl, z1, q2, k _ _ F' H g' (.sh q3) q⟩)
          | br d' =>
            refine .inr (.inl ⟨a, vs, i, w', rfl, rfl, h1, q1, k _ _ F H g ?_ q⟩)
            unfold itemR
            by_cases n : noLst d = true
            · rw [if_pos n]
              exact .sh (Dq.free _ _ n q0)
            · rw [if_neg n]
              exact q0
      · exact q.elim
    · rename_i z e
      obtain ⟨hz, q⟩ := q
      split at q
      · rename_i c ec
        have h := rd _ e
        cases h
        exact .inr (.inr ⟨z, i, c, rfl, rfl, hz, ec, k _ _ F H g (.sh (.str _)) q⟩)
      · exact q.elim
    · exact q.elim
theorem d_item (ha : PD C X a ta) (hb : PD C X b tb) (hs : PlainIx b := by exact fun _ _ => rfl) : PD C X (.Subscript a b pos) (dOpR fIx ta tb) := d_ix ix_seq lk_ix ha hb hs
/-! ### calls of built-ins with one argument -/
def on1 (f : R → (R → Prop) → Prop) : List R → (R → Prop) → Prop := fun rs Q => match rs with
  | [x] => f x Q
  | _ => False
theorem lk_1 {K : PySem.W.Frag} {r : List V → Hp → VK → Prop} {f : R → (R → Prop) → Prop} (h : LkR1 C K (fun v => r [v]) f) : LkC C K r (on1 f) := by
  refine ⟨fun xs Q Q' m q => ?_, fun F0 H0 F H vs xs Q Q' b0 g rr q k => ?_⟩
  · unfold on1 at q ⊢
    split at q
    · exact h.mono _ _ _ m q
    · exact q
  · unfold on1 at q
    split at q
    · rename_i x
      have hl := rr.length
      match vs, hl with
      | [v], _ =>
        obtain ⟨v', e1, r1⟩ := rr.at (i := 0) rfl
        cases e1
        exact h.to F0 H0 F H v x Q Q' b0 g r1 q k
    · exact q.elim
/-- len -/
def fLen : R → (R → Prop) → Prop := fun x Q => match x.rd with
  | some (.list ds) => Q (.val (.sh (.int ds.length)))
  | some (.tuple ds) => Q (.val (.sh (.int ds.length)))
  | some (.str z) => z.length ≤ sizeLine ∧ Q (.val (.sh (.int z.length)))
  | _ => False
theorem lk_len {K : PySem.W.Frag} : LkR1 C K (fun v H Q => ∃ x n, [v] = [x] ∧ LenV K x H n ∧ Q (.int n) H) fLen := by
  refine ⟨fun x Q Q' m q => ?_, fun F0 H0 F H v x Q Q' b0 g rx q k => ?_⟩
  · unfold fLen at q ⊢
    split at q
    · exact m _ q
    · exact m _ q
    · exact ⟨q.1, m _ q.2⟩
    · exact q
  · have rd := fun (d : D) (e : x.rd = some d) => RR.rd g.ok (fun a n => b0.nzn n) rx e
    unfold fLen at q
    split at q
    · rename_i ds e
      have h := rd _ e
      cases h with
      | lst h1 h2 =>
        refine ⟨_, ds.length, rfl, .inl ⟨_, h1.sq, h2.length.symm⟩, k _ _ F H g (.sh (.int _)) q⟩
    · rename_i ds e
      have h := rd _ e
      cases h with
      | tup h1 h2 => exact ⟨_, ds.length, rfl, .inr ⟨_, h1, h2.length.symm⟩, k _ _ F H g (.sh (.int _)) q⟩
    · rename_i z e
      have h := rd _ e
      cases h
      exact ⟨_, z.length, rfl, ⟨q.1, rfl⟩, k _ _ F H g (.sh (.int _)) q.2⟩
    · exact q.elim
theorem d_len (ha : PDL C X [a] t) (hm : X.mg "len" = none) (hg : Gl X "len" := by rfl)
    (he : starEach [a] X.env = (false, eval a X.env) :: starEach [] X.env := by rfl) (hpl : (backTo pos (starEach [] X.env)).any (·.1) = false := by rfl) : PD C X (.Call (.Name "len" p) [a] [] pos) (dCB (on1 fLen) t) :=
  d_callB call_len (lk_1 lk_len) hg hm PySem.boot_len ha (by decide) (by decide) he hpl
/-- list(x), tuple(x) -/
def fList : R → (R → Prop) → Prop := fun x Q => match x.sup with
  | some (.list ds) => Q (.val (.own (ds.map DV.sh)))
  | some (.tuple ds) => Q (.val (.own (ds.map DV.sh)))
  | _ => False
def fTuple : R → (R → Prop) → Prop := fun x Q => match x.sup with
  | some (.list ds) => Q (.val (.sh (.tuple ds)))
  | some (.tuple ds) => Q (.val (.sh (.tuple ds)))
  | _ => False
theorem lk_list {K : PySem.W.Frag} : LkR1 C K (fun v H Q => ∃ p ys, [v] = [V.ref p] ∧ (SqL K H p ys ∨ SqT K H p ys) ∧ ∀ l, H l = none → Q (.ref l) (upd H l (.lst ys))) fList := by
  refine ⟨fun x Q Q' m q => ?_, fun F0 H0 F H v x Q Q' b0 g rx q k => ?_⟩
  · unfold fList at q ⊢
    split at q
    · exact m _ q
    · exact m _ q
    · exact q
  · unfold fList at q
    split at q
    · rename_i ds e
      obtain ⟨F2, g2, _, s⟩ := RR.sup b0 g rx e
      obtain ⟨p1, vs, rfl, h1, d1⟩ := s.lst
      refine ⟨p1, vs, rfl, .inl h1.sq, fun p n => ?_⟩
      obtain ⟨g3, r3⟩ := RR.newl b0 g2 d1 n
      exact k _ _ F2 _ g3 r3 q
    · rename_i ds e
      obtain ⟨F2, g2, _, s⟩ := RR.sup b0 g rx e
      obtain ⟨p1, vs, rfl, h1, d1⟩ := s.tup
      refine ⟨p1, vs, rfl, .inr h1, fun p n => ?_⟩
      obtain ⟨g3, r3⟩ := RR.newl b0 g2 d1 n
      exact k _ _ F2 _ g3 r3 q
    · exact q.elim
theorem lk_tuple {K : PySem.W.Frag} : LkR1 C K (fun v H Q => ∃ p ys, [v] = [V.ref p] ∧ ((SqL K H p ys ∧ ∀ l, H l = none → Q (.ref l) (upd H l (.tup ys))) ∨ (SqT K H p ys ∧ Q (.ref p) H))) fTuple := by
  refine ⟨fun x Q Q' m q => ?_, fun F0 H0 F H v x Q Q' b0 g rx q k => ?_⟩
  · unfold fTuple at q ⊢
    split at q
    · exact m _ q
    · exact m _ q
    · exact q
  · unfold fTuple at q
    split at q
    · rename_i ds e
      obtain ⟨F2, g2, _, s⟩ := RR.sup b0 g rx e
      obtain ⟨p1, vs, rfl, h1, d1⟩ := s.lst
      refine ⟨p1, vs, rfl, .inl ⟨h1.sq, fun p n => ?_⟩⟩
      obtain ⟨g3, r3⟩ := RR.newt b0 g2 d1 n
      exact k _ _ F2 _ g3 r3 q
    · rename_i ds e
      obtain ⟨F2, g2, _, s⟩ := RR.sup b0 g rx e
      obtain ⟨p1, vs, rfl, h1, d1⟩ := s.tup
      exact ⟨p1, vs, rfl, .inr ⟨h1, k _ _ F2 _ g2 (.sh (.tup h1 d1)) q⟩⟩
    · exact q.elim
theorem d_list (ha : PDL C X [a] t) (hm : X.mg "list" = none) (hg : Gl X "list" := by rfl)
    (he : starEach [a] X.env = (false, eval a X.env) :: starEach [] X.env := by rfl) (hpl : (backTo pos (starEach [] X.env)).any (·.1) = false := by rfl) : PD C X (.Call (.Name "list" p) [a] [] pos) (dCB (on1 fList) t) :=
  d_callTy call_list_of (lk_1 lk_list) hg hm (by decide +kernel) ha (by decide) (by decide) he hpl
theorem d_tupleC (ha : PDL C X [a] t) (hm : X.mg "tuple" = none) (hg : Gl X "tuple" := by rfl)
    (he : starEach [a] X.env = (false, eval a X.env) :: starEach [] X.env := by rfl) (hpl : (backTo pos (starEach [] X.env)).any (·.1) = false := by rfl) : PD C X (.Call (.Name "tuple" p) [a] [] pos) (dCB (on1 fTuple) t) :=
  d_callTy call_tuple_of (lk_1 lk_tuple) hg hm (by decide +kernel) ha (by decide) (by decide) he hpl
/-- int(n) -/
def fInt : R → (R → Prop) → Prop := fun x Q => match x with
  | .val (.sh (.int i)) => Q (.val (.sh (.int i)))
  | .val (.sh (.bool b)) => Q (.val (.sh (.int (if b then 1 else 0))))
  | _ => False
theorem lk_int {K : PySem.W.Frag} : LkR1 C K (fun v H Q => (∃ i, [v] = [V.int i] ∧ Q (.int i) H) ∨ ∃ k, [v] = [V.bl k] ∧ Q (.int (if k then 1 else 0)) H) fInt := by
  refine ⟨fun x Q Q' m q => ?_, fun F0 H0 F H v x Q Q' b0 g rx q k => ?_⟩
  · unfold fInt at q ⊢
    split at q
    · exact m _ q
    · exact m _ q
    · exact q
  · unfold fInt at q
    split at q
    · obtain ⟨as, z, _⟩ := rx
      cases z with
      | sh z => cases z; exact .inl ⟨_, rfl, k _ _ F H g (.sh (.int _)) q⟩
    · obtain ⟨as, z, _⟩ := rx
      cases z with
      | sh z => cases z; exact .inr ⟨_, rfl, k _ _ F H g (.sh (.int _)) q⟩
    · exact q.elim
theorem d_intC (ha : PDL C X [a] t) (hm : X.mg "int" = none) (hg : Gl X "int" := by rfl)
    (he : starEach [a] X.env = (false, eval a X.env) :: starEach [] X.env := by rfl) (hpl : (backTo pos (starEach [] X.env)).any (·.1) = false := by rfl) : PD C X (.Call (.Name "int" p) [a] [] pos) (dCB (on1 fInt) t) :=
  d_callTy call_int1 (lk_1 lk_int) hg hm (by decide +kernel) ha (by decide) (by decide) he hpl
/-- all(x), any(x) of a list of truth values -/
def boolsOf : List D → Option (List Bool)
  | [] => some []
  | .bool b :: ds => (boolsOf ds).map (b :: ·)
  | _ => none
theorem boolsOf_map : ∀ bs : List Bool, boolsOf (bs.map PyData.bool) = some bs
  | [] => rfl
  | b :: bs => by rw [List.map_cons, boolsOf, boolsOf_map bs]; rfl
theorem boolsOf_eq : ∀ {ds : List D} {bs : List Bool}, boolsOf ds = some bs → ds = bs.map PyData.bool
  | [], _, h => by cases h; rfl
  | .bool b :: ds, bs, h => by
    rw [boolsOf] at h
    obtain ⟨cs, e1, e2⟩ := Option.map_eq_some_iff.mp h
    subst e2
    rw [boolsOf_eq e1]; rfl
  | .none :: _, _, h => by cases h
  | .int _ :: _, _, h => by cases h
  | .str _ :: _, _, h => by cases h
  | .list _ :: _, _, h => by cases h
  | .tuple _ :: _, _, h => by cases h
  | .dict _ :: _, _, h => by cases h
def fBools (g : List Bool → Bool) : R → (R → Prop) → Prop := fun x Q => match x.rd with
  | some (.list ds) => (match boolsOf ds with
    | some bs => Q (.val (.sh (.bool (g bs))))
    | none => False)
  | _ => False
theorem lk_bools {K : PySem.W.Frag} {g : List Bool → Bool} : LkR1 C K (fun v H Q => ∃ (a : Addr) (bs : List Bool), [v] = [V.ref a] ∧ SqL K H a (bs.map V.bl) ∧ Q (.bl (g bs)) H) (fBools g) := by
  refine ⟨fun x Q Q' m q => ?_, fun F0 H0 F H v x Q Q' b0 gg rx q k => ?_⟩
  · unfold fBools at q ⊢
    split at q
    · split at q
      · exact m _ q
      · exact q
    · exact q
  · have rd := fun (d : D) (e : x.rd = some d) => RR.rd gg.ok (fun a n => b0.nzn n) rx e
    unfold fBools at q
    split at q
    · rename_i ds e
      split at q
      · rename_i bs eb
        have h := rd _ e
        cases h with
        | lst h1 h2 =>
          rw [boolsOf_eq eb] at h2
          exact ⟨_, bs, rfl, by rw [← h2.bools]; exact h1.sq, k _ _ F H gg (.sh (.bl _)) q⟩
      · exact q.elim
    · exact q.elim
theorem d_all (hc : X.calm = true) (ha : PDL C X [a] t) (hm : X.mg "all" = none) (hg : Gl X "all" := by rfl)
    (he : starEach [a] X.env = (false, eval a X.env) :: starEach [] X.env := by rfl) (hpl : (backTo pos (starEach [] X.env)).any (·.1) = false := by rfl) : PD C X (.Call (.Name "all" p) [a] [] pos) (dCB (on1 (fBools fun bs => bs.all id)) t) :=
  d_callB (cr_all hc) (lk_1 lk_bools) hg hm (by decide +kernel) ha (by decide) (by decide) he hpl
/-- min, max of two whole numbers -/
def fII (g : Int → Int → Int) : List R → (R → Prop) → Prop := fun rs Q => match rs with
  | [x, y] => onI x fun i => onI y fun j => Q (.val (.sh (.int (g i j))))
  | _ => False
/-- x.bit_length() -/
def fBits : R → (R → Prop) → Prop := fun x Q => onI x fun i => Q (.val (.sh (.int (Builtin.Int.intBits i : Nat))))
theorem d_bits {apos : Pos} (ha : PD C X a ta) (hbase : attributeBase a "bit_length" X.env (eval a X.env) = eval a X.env := by rfl) (hline : (apos.endLine == pos.line) = true := by rfl) : PD C X (.Call (.Attribute a "bit_length" apos) [] [] pos) (dUn fBits ta) :=
  ⟨mono_un (fun x Q Q' m q => onI_mono (fun i q => m _ q) q) ha.mono, (pe_bits ha.run hbase hline).imp fun σ H Q h => by
    obtain ⟨δ, F, x, h⟩ := h
    refine ⟨δ, F, x, ha.mono δ _ _ (fun r q F1 H1 v g rr => ?_) h⟩
    obtain ⟨i, rfl, q⟩ := onI_to rr q
    exact ⟨i, rfl, q F1 H1 _ g (.sh (.int _))⟩⟩
/-- isinstance(x, T) -/
def tyIs : String → D → Bool
  | "int", d => d.isInt
  | "bool", d => d.isBool
  | "str", d => d.isStr
  | "tuple", d => d.isTuple
  | "list", d => d.isList
  | "dict", d => d.isDict
  | _, _ => false
def rIsiD (K : PySem.W.Frag) (T : String) : List V → Hp → VK → Prop := fun xs H Q => ∃ x d, xs = [x, .ty T] ∧ Dq K Any H x d ∧ Q (.bl (tyIs T d)) H
def IsiT (T : String) : Prop := ∀ (prog : Program) (w : World) (A : Around) (E : Value → Shared → Prop) (s : Shared) (v : Value) (d : PyData) (as : List Addr) (Q : Value → Shared → Prop),
  Reads s.heap v d as → (∀ tk, s.toks ≤ tk → Q (.bool (tyIs T d)) { s with toks := tk }) → wpAny (model prog w) A (call (.builtin "isinstance") [v, .type T]) Q E s
theorem isi_int : IsiT "int" := fun _ _ _ _ _ _ _ _ _ r h => PySem.W.isinstance_int_data r h
theorem isi_bool : IsiT "bool" := fun _ _ _ _ _ _ _ _ _ r h => PySem.W.isinstance_bool_data r h
theorem isi_str : IsiT "str" := fun _ _ _ _ _ _ _ _ _ r h => PySem.W.isinstance_str_data r h
theorem isi_tuple : IsiT "tuple" := fun _ _ _ _ _ _ _ _ _ r h => PySem.W.isinstance_tuple_data r h
theorem call_isiD {T : String} (h : IsiT T) : CallR X (.builtin "isinstance") (rIsiD X.K T) := by
  intro pins s σ H xs us Q I r q
  obtain ⟨x, d, rfl, dq, q⟩ := q
  cases r with
  | cons r1 r2 =>
    cases r2 with
    | cons r2 r3 =>
      cases r3
      cases r2
      obtain ⟨as, rd⟩ := Dq.reads I d x _ dq r1
      exact h _ _ _ _ _ _ _ _ _ rd fun tk _ => ⟨.bl _, H, I.tok _, rfl, q⟩
def fIsi (T : String) : R → (R → Prop) → Prop := fun x Q => match x.rd with
  | some d => Q (.val (.sh (.bool (tyIs T d))))
  | none => False
theorem d_isi {T : String} {x : Str} {p2 : Pos} (hT : IsiT T) (ha : PD C X a ta) (hm : X.mg "isinstance" = none) (hm2 : X.mg x = none) (hv2 : bootBuiltins x = some (.type T)) (hg : Gl X "isinstance" := by rfl) (hg2 : Gl X x := by rfl) (hn2 : x ≠ "__name__" := by decide) (hd2 : (x == ("__debug__" : Str)) = false := by decide)
    (he : starEach [a, .Name x p2] X.env = (false, eval a X.env) :: starEach [.Name x p2] X.env := by rfl) (he2 : starEach [.Name x p2] X.env = (false, eval (.Name x p2) X.env) :: starEach [] X.env := by rfl) (hpl : (backTo pos (starEach [.Name x p2] X.env)).any (·.1) = false := by rfl) :
    PD C X (.Call (.Name "isinstance" p) [a, .Name x p2] [] pos) (dUn (fIsi T) ta) :=
  ⟨mono_un (fun x Q Q' m q => by
    unfold fIsi at q ⊢
    split at q
    · exact m _ q
    · exact q) ha.mono, (pe_callB (call_isiD hT) hg hm (by decide +kernel) (pa_cons ha.run (pa_cons (pe_bltn (v := .ty T) hg2 hm2 hv2 rfl hn2 hd2) pa_nil he2) he) (by decide) (by decide) he hpl).imp fun σ H Q h => by
    obtain ⟨δ, F, x, h⟩ := h
    refine ⟨δ, F, x, ha.mono δ _ _ (fun r q F1 H1 v g rr => ?_) h⟩
    unfold fIsi at q
    split at q
    · rename_i d e
      exact ⟨v, d, rfl, (RR.rd g.ok (fun a n => x.bs.nzn n) rr e).anyG, q F1 H1 _ g (.sh (.bl _))⟩
    · exact q.elim⟩
/-- list(range(a, b)) as a value -/
def dListRg1 (ta : DT) : DT := fun δ Q => ta δ fun x => onI x fun n => RgOk 0 n ∧ Q (.val (.own ((rangeD 0 n).map DV.sh)))
def dTupRg1 (ta : DT) : DT := fun δ Q => ta δ fun x => onI x fun n => RgOk 0 n ∧ Q (.val (.sh (.tuple (rangeD 0 n))))
theorem rgV_dq {K : PySem.W.Frag} {F : Addr → Prop} {H : Hp} (lo hi : Int) : DqAll K F H (rgV lo hi) (rangeD lo hi) := by
  unfold rgV rangeD
  generalize (hi - lo).toNat = n
  induction List.range n with
  | nil => exact .nil
  | cons i l ih => exact .cons (.int _) ih
theorem d_listRg1 {p2 pos2 : Pos} (hc : X.calm = true) (ha : PD C X a ta) (hm : X.mg "list" = none) (hm2 : X.mg "range" = none) (hg : Gl X "list" := by rfl) (hg2 : Gl X "range" := by rfl) (na : starEach [a] X.env = (false, eval a X.env) :: starEach [] X.env := by rfl)
    (nb : starEach [.Call (.Name "range" p2) [a] [] pos2] X.env = (false, eval (.Call (.Name "range" p2) [a] [] pos2) X.env) :: starEach [] X.env := by rfl) : PD C X (.Call (.Name "list" p) [.Call (.Name "range" p2) [a] [] pos2] [] pos) (dListRg1 ta) :=
  ⟨fun δ Q Q' m q => ha.mono δ _ _ (fun x q => onI_mono (fun n q => ⟨q.1, m _ q.2⟩) q) q, (pe_listRg hc hg hm (prg_1 hg2 hm2 ha.run na) nb).imp fun σ H Q h => by
    obtain ⟨δ, F, x, h⟩ := h
    refine ⟨δ, F, x, ha.mono δ _ _ (fun r q F1 H1 v g rr => ?_) h⟩
    obtain ⟨i, rfl, q1, q⟩ := onI_to rr q
    refine ⟨i, rfl, q1, fun p n => ?_⟩
    obtain ⟨g3, r3⟩ := RR.newl x.bs g (rgV_dq (K := X.K) 0 i) n
    exact q F1 _ _ g3 r3⟩
theorem d_tupRg1 {p2 pos2 : Pos} (hc : X.calm = true) (ha : PD C X a ta) (hm : X.mg "tuple" = none) (hm2 : X.mg "range" = none) (hg : Gl X "tuple" := by rfl) (hg2 : Gl X "range" := by rfl) (na : starEach [a] X.env = (false, eval a X.env) :: starEach [] X.env := by rfl)
    (nb : starEach [.Call (.Name "range" p2) [a] [] pos2] X.env = (false, eval (.Call (.Name "range" p2) [a] [] pos2) X.env) :: starEach [] X.env := by rfl) : PD C X (.Call (.Name "tuple" p) [.Call (.Name "range" p2) [a] [] pos2] [] pos) (dTupRg1 ta) :=
  ⟨fun δ Q Q' m q => ha.mono δ _ _ (fun x q => onI_mono (fun n q => ⟨q.1, m _ q.2⟩) q) q, (pe_tupRg hc hg hm (prg_1 hg2 hm2 ha.run na) nb).imp fun σ H Q h => by
    obtain ⟨δ, F, x, h⟩ := h
    refine ⟨δ, F, x, ha.mono δ _ _ (fun r q F1 H1 v g rr => ?_) h⟩
    obtain ⟨i, rfl, q1, q⟩ := onI_to rr q
    refine ⟨i, rfl, q1, fun p n => ?_⟩
    obtain ⟨g3, r3⟩ := RR.newt x.bs g (rgV_dq (K := X.K) 0 i) n
    exact q F1 _ _ g3 r3⟩
end
end DL
set_option Elab.async false
set_option linter.all false
set_option maxRecDepth 100000
set_option maxHeartbeats 1000000
namespace DL
open PySem PySem.Spec L2
open PyProof.Rows hiding St
open PySem.W (alike dataLt dataLe AllAlike Sortable EachIs)
/-! ### sorted -/
section
variable {prog : Program} {w : World} {A : Around} {E : Value → Shared → Prop} {s : Shared}
/-- sorted(t), t a tuple whose items read as data -/
theorem sorted_tuple {t : Addr} {vs : List Value} {ds : List D} {R : Value → D → Prop} {Q : Value → Shared → Prop} (ht : IsTup s.heap t vs.toArray) (e : EachIs R vs ds) (er : EachIs (fun v d => ∃ as, Reads s.heap v d as) vs ds)
    (hal : AllAlike ds) (hk : Sortable ds) (hL : ds.length ≤ sizeLine) (hu : ∀ d ∈ ds, A.units + 2 + d.depth < cLine)
    (h : ∀ (out : List Value) (h' : Heap) (p : Addr) (n : Nat), out.length = ds.length → EachIs R out (ds.mergeSort (dataLe false id)) → (∀ b o, s.heap.get? b = some o → h'.get? b = some o) → s.heap.get? p = none → h'.get? p = some (seqObj "list" out.toArray n) → Q (.ref p) { s with heap := h' }) :
    wpAny (model prog w) A (call (.builtin "sorted") [.ref t]) Q E s := by
  refine Calls.call_function_entry kind_sorted plain_sorted entry_sorted (args_sorted1 _) ?_
  unfold Builtin.«sorted»
  refine wpAny_bind (m := checkCount "sorted" 1 1 _) (wpAny_pure ?_)
  obtain ⟨o, ho, hc, n, hd⟩ := ht
  have hle : vs.length ≤ sizeLine := by rw [e.length]; exact hL
  refine wpAny_bind (PySem.wpAny_collect_seq t (.inr rfl) ho hc hd (fun h1 k1 => ?_) (by simpa using hle))
  refine wpAny_bind (wpAny_newList ?_ (by simpa using hle))
  have ha : (h1.push (seqObj "list" vs.toArray 0)).get? h1.objs.size = some (seqObj "list" vs.toArray 0) := Heap.get?_push_size _ rfl
  have k2 : ∀ b o, s.heap.get? b = some o → (h1.push (seqObj "list" vs.toArray 0)).get? b = some o := fun b o q => Heap.get?_push_of_some _ (k1 b o q)
  have er2 : EachIs (fun v d => ∃ as, Reads (PySem.W.sortingHeap (h1.push (seqObj "list" vs.toArray 0)) h1.objs.size vs) v d as) vs ds := by
    refine er.mono fun v d ⟨as, r⟩ => ⟨as, PyProof.Rows.Reads.keeps (fun b ob q => ?_) r⟩
    exact PySem.W.sortingHeap_old (Nat.ne_of_lt (Heap.lt_size (k1 b ob q))) (k2 b ob q)
  have emap : ∀ {S : Value → D → Prop}, EachIs S vs ds → EachIs S vs (ds.map id) := fun z => by rw [List.map_id]; exact z
  have S := PySem.W.SortsAt.data (prog := prog) (w := w) (A := A.in1.in1) (s := { s with heap := PySem.W.sortingHeap (h1.push (seqObj "list" vs.toArray 0)) h1.objs.size vs }) er2 hal hk (fun d m => hu d m)
  have fin := PySem.W.sortVals_data (enc := id) false e er2 (by rw [List.map_id]; exact hal)
  rw [List.map_id] at fin
  refine wpAny_bind (wpAny_holding (wpAny_call_entry slot_list_sort ⟨_, ha, rfl⟩ entry_list_sort (PySem.W.list_sort_vals (s := { s with heap := h1.push (seqObj "list" vs.toArray 0) }) ha S hle ⟨.none, rfl, wpAny_pure ?_⟩) (args_list_sort _)))
  obtain ⟨n2, hat⟩ := sortedHeap_at (vs := vs) (out := (PySem.W.sortVals (PySem.W.dataKind (PySem.W.sortingHeap (h1.push (seqObj "list" vs.toArray 0)) h1.objs.size vs) ds) false vs vs).toArray) ha
  refine ⟨_, rfl, h _ _ _ n2 (by rw [PySem.W.sortVals_length false rfl]; exact e.length) fin (fun b ob q => ?_) ?_ hat⟩
  · have l1 := Heap.lt_size (k1 b ob q)
    rw [sortedHeap_old (Nat.ne_of_lt l1) (Heap.lt_size (k2 b ob q))]
    exact k2 b ob q
  · cases q : s.heap.get? h1.objs.size with
    | none => rfl
    | some o => exact absurd (Heap.lt_size (k1 _ _ q)) (Nat.lt_irrefl _)
end
section
variable {P : Program} {w : World} {X : Cx} {pins : List (Addr × Obj)} {σ : L2.St} {H : Hp} {s : Shared} {h' : Heap} {a : Addr} {o : HO}
theorem objThere {h : Heap} (x : ObjOk P w H h a o) : ∃ ob, h.get? a = some ob := by
  induction o with
  | lst xs => obtain ⟨_, _, _, _, e⟩ := x; exact ⟨_, e⟩
  | tup xs => obtain ⟨_, _, _, o, e, _⟩ := x; exact ⟨o, e⟩
  | dK kvs => obtain ⟨_, _, _, _, o, _, _, e, _⟩ := x; exact ⟨o, e⟩
  | dT kvs => obtain ⟨_, _, _, _, o, _, _, e, _⟩ := x; exact ⟨o, e⟩
  | set S n => obtain ⟨o, _, _, _, e, _⟩ := x; exact ⟨o, e⟩
  | ins C dx fs => obtain ⟨_, _, _, e, _⟩ := x; exact ⟨_, e⟩
  | own y => obtain ⟨o, e⟩ := x; exact ⟨o, e⟩
  | xd fs => obtain ⟨_, ⟨o, _, _, e, _⟩, _⟩ := x; exact ⟨o, e⟩
  | rng lo hi => obtain ⟨_, _, _, e⟩ := x; exact ⟨_, e⟩
  | frz ob u => obtain ⟨e, _⟩ := x; exact ⟨_, e⟩
  | tbl ps => exact ⟨_, x⟩
  | met f y => exact ⟨_, x⟩
  | ext φ => obtain ⟨_, ⟨o, e⟩, _⟩ := x; exact ⟨o, e⟩
/-- a new object laid where none was to be had -/
theorem laidN {t' : Nat} (I : Inv X pins σ H s) (k : ∀ b u, s.heap.get? b = some u → h'.get? b = some u) (hn : s.heap.get? a = none) (new : ObjOk X.prog X.w (upd H a o) h' a o) : H a = none ∧ Inv X pins σ (upd H a o) { s with heap := h', toks := t' } := by
  have nH : H a = none := by
    cases e : H a with
    | none => rfl
    | some u =>
      obtain ⟨ob, q⟩ := objThere (I.hok a u e)
      rw [hn] at q; cases q
  have ne : ∀ b u, H b = some u → b ≠ a := fun b u q z => by rw [z, nH] at q; cases q
  refine ⟨nH, I.un (t' := t') ⟨fun b ob q _ _ _ => k b ob q, fun b ob q _ _ _ => ⟨ob.slots, k b ob q⟩, fun b ob q n _ => ?_, fun b ob q _ => ⟨ob, k b ob q⟩, fun b xs q => ?_, fun b ob xs q => ?_, fun b ps q => ⟨#[], ?_⟩⟩ fun b u q => ?_⟩
  · have : b ≠ a := fun z => by rw [z, hn] at q; cases q
    rw [upd_ne this]; exact n
  · rw [upd_ne (ne b _ q)]; exact q
  · rw [upd_ne (ne b _ q)]; exact q
  · rw [upd_ne (ne b _ q), q]; simp
  · by_cases e : b = a
    · subst e
      rw [upd_same] at q; cases q; exact new
    · rw [upd_ne e] at q
      exact (I.hok b u q).stay (fun c v _ z => k c v z) (fun c z => by rw [upd_ne (ne c _ z)]; exact z) fun c xs z => by rw [upd_ne (ne c _ z)]; exact z
end
/-- the rule for a list, for a tuple: G the data's own -/
def rSort (K : PySem.W.Frag) (G : Addr → Prop) : List V → Hp → VK → Prop := fun vs H Q => ∃ a xs ds, vs = [.ref a] ∧ (SqL K H a xs ∨ SqT K H a xs) ∧ DqAll K G H xs ds ∧ AllAlike ds ∧ Sortable ds ∧ (∀ d ∈ ds, d.depth ≤ 60) ∧
  ∀ p ys, H p = none → DqAll K G H ys (ds.mergeSort (dataLe false id)) → Q (.ref p) (upd H p (.lst ys))
section
variable {X : Cx} {pins : List (Addr × Obj)} {σ : L2.St} {H : Hp} {s : Shared} {G : Addr → Prop}
theorem each_dq {K : PySem.W.Frag} : ∀ {xs : List V} {us : List Value} {ds : List D}, DqAll K G H xs ds → Vals xs us → EachIs (fun u d => ∃ x, RelV x u ∧ Dq K G H x d) us ds
  | _, _, _, .nil, .nil => .nil
  | _, _, _, .cons h1 h2, .cons r1 r2 => .cons ⟨_, r1, h1⟩ (each_dq h2 r2)
theorem dq_each {K : PySem.W.Frag} : ∀ {us : List Value} {ds : List D}, EachIs (fun u d => ∃ x, RelV x u ∧ Dq K G H x d) us ds → ∃ xs, Vals xs us ∧ DqAll K G H xs ds
  | _, _, .nil => ⟨[], .nil, .nil⟩
  | _, _, .cons h t => by
    obtain ⟨x, r, d⟩ := h
    obtain ⟨xs, rs, ds⟩ := dq_each t
    exact ⟨x :: xs, .cons r rs, .cons d ds⟩
theorem cr_sortQ (hu : X.A.units + 64 < cLine) : CallR X (.builtin "sorted") (rSort X.K G) := by
  intro pins s σ H vs us Q I r h
  obtain ⟨a, xs, ds, rfl, hx, dq, hal, hk, hd, q⟩ := h
  cases r with
  | cons r1 r2 =>
    cases r2
    cases r1
    have fin : ∀ (out : List Value) (h' : Heap) (p : Addr) (n : Nat), out.length = ds.length → EachIs (fun u d => ∃ x, RelV x u ∧ Dq X.K G H x d) out (ds.mergeSort (dataLe false id)) → (∀ b o, s.heap.get? b = some o → h'.get? b = some o) → s.heap.get? p = none → h'.get? p = some (seqObj "list" out.toArray n) → ds.length ≤ sizeLine →
        EP X pins σ Q (.ref p) { s with heap := h' } := fun out h' p n hl e kp hp hat hz => by
      obtain ⟨ys, rv, dy⟩ := dq_each e
      have nw : ObjOk X.prog X.w (upd H p (.lst ys)) h' p (.lst ys) := ⟨by rw [rv.length, hl]; exact hz, out, n, rv, hat⟩
      obtain ⟨nH, I2⟩ := laidN (t' := s.toks) I kp hp nw
      exact ⟨.ref p, _, I2, rfl, q p ys nH dy⟩
    have du : ∀ d ∈ ds, X.A.units + 2 + d.depth < cLine := fun d m => by
      have := hd d m
      omega
    rcases hx with hx | hx
    · obtain ⟨its, rv, pl, hz⟩ := I.list hx
      obtain ⟨as, ra⟩ := DqAll.reads I ds xs its dq rv
      have er : EachIs (fun v d => ∃ as, Reads s.heap v d as) its ds := by
        have := PySem.W.readsAll_each (h := s.heap) id (vs := its) (bs := ds) (as := as) (by rw [List.map_id]; exact ra)
        exact this
      have hdz : ds.length ≤ sizeLine := by rw [← dq.length]; exact hz
      refine PySem.W.sorted_data (enc := id) pl.isList (each_dq dq rv) er (by rw [List.map_id]; exact hal) (by rw [List.map_id]; exact hk) hdz du fun out ho e => ?_
      obtain ⟨n, hat⟩ := sortedAll_at s.heap its out.toArray
      exact fin out _ _ n ho e (fun _ _ q => sortedAll_old q) (Heap.get?_none_of_le (Nat.le_succ _)) hat hdz
    · obtain ⟨its, rv, pl, hz⟩ := I.tuple hx
      obtain ⟨as, ra⟩ := DqAll.reads I ds xs its dq rv
      have er : EachIs (fun v d => ∃ as, Reads s.heap v d as) its ds := by
        have := PySem.W.readsAll_each (h := s.heap) id (vs := its) (bs := ds) (as := as) (by rw [List.map_id]; exact ra)
        exact this
      have hdz : ds.length ≤ sizeLine := by rw [← dq.length]; exact hz
      exact sorted_tuple pl (each_dq dq rv) er hal hk hdz du fun out h' p n ho e kp hp hat => fin out h' p n ho e kp hp hat hdz
end
/-- the items sorted, as data -/
def sortD (ds : List D) : List D := ds.mergeSort (dataLe false id)
def fSorted : R → (R → Prop) → Prop := fun x Q => match x.sup with
  | some d => (match seqOf d with
    | some ds => (AllAlike ds ∧ Sortable ds ∧ ∀ d ∈ ds, d.depth ≤ 60) ∧ Q (.val (.own ((sortD ds).map DV.sh)))
    | none => False)
  | none => False
section
variable {C : Zn} {X : Cx} {a b e : Expr} {es : List Expr} {pos p : Pos} {ta tb te : DT} {t : DL'}
theorem d_sorted (hu : X.A.units + 64 < cLine) (ha : PDL C X [a] t) (hm : X.mg "sorted" = none) (hg : Gl X "sorted" := by rfl)
    (he : starEach [a] X.env = (false, eval a X.env) :: starEach [] X.env := by rfl) (hpl : (backTo pos (starEach [] X.env)).any (·.1) = false := by rfl) : PD C X (.Call (.Name "sorted" p) [a] [] pos) (dCB (on1 fSorted) t) := by
  have mono : ∀ x Q Q', (∀ z, Q z → Q' z) → fSorted x Q → fSorted x Q' := fun x Q Q' m q => by
    unfold fSorted at q ⊢
    split at q
    · split at q
      · exact ⟨q.1, m _ q.2⟩
      · exact q
    · exact q
  have m1 : ∀ x Q Q', (∀ z, Q z → Q' z) → on1 fSorted x Q → on1 fSorted x Q' := fun x Q Q' m q => by
    unfold on1 at q ⊢
    split at q
    · exact mono _ _ _ m q
    · exact q
  -- the rule asks whose data: chosen behind the argument
  refine ⟨mono_cb m1 ha.mono, ?_⟩
  have key : PE X (.Call (.Name "sorted" p) [a] [] pos) (tCB (fun vs H Q => ∃ G, rSort X.K G vs H Q) (liftL C X.K t)) :=
    pe_callB (fun pins s σ H xs us Q I r h => by
      obtain ⟨G, h⟩ := h
      exact cr_sortQ (G := G) hu pins s σ H xs us Q I r h) hg hm (by decide +kernel) ha.run (by decide) (by decide) he hpl
  refine key.imp fun σ H Q h => ?_
  obtain ⟨δ, F, x, h⟩ := h
  refine ⟨δ, F, x, ha.mono δ _ _ (fun rs q F1 H1 vs g rrs => ?_) h⟩
  unfold on1 at q
  split at q
  · rename_i r
    have hl := rrs.length
    match vs, hl with
    | [v], _ =>
      obtain ⟨v', e1, r1⟩ := rrs.at (i := 0) rfl
      cases e1
      unfold fSorted at q
      split at q
      · rename_i d ed
        obtain ⟨F2, g2, _, sp⟩ := RR.sup x.bs g r1 ed
        split at q
        · rename_i ds es'
          obtain ⟨⟨c1, c2, c3⟩, q⟩ := q
          unfold seqOf at es'
          split at es'
          · cases es'
            obtain ⟨p1, ws, rfl, h1, d1⟩ := sp.lst
            refine ⟨F2, p1, ws, ds, rfl, .inl h1.sq, d1, c1, c2, c3, fun l ys n dy => ?_⟩
            obtain ⟨g3, r3⟩ := RR.newl x.bs g2 dy n
            exact q F2 _ _ g3 r3
          · cases es'
            obtain ⟨p1, ws, rfl, h1, d1⟩ := sp.tup
            refine ⟨F2, p1, ws, ds, rfl, .inr h1, d1, c1, c2, c3, fun l ys n dy => ?_⟩
            obtain ⟨g3, r3⟩ := RR.newl x.bs g2 dy n
            exact q F2 _ _ g3 r3
          · cases es'
        · exact q.elim
      · exact q.elim
  · exact q.elim
/-! ### repr -/
/-- the text is not too long -/
def sShow (d : D) : Prop := d.showable = true ∧ d.depth ≤ 60 ∧ d.shown.length ≤ sizeLine
def rRepr (K : PySem.W.Frag) : List V → Hp → VK → Prop := fun xs H Q => ∃ x d, xs = [x] ∧ Dq K Any H x d ∧ sShow d ∧ Q (.str d.shown) H
theorem call_reprQ (hu : X.A.units + 64 < cLine) (hg : X.A.guards = some []) : CallR X (.builtin "repr") (rRepr X.K) := by
  intro pins s σ H xs us Q I r h
  obtain ⟨x, d, rfl, dq, ⟨s1, s2, s3⟩, q⟩ := h
  cases r with
  | cons r1 r2 =>
    cases r2
    obtain ⟨as, rd⟩ := Dq.reads I d x _ dq r1
    have nd := Dq.noDict d x dq
    have isRef : ∀ a, x = .ref a → wpAny (model X.prog X.w) X.A (call (.builtin "repr") [.ref a]) (EP X pins σ Q) X.xe s := fun a e => by
      subst e
      cases r1
      exact PySem.repr_of_reads' rd s1 (fun z => by rw [nd] at z; cases z) hg (by omega) (fun _ _ z => z) (fun h' u tk kp => ⟨.str d.shown, H, I.kept kp, ⟨_, rfl⟩, q⟩) s3
    cases dq with
    | non => cases r1; exact PySem.P.repr_of_none ⟨.str _, H, I.tok _, ⟨_, rfl⟩, by rw [PyData.shown] at q; exact q⟩
    | bl b => cases r1; exact PySem.P.repr_of_bool ⟨.str _, H, I.tok _, ⟨_, rfl⟩, by rw [PyData.shown] at q; exact q⟩
    | int i =>
      obtain ⟨t, rfl⟩ := r1
      rw [PyData.showable] at s1
      exact PySem.P.repr_of_int (of_decide_eq_true s1) ⟨.str _, H, I.tok _, ⟨_, rfl⟩, by rw [PyData.shown] at q; exact q⟩
    | str z =>
      obtain ⟨t, rfl⟩ := r1
      rw [PyData.shown] at s3
      exact PySem.P.repr_of_str ⟨.str _, H, I.tok _, ⟨_, rfl⟩, by rw [PyData.shown] at q; exact q⟩ s3
    | lst h1 h2 => cases r1; exact isRef _ rfl
    | tup h1 h2 => cases r1; exact isRef _ rfl
def fRepr : R → (R → Prop) → Prop := fun x Q => match x.rd with
  | some d => sShow d ∧ Q (.val (.sh (.str d.shown)))
  | none => False
theorem lk_repr {K : PySem.W.Frag} : LkR1 C K (fun v H Q => rRepr K [v] H Q) fRepr := by
  refine ⟨fun x Q Q' m q => ?_, fun F0 H0 F H v x Q Q' b0 g rx q k => ?_⟩
  · unfold fRepr at q ⊢
    split at q
    · exact ⟨q.1, m _ q.2⟩
    · exact q
  · unfold fRepr at q
    split at q
    · rename_i d e
      exact ⟨v, d, rfl, (RR.rd g.ok (fun a n => b0.nzn n) rx e).anyG, q.1, k _ _ F H g (.sh (.str _)) q.2⟩
    · exact q.elim
theorem d_repr (hu : X.A.units + 64 < cLine) (hgu : X.A.guards = some []) (ha : PDL C X [a] t) (hm : X.mg "repr" = none) (hg : Gl X "repr" := by rfl)
    (he : starEach [a] X.env = (false, eval a X.env) :: starEach [] X.env := by rfl) (hpl : (backTo pos (starEach [] X.env)).any (·.1) = false := by rfl) : PD C X (.Call (.Name "repr" p) [a] [] pos) (dCB (on1 fRepr) t) :=
  d_callB (call_reprQ hu hgu) (lk_1 lk_repr) hg hm (by decide +kernel) ha (by decide) (by decide) he hpl
end
end DL
set_option Elab.async false
set_option linter.all false
set_option maxRecDepth 100000
set_option maxHeartbeats 1000000
namespace DL
open PySem PySem.Spec L2
open PyProof.Rows hiding St
/-! ### slices -/
abbrev DO := DE → (Option Int → Prop) → Prop
structure PDO (X : Cx) (C : Zn) (e : Option Expr) (t : DO) : Prop where
  mono : Mono t
  run : PO X e (fun σ H Q => ∃ δ F, At0 X.K C F H σ δ ∧ t δ fun r => ∀ F' H', Go C F H F' H' → Q r H')
def dNoPart : DO := fun _ Q => Q none
def dPart (t : DT) : DO := fun δ Q => t δ fun r => onI r fun i => Q (some i)
section
variable {C : Zn} {X : Cx} {e : Expr} {te : DT} {lo hi : Option Expr} {tl th : DO} {pos p2 : Pos}
theorem o_none : PDO X C none dNoPart := ⟨fun δ Q Q' m q => m _ q, ⟨fun pins s σ H Q I q => po_none.run pins s σ H Q I (by
  obtain ⟨δ, F, x, q⟩ := q
  exact q F H (.refl x.bs))⟩⟩
theorem o_some (h : PD C X e te) : PDO X C (some e) (dPart te) := ⟨fun δ Q Q' m q => h.mono δ _ _ (fun r q => onI_mono (fun i q => m _ q) q) q, ⟨fun pins s σ H Q I q => (po_some h.run).run pins s σ H Q I (by
  obtain ⟨δ, F, x, q⟩ := q
  refine ⟨δ, F, x, h.mono δ _ _ (fun r q F' H' v g rr => ?_) q⟩
  obtain ⟨i, rfl, q⟩ := onI_to rr q
  exact ⟨i, rfl, q F' H' g⟩)⟩⟩
/-- the items of a slice -/
def cutD (xs : List D) (lo hi : Option Int) : List D := (xs.drop (HT.sIx xs.length 0 lo)).take (HT.sIx xs.length xs.length hi - HT.sIx xs.length 0 lo)
theorem DqAll.cut {K : PySem.W.Frag} {F : Addr → Prop} {H : Hp} {vs : List V} {ds : List D} (h : DqAll K F H vs ds) (lo hi : Option Int) : DqAll K F H (cutV vs lo hi) (cutD ds lo hi) := by
  unfold cutV cutD
  rw [h.length]
  exact (h.drop _).take _
def fSl (x : R) (lo hi : Option Int) (Q : R → Prop) : Prop := match x.sup with
  | some (.tuple ds) => Q (.val (.sh (.tuple (cutD ds lo hi))))
  | some (.list ds) => Q (.val (.own ((cutD ds lo hi).map DV.sh)))
  | _ => False
def dSlice (t : DT) (tl th : DO) : DT := fun δ Q => t δ fun x => tl δ fun lo => th δ fun hi => fSl x lo hi Q
theorem fSl_mono {x : R} {lo hi : Option Int} {Q Q' : R → Prop} (m : ∀ r, Q r → Q' r) (q : fSl x lo hi Q) : fSl x lo hi Q' := by
  unfold fSl at q ⊢
  split at q
  · exact m _ q
  · exact m _ q
  · exact q
theorem d_slice (h : PD C X e te) (hl : PDO X C lo tl) (hh : PDO X C hi th) : PD C X (.Subscript e (.Slice lo hi none p2) pos) (dSlice te tl th) := by
  refine ⟨fun δ Q Q' m q => h.mono δ _ _ (fun x q => hl.mono δ _ _ (fun l q => hh.mono δ _ _ (fun u q => fSl_mono m q) q) q) q, (pe_slice (sl_list.or sl_tupA) h.run hl.run hh.run).imp fun σ H Q q => ?_⟩
  obtain ⟨δ, F, x, q⟩ := q
  refine ⟨δ, F, x, h.mono δ _ _ (fun r q F1 H1 v g1 rr => ⟨δ, F1, x.go g1, hl.mono δ _ _ (fun l q F2 H2 g2 => ⟨δ, F2, (x.go g1).go g2, hh.mono δ _ _ (fun u q F3 H3 g3 => ?_) q⟩) q⟩) q⟩
  have g := g2.trans g1.ok g3
  have gg := g1.trans x.bs g
  have rr3 := rr.go g1.ok (fun a n => x.bs.nzn n) g
  unfold fSl at q
  split at q
  · rename_i ds e1
    obtain ⟨F4, g4, _, s⟩ := RR.sup x.bs gg rr3 e1
    obtain ⟨a, vs, rfl, h1, d1⟩ := s.tup
    refine .inr ⟨a, vs, rfl, h1, fun w => ?_, fun _ p n => ?_⟩
    · have e : cutD ds l u = ds := by
        unfold cutD
        rw [← d1.length, w.1, w.2, List.drop_zero, Nat.sub_zero, d1.length, List.take_length]
      rw [e] at q
      exact q F4 H3 _ g4 (.sh (.tup h1 d1))
    · obtain ⟨g5, r5⟩ := RR.newt x.bs g4 (d1.cut l u) n
      exact q F4 _ _ g5 r5
  · rename_i ds e1
    obtain ⟨F4, g4, _, s⟩ := RR.sup x.bs gg rr3 e1
    obtain ⟨a, vs, rfl, h1, d1⟩ := s.lst
    refine .inl ⟨a, vs, rfl, h1.sq, fun p n => ?_⟩
    obtain ⟨g5, r5⟩ := RR.newl x.bs g4 (d1.cut l u) n
    exact q F4 _ _ g5 r5
  · exact q.elim
theorem tail1 (p : Pos) (d : D) (ds : List D) : cutD (d :: ds) (some 1) none = ds := by
  unfold cutD HT.sIx
  simp
end
/-! ### zip of two tuples, of two lists -/
section
variable {C : Zn} {X : Cx} {tg : Expr} {e a b : Expr} {es : List Expr} {pos p tpos : Pos} {t : DL'} {te : DT}
def zipD : List D → List D → List D
  | x :: xs, y :: ys => .tuple [x, y] :: zipD xs ys
  | _, _ => []
theorem zipD_get : ∀ (xs ys : List D) (i : Nat) (d : D), (zipD xs ys)[i]? = some d → ∃ x y, xs[i]? = some x ∧ ys[i]? = some y ∧ d = .tuple [x, y]
  | [], _, _, _, h => by simp [zipD] at h
  | _ :: _, [], _, _, h => by simp [zipD] at h
  | x :: xs, y :: ys, 0, d, h => by
    rw [zipD, List.getElem?_cons_zero] at h
    exact ⟨x, y, rfl, rfl, (Option.some.inj h).symm⟩
  | x :: xs, y :: ys, i + 1, d, h => by
    rw [zipD, List.getElem?_cons_succ] at h
    obtain ⟨u, w, h1, h2, h3⟩ := zipD_get xs ys i d h
    exact ⟨u, w, by simpa using h1, by simpa using h2, h3⟩
theorem zipD_len : ∀ xs ys : List D, (zipD xs ys).length = min xs.length ys.length
  | [], ys => by simp [zipD]
  | _ :: _, [] => by simp [zipD]
  | x :: xs, y :: ys => by rw [zipD, List.length_cons, zipD_len xs ys, List.length_cons, List.length_cons]; omega
theorem ir_zipT {K : PySem.W.Frag} {P : (Addr → Prop) → Hp → Prop} {a b : Addr} {ds es : List D} (h1 : ∀ F H, Bs C F H → P F H → ∃ vs, SqT K H a vs ∧ DqAll K F H vs ds) (h2 : ∀ F H, Bs C F H → P F H → ∃ vs, SqT K H b vs ∧ DqAll K F H vs es) : IR C K P (RZ.ItzT K a b) (zipD ds es) := by
  refine ⟨fun F H bs pp i d e => ?_, fun F H bs pp => ?_⟩
  · obtain ⟨vs, u1, u2⟩ := h1 F H bs pp
    obtain ⟨ws, w1, w2⟩ := h2 F H bs pp
    obtain ⟨x, y, e1, e2, rfl⟩ := zipD_get _ _ _ _ e
    obtain ⟨v, z1, z2⟩ := u2.get e1
    obtain ⟨w, z3, z4⟩ := w2.get e2
    refine ⟨⟨vs, ws, v, w, u1, w1, z1, z3⟩, fun x' H' yy => ?_⟩
    obtain ⟨T, x0, y0, rfl, hT, rfl, q1, q2⟩ := yy
    have := q1 vs u1
    rw [z1] at this; cases this
    have := q2 ws w1
    rw [z3] at this; cases this
    have g := Go.laid (o := .tup [v, w]) bs hT
    exact ⟨F, g, .tup (.inl (.inl upd_same)) (DqAll.mono (g.keep bs) _ _ (.cons z2 (.cons z4 .nil)))⟩
  · obtain ⟨vs, u1, u2⟩ := h1 F H bs pp
    obtain ⟨ws, w1, w2⟩ := h2 F H bs pp
    refine ⟨vs, ws, u1, w1, ?_⟩
    rw [u2.length, w2.length, zipD_len]
    omega
theorem ir_zipL {K : PySem.W.Frag} {P : (Addr → Prop) → Hp → Prop} {a b : Addr} {ds es : List D} (h1 : ∀ F H, Bs C F H → P F H → ∃ vs, SqL K H a vs ∧ DqAll K F H vs ds) (h2 : ∀ F H, Bs C F H → P F H → ∃ vs, SqL K H b vs ∧ DqAll K F H vs es) : IR C K P (Itz K a b) (zipD ds es) := by
  refine ⟨fun F H bs pp i d e => ?_, fun F H bs pp => ?_⟩
  · obtain ⟨vs, u1, u2⟩ := h1 F H bs pp
    obtain ⟨ws, w1, w2⟩ := h2 F H bs pp
    obtain ⟨x, y, e1, e2, rfl⟩ := zipD_get _ _ _ _ e
    obtain ⟨v, z1, z2⟩ := u2.get e1
    obtain ⟨w, z3, z4⟩ := w2.get e2
    refine ⟨⟨vs, ws, v, w, u1, w1, z1, z3⟩, fun x' H' yy => ?_⟩
    obtain ⟨T, x0, y0, rfl, hT, rfl, q1, q2⟩ := yy
    have := q1 vs u1
    rw [z1] at this; cases this
    have := q2 ws w1
    rw [z3] at this; cases this
    have g := Go.laid (o := .tup [v, w]) bs hT
    exact ⟨F, g, .tup (.inl (.inl upd_same)) (DqAll.mono (g.keep bs) _ _ (.cons z2 (.cons z4 .nil)))⟩
  · obtain ⟨vs, u1, u2⟩ := h1 F H bs pp
    obtain ⟨ws, w1, w2⟩ := h2 F H bs pp
    refine ⟨vs, ws, u1, w1, ?_⟩
    rw [u2.length, w2.length, zipD_len]
    omega
/-- zip(e1, e2): k as with PDI -/
def dZip (k : Bool) (t : DL') : DI := fun δ Q => t δ fun rs => match rs with
  | [x, y] => (match (if k then x.fd else x.sup), (if k then y.fd else y.sup) with
    | some (.tuple ds), some (.tuple es) => Q (zipD ds es)
    | some (.list ds), some (.list es) => Q (zipD ds es)
    | _, _ => False)
  | _ => False
theorem Sup.ofFd {K : PySem.W.Frag} {F0 F F' : Addr → Prop} {H0 H : Hp} {v w : V} {x y : R} {d e : D} (b0 : Bs C F0 H0) (g : Go C F0 H0 F H) (hx : RR K C F H0 H v x) (hy : RR K C F H0 H w y) (ex : x.fd = some d) (ey : y.fd = some e) : ∃ F', Go C F0 H0 F' H ∧ Dq K F' H v d ∧ Dq K F' H w e := by
  obtain ⟨F1, g1, k1, s1⟩ := RR.fd b0 g hx ex
  obtain ⟨F2, g2, k2, s2⟩ := RR.fd b0 g hy ey
  exact ⟨_, g1.join g2, Dq.mono (.weak fun a m => .inl m) _ _ s1, Dq.mono (.weak fun a m => .inr m) _ _ s2⟩
theorem i_zip {k : Bool} {elts : List Expr} {kk : Nat} (ha : PDL C X [a, b] t) (hm : X.mg "zip" = none) (hg : Gl X "zip" := by rfl)
    (hs : starEach [a, b] X.env = (false, eval a X.env) :: starEach [b] X.env := by rfl) (hpl : (backTo pos (starEach [b] X.env)).any (·.1) = false := by rfl) :
    PDI C X k (.Tuple elts kk tpos) (.Call (.Name "zip" p) [a, b] [] pos) (dZip k t) := by
  refine ⟨fun δ Q Q' m q => ha.mono δ _ _ (fun rs q => ?_) q, (RZ.pi_zipA hg hm ha.run hs hpl).imp fun σ H R q => ?_⟩
  · split at q
    · split at q
      · exact m _ q
      · exact m _ q
      · exact q
    · exact q
  · obtain ⟨δ, F, x, q⟩ := q
    refine ⟨δ, F, x, ha.mono δ _ _ (fun rs q F1 H1 vs g rrs => ?_) q⟩
    split at q
    · rename_i r1 r2
      have hl := rrs.length
      match vs, hl with
      | [v, w], _ =>
        obtain ⟨v', e1, q1⟩ := rrs.at (i := 0) rfl
        obtain ⟨w', e2, q2⟩ := rrs.at (i := 1) rfl
        cases e1
        cases e2
        cases k with
        | true =>
          simp only [if_true] at q
          split at q
          · rename_i ds es e1 e2
            obtain ⟨F2, g2, s1, s2⟩ := Sup.ofFd (F' := F1) x.bs g q1 q2 e1 e2
            cases s1 with
            | tup a1 a2 => cases s2 with
              | tup b1 b2 => exact ⟨_, _, _, _, rfl, .inr ⟨a1, b1, q F2 H1 _ g2 (ir_zipT (fun F H b p => ⟨_, Keep.sqT p a1, DqAll.mono p _ _ a2⟩) fun F H b p => ⟨_, Keep.sqT p b1, DqAll.mono p _ _ b2⟩)⟩⟩
          · rename_i ds es e1 e2
            obtain ⟨F2, g2, s1, s2⟩ := Sup.ofFd (F' := F1) x.bs g q1 q2 e1 e2
            cases s1 with
            | lst a1 a2 => cases s2 with
              | lst b1 b2 => exact ⟨_, _, _, _, rfl, .inl ⟨a1.sq, b1.sq, q F2 H1 _ g2 (ir_zipL (fun F H b p => ⟨_, (Keep.lstAt p a1).sq, DqAll.mono p _ _ a2⟩) fun F H b p => ⟨_, (Keep.lstAt p b1).sq, DqAll.mono p _ _ b2⟩)⟩⟩
          · exact q.elim
        | false =>
          simp only [Bool.false_eq_true, if_false] at q
          split at q
          · rename_i ds es e1 e2
            obtain ⟨F2, g2, s1, s2⟩ := sup2 x.bs g q1 q2 e1 e2
            obtain ⟨a, us, rfl, a1, a2⟩ := s1.tup
            obtain ⟨b, ws, rfl, b1, b2⟩ := s2.tup
            refine ⟨_, _, _, _, rfl, .inr ⟨a1, b1, q F2 H1 _ g2 (ir_zipT (fun F H b p => ?_) fun F H b p => ?_)⟩⟩
            · have p : Go C F2 H1 F H := p
              exact ⟨_, Keep.sqT (p.keep g2.ok) a1, DqAll.mono (p.keep g2.ok) _ _ a2⟩
            · have p : Go C F2 H1 F H := p
              exact ⟨_, Keep.sqT (p.keep g2.ok) b1, DqAll.mono (p.keep g2.ok) _ _ b2⟩
          · rename_i ds es e1 e2
            obtain ⟨F2, g2, s1, s2⟩ := sup2 x.bs g q1 q2 e1 e2
            obtain ⟨a, us, rfl, a1, a2⟩ := s1.lst
            obtain ⟨b, ws, rfl, b1, b2⟩ := s2.lst
            refine ⟨_, _, _, _, rfl, .inl ⟨a1.sq, b1.sq, q F2 H1 _ g2 (ir_zipL (fun F H b p => ?_) fun F H b p => ?_)⟩⟩
            · have p : Go C F2 H1 F H := p
              exact ⟨_, (Keep.lstAt (p.keepZ g2.ok) a1).sq, DqAll.mono (p.keep g2.ok) _ _ a2⟩
            · have p : Go C F2 H1 F H := p
              exact ⟨_, (Keep.lstAt (p.keepZ g2.ok) b1).sq, DqAll.mono (p.keep g2.ok) _ _ b2⟩
          · exact q.elim
    · exact q.elim
end
/-! ### min, max of a tuple of whole numbers -/
def numsOf : List D → Option (List Int)
  | [] => some []
  | .int b :: ds => (numsOf ds).map (b :: ·)
  | _ => none
theorem numsOf_map : ∀ bs : List Int, numsOf (bs.map PyData.int) = some bs
  | [] => rfl
  | b :: bs => by rw [List.map_cons, numsOf, numsOf_map bs]; rfl
theorem numsOf_eq : ∀ {ds : List D} {bs : List Int}, numsOf ds = some bs → ds = bs.map PyData.int
  | [], _, h => by cases h; rfl
  | .int b :: ds, bs, h => by
    rw [numsOf] at h
    obtain ⟨cs, e1, e2⟩ := Option.map_eq_some_iff.mp h
    subst e2
    rw [numsOf_eq e1]; rfl
  | .none :: _, _, h => by cases h
  | .bool _ :: _, _, h => by cases h
  | .str _ :: _, _, h => by cases h
  | .list _ :: _, _, h => by cases h
  | .tuple _ :: _, _, h => by cases h
  | .dict _ :: _, _, h => by cases h
def fMinT (g : Int → List Int → Int) : R → (R → Prop) → Prop := fun x Q => match x.rd with
  | some (.tuple ds) => (match numsOf ds with
    | some (n :: ns) => Q (.val (.sh (.int (g n ns))))
    | _ => False)
  | _ => False
section
variable {C : Zn} {X : Cx} {o e : Expr} {es : List Expr} {apos cpos : Pos} {to : TE} {t : TA} {te : DT}
/-- x.index(e), x a tuple of whole numbers whose object is known -/
def dIndex (i : Nat) (te : DT) : DT := fun δ Q => match δ[i]? with
  | some (some (.kt ds)) => (match numsOf ds with
    | some ns => te δ fun r => onI r fun n => n ∈ ns ∧ Q (.val (.sh (.int (ns.idxOf n : Nat))))
    | none => False)
  | _ => False
end
end DL
set_option Elab.async false
set_option linter.all false
set_option maxRecDepth 100000
set_option maxHeartbeats 1000000
namespace DL
open PySem PySem.Spec L2
open PyProof.Rows hiding St
/-! ### comprehensions with two clauses -/
def lcRun2 (pat : DP) (tst : DB) (it1 : DI) (pat1 : DP) (tst1 : DB) (elt : DT) (vs1 : List Nat) (δ : DE) : List D → List DV → (List DV → Prop) → Prop
  | [], acc, Q => Q acc
  | d :: ds, acc, Q => pat d δ fun δ' => tst δ' fun k => if k = true then
      it1 δ' fun es => lcRun pat1 tst1 elt (wipeD δ' vs1) es acc fun acc' => lcRun2 pat tst it1 pat1 tst1 elt vs1 δ ds acc' Q
    else lcRun2 pat tst it1 pat1 tst1 elt vs1 δ ds acc Q
def dLc2 (it : DI) (pat : DP) (tst : DB) (it1 : DI) (pat1 : DP) (tst1 : DB) (elt : DT) (vs vs1 : List Nat) : DT := fun δ Q => it δ fun ds => lcRun2 pat tst it1 pat1 tst1 elt vs1 (wipeD δ vs) ds [] fun acc => Q (.val (.own acc))
theorem mono_lcRun2 {pat pat1 : DP} {tst tst1 : DB} {it1 : DI} {elt : DT} {vs1 : List Nat} (hp : ∀ d, Mono (pat d)) (ht : Mono tst) (hi : Mono it1) (hp1 : ∀ d, Mono (pat1 d)) (ht1 : Mono tst1) (he : Mono elt) (δ : DE) {Q Q' : List DV → Prop} (m : ∀ a, Q a → Q' a) : ∀ (ds : List D) (acc : List DV), lcRun2 pat tst it1 pat1 tst1 elt vs1 δ ds acc Q → lcRun2 pat tst it1 pat1 tst1 elt vs1 δ ds acc Q'
  | [], acc, q => m _ q
  | d :: ds, acc, q => hp d δ _ _ (fun δ' q => ht δ' _ _ (fun k q => by
    cases k with
    | false => exact mono_lcRun2 hp ht hi hp1 ht1 he δ m ds acc q
    | true => exact hi δ' _ _ (fun es q => mono_lcRun hp1 ht1 he _ (fun acc' q => mono_lcRun2 hp ht hi hp1 ht1 he δ m ds acc' q) es acc q) q) q) q
section
variable {C : Zn} {X : Cx}
/-- the names as the data says, p not theirs -/
def AtP (K : PySem.W.Frag) (C : Zn) (p : Addr) (F : Addr → Prop) (H : Hp) (σ : St) (δ : DE) : Prop := ∃ as, Envs K C F H σ δ as ∧ as.Nodup ∧ (∀ a ∈ as, ¬ F a ∧ ¬ C.Z a) ∧ p ∉ as ∧ Bs C F H
section
variable {K : PySem.W.Frag} {p : Addr} {F F' : Addr → Prop} {H H' : Hp} {σ σ' : St} {δ δ' : DE}
theorem AtP.at0 (x : AtP K C p F H σ δ) : At0 K C F H σ δ := by
  obtain ⟨as, e, nd, o, _, b⟩ := x
  exact ⟨as, e, nd, o, b⟩
theorem AtP.bs (x : AtP K C p F H σ δ) : Bs C F H := x.at0.bs
theorem AtP.of (x : At0 K C F H σ δ) (n : H p = none) : AtP K C p F H σ δ := by
  obtain ⟨as, e, nd, o, b⟩ := x
  refine ⟨as, e, nd, o, fun m => ?_, b⟩
  obtain ⟨u, q, _⟩ := e.there p m
  rw [n] at q; cases q
theorem AtP.go (x : AtP K C p F H σ δ) (g : Go C F H F' H') : AtP K C p F' H' σ δ := by
  obtain ⟨as, e, nd, o, np, b⟩ := x
  obtain ⟨s, o'⟩ := g.own b e.there o
  exact ⟨as, e.mono (g.keep b) s, nd, o', np, g.ok⟩
theorem AtP.wipe (x : AtP K C p F H σ δ) (vs : List Nat) : AtP K C p F H (wipe σ vs) (wipeD δ vs) := by
  obtain ⟨as, e, nd, o, np, b⟩ := x
  obtain ⟨as', e', s⟩ := e.wipe vs
  exact ⟨as', e', nd.sublist s, fun a m => o a (s.subset m), fun m => np (s.subset m), b⟩
theorem AtP.rst (x : AtP K C p F H σ δ) (r : Rst K C F H σ δ σ' δ') : AtP K C p F H σ' δ' := by
  obtain ⟨as, e, nd, o, np, b⟩ := x
  obtain ⟨as', e', s⟩ := r as e
  exact ⟨as', e', nd.sublist s, fun a m => o a (s.subset m), fun m => np (s.subset m), b⟩
theorem AtP.put {o : HO} (x : AtP K C p F H σ δ) (m : Mut (H p)) (nf : ¬ F p) (b : Bs C F (upd H p o)) : AtP K C p F (upd H p o) σ δ := by
  obtain ⟨as, e, nd, oo, np, _⟩ := x
  exact ⟨as, e.mono (.put m nf) fun a mm => upd_ne fun z => np (z ▸ mm), nd, oo, np, b⟩
end
/-- more items: all but the list itself is kept -/
theorem Acc.push' {K : PySem.W.Frag} {F1 F F' : Addr → Prop} {H1 H H' : Hp} {p : Addr} {acc : List DV} {v : V} {dv : DV} (b1 : Bs C F1 H1) (n1 : H1 p = none) (h : Acc K C F1 H1 p acc F H) (g : Go C F H F' H') (rr : RR K C F' H H' v (.val dv)) :
    ∃ vs, H' p = some (.lst vs) ∧ vs.length = acc.length ∧ Acc K C F1 H1 p (acc ++ [dv]) F' (upd H' p (.lst (vs ++ [v]))) ∧ Keep F H F' (upd H' p (.lst (vs ++ [v]))) := by
  obtain ⟨vs, e1, e2, A⟩ := h.push b1 n1 g rr
  refine ⟨vs, e1, e2, A, (g.keep h.go.ok).trans (.put (by rw [e1]; trivial) A.nf)⟩
theorem lc2_to {K : PySem.W.Frag} {vs vs1 is is1 : List Nat} {it it1 : DI} {pat pat1 : DP} {tst tst1 : DB} {te : DT} (iim : Mono it) (gm : ∀ d, Mono (pat d)) (tm : Mono tst) (im : Mono it1) (gm1 : ∀ d, Mono (pat1 d)) (tm1 : Mono tst1) (em : Mono te) (his : ∀ i ∈ is, i ∈ vs) (his1 : ∀ i ∈ is1, i ∈ vs1) {σ : St} {H : Hp} {Q : VK} (q : lift C K (dLc2 it pat tst it1 pat1 tst1 te vs vs1) σ H Q) :
    tLc2 (liftI C K false it) (liftG C K is pat) (liftB C K tst) (liftI C K true it1) (liftG C K is1 pat1) (liftB C K tst1) (lift C K te) vs vs1 σ H Q := by
  obtain ⟨δ, F, x, q⟩ := q
  refine ⟨δ, F, x, iim δ _ _ (fun ds q F1 H1 J g ir => ?_) q⟩
  intro p n
  have x1 := x.go g
  have b1 := g.ok
  refine ⟨fun i m H' => m = ds.length - i ∧ i ≤ ds.length ∧ ∃ F' acc, Acc K C F1 H1 p acc F' H' ∧ lcRun2 pat tst it1 pat1 tst1 te vs1 (wipeD δ vs) (ds.drop i) acc _, ⟨ds.length, by simp, Nat.zero_le _, F1, [], Acc.start b1 n, q⟩, ?_⟩
  rintro i m H' ⟨rfl, hi', F', acc, A, q⟩
  by_cases hlt : i < ds.length
  · have ed : ds[i]? = some ds[i] := List.getElem?_eq_getElem hlt
    have gP : Go C F1 H1 F' H' := A.go
    obtain ⟨go, yl⟩ := ir.item F' H' gP.ok gP i _ ed
    refine .inr ⟨go, fun H'' => ∃ F'' acc', Acc K C F1 H1 p acc' F'' H'' ∧ lcRun2 pat tst it1 pat1 tst1 te vs1 (wipeD δ vs) (ds.drop (i + 1)) acc' _, fun H'' ⟨F'', acc', A', q'⟩ => ⟨ds.length - (i + 1), by omega, rfl, hlt, F'', acc', A', q'⟩, fun y H'' yy => ?_⟩
    obtain ⟨F2, g2, dq⟩ := yl y H'' yy
    have A2 := A.step b1 n g2
    rw [List.drop_eq_getElem_cons hlt] at q
    have x2 : AtP K C p F2 H'' (wipe σ vs) (wipeD δ vs) := ((AtP.of x1 n).go A2.go).wipe _
    refine ⟨_, F2, ds[i], x2.at0, dq, gm _ _ _ _ (fun δ' q σ' k w => ⟨(w _ his).trans (wipe_sub σ _ fun _ m => m), ?_⟩) q⟩
    refine ⟨δ', F2, (x2.rst k).at0, tm δ' _ _ (fun kk q F3 H3 g3 => ?_) q⟩
    have A3 := A2.step b1 n g3
    have x3 := (x2.rst k).go g3
    cases kk with
    | false => exact ⟨F3, acc, A3, q⟩
    | true =>
      refine ⟨δ', F3, x3.at0, im δ' _ _ (fun es q F4 H4 J1 g4 ir1 => ?_) q⟩
      have A4 := A3.step b1 n g4
      have x4 := x3.go g4
      -- the inner turns
      refine ⟨fun j m H5 => m = es.length - j ∧ j ≤ es.length ∧ ∃ F5 acc5, Acc K C F1 H1 p acc5 F5 H5 ∧ Keep F4 H4 F5 H5 ∧ AtP K C p F5 H5 σ' δ' ∧ lcRun pat1 tst1 te (wipeD δ' vs1) (es.drop j) acc5 _, ⟨es.length, by simp, Nat.zero_le _, F4, acc, A4, .refl, x4, q⟩, ?_⟩
      rintro j m H5 ⟨rfl, hj', F5, acc5, A5, k5, x5, q⟩
      by_cases hjt : j < es.length
      · have ej : es[j]? = some es[j] := List.getElem?_eq_getElem hjt
        obtain ⟨go1, yl1⟩ := ir1.item F5 H5 x5.bs k5 j _ ej
        refine .inr ⟨go1, fun H6 => ∃ F6 acc6, Acc K C F1 H1 p acc6 F6 H6 ∧ Keep F4 H4 F6 H6 ∧ AtP K C p F6 H6 σ' δ' ∧ lcRun pat1 tst1 te (wipeD δ' vs1) (es.drop (j + 1)) acc6 _, fun H6 ⟨F6, acc6, A6, k6, x6, q6⟩ => ⟨es.length - (j + 1), by omega, rfl, hjt, F6, acc6, A6, k6, x6, q6⟩, fun y1 H6 yy1 => ?_⟩
        obtain ⟨F6, g6, dq1⟩ := yl1 y1 H6 yy1
        have A6 := A5.step b1 n g6
        have k6 := k5.trans (g6.keep x5.bs)
        have x6 := x5.go g6
        rw [List.drop_eq_getElem_cons hjt] at q
        have x6w := x6.wipe vs1
        refine ⟨_, F6, es[j], x6w.at0, dq1, gm1 _ _ _ _ (fun δ7 q σ7 r7 w7 => ⟨(w7 _ his1).trans (wipe_sub σ' _ fun _ m => m), ?_⟩) q⟩
        refine ⟨δ7, F6, r7.at0 x6w.at0, tm1 δ7 _ _ (fun kk q F7 H7 g7 => ?_) q⟩
        have A7 := A6.step b1 n g7
        have k7 := k6.trans (g7.keep x6.bs)
        have x7 := x6.go g7
        cases kk with
        | false => exact ⟨F7, acc5, A7, k7, x7, q⟩
        | true =>
          refine ⟨δ7, F7, (r7.at0 x6w.at0).go g7, em δ7 _ _ (fun r q F8 H8 v g8 rr => ?_) q⟩
          split at q
          · rename_i dv e
            obtain ⟨vs, e1, e2, A8, k8⟩ := A7.push' b1 n g8 (rr.fx g8.ok e)
            refine ⟨vs, e1, by rw [e2]; exact q.1, F8, _, A8, k7.trans k8, ?_, q.2⟩
            exact (x7.go g8).put (by rw [e1]; trivial) A8.nf A8.go.ok
          · exact q.elim
      · have e : j = es.length := by omega
        subst e
        rw [List.drop_length] at q
        exact .inl ⟨ir1.stop F5 H5 x5.bs k5, F5, acc5, A5, q⟩
  · have e : i = ds.length := by omega
    subst e
    refine .inl ⟨ir.stop F' H' A.go.ok A.go, ?_⟩
    rw [List.drop_length] at q
    have gg := g.trans x.bs A.go
    have rr := A.rr n
    exact q F' H' _ gg (rr.older x.bs g)
end
end DL
set_option Elab.async false
set_option linter.all false
set_option maxRecDepth 100000
set_option maxHeartbeats 1000000
namespace DL
open PySem PySem.Spec L2
open PyProof.Rows hiding St
open PySem.W (alike dataLt dataLe AllAlike Sortable EachIs)
def putT (ks : List TKey) (k : List Key) (b : Addr) : List TKey := if ks.any (fun q => decide (q.1 = k)) then ks else ks ++ [(k, b)]
/-- the keys' tuples stand -/
def KeysIn (K : PySem.W.Frag) (H : Hp) (ks : List TKey) : Prop := (∀ q ∈ ks, SqT K H q.2 (q.1.map kV)) ∧ (ks.map (·.1)).Nodup
theorem putT_nodup {ks : List TKey} (h : (ks.map (·.1)).Nodup) (k : List Key) (b : Addr) : ((putT ks k b).map (·.1)).Nodup := by
  unfold putT
  split
  · exact h
  · rename_i n
    rw [List.map_append, List.nodup_append]
    refine ⟨h, by simp, fun x hx y hy e => n ?_⟩
    simp at hy
    obtain ⟨q, m, e2⟩ := List.mem_map.mp hx
    exact List.any_eq_true.mpr ⟨q, m, by simp [e2, e, hy]⟩
/-! ### the comprehension {k: v for target in iter if ..} -/
/-! ### sorted(d) -/
def keyD : Key → D
  | .inl i => .int i
  | .inr x => .str x
def tupD (k : List Key) : D := .tuple (k.map keyD)
/-! ### sorted({k: v for ..}) by data -/
def keysOf : List D → Option (List Key)
  | [] => some []
  | .int i :: ds => (keysOf ds).map (.inl i :: ·)
  | .str i :: ds => (keysOf ds).map (.inr i :: ·)
  | _ => none
def putL (acc : List (List Key)) (k : List Key) : List (List Key) := if acc.any (fun q => decide (q = k)) then acc else acc ++ [k]
def onKey (r : R) (Q : List Key → Prop) : Prop := match r.fd with
  | some (.tuple es) => (match keysOf es with
    | some k => Q k
    | none => False)
  | _ => False
def dcRun (pat : DP) (tst : DB) (tk tv : DT) (δ : DE) : List D → List (List Key) → (List (List Key) → Prop) → Prop
  | [], acc, Q => Q acc
  | d :: ds, acc, Q => pat d δ fun δ' => tst δ' fun k => if k = true then
      tk δ' fun r => onKey r fun k => tv δ' fun _ => acc.length < sizeLine ∧ dcRun pat tst tk tv δ ds (putL acc k) Q
    else dcRun pat tst tk tv δ ds acc Q
/-- sorted({k: v for ..}) -/
def dSortDC (it : DI) (pat : DP) (tst : DB) (tk tv : DT) (vs : List Nat) : DT := fun δ Q => it δ fun ds => dcRun pat tst tk tv (wipeD δ vs) ds [] fun acc =>
  (AllAlike (acc.map tupD) ∧ Sortable (acc.map tupD) ∧ acc.length ≤ sizeLine) ∧ Q (.val (.own ((sortD (acc.map tupD)).map DV.sh)))
section
variable {C : Zn} {X : Cx} {K : PySem.W.Frag}
structure AccD (P : Program) (w : World) (K : PySem.W.Frag) (C : Zn) (F1 : Addr → Prop) (H1 : Hp) (p : Addr) (acc : List (List Key)) (F : Addr → Prop) (H : Hp) : Prop where
  go : Go C F1 H1 F H
  nf : ¬ F p
  ex : ∃ ks : List TKey, H p = some (HOT P w p ks) ∧ ks.map (·.1) = acc ∧ acc.Nodup ∧ ∀ q ∈ ks, SqT K H q.2 (q.1.map kV)
theorem AccD.step {P : Program} {w : World} {F1 F F' : Addr → Prop} {H1 H H' : Hp} {p : Addr} {acc : List (List Key)} (b1 : Bs C F1 H1) (n1 : H1 p = none) (h : AccD P w K C F1 H1 p acc F H) (g : Go C F H F' H') : AccD P w K C F1 H1 p acc F' H' := by
  obtain ⟨g0, nf, ks, e, e2, nd, hk⟩ := h
  refine ⟨g0.trans b1 g, fun z => ?_, ks, g.same p _ e (b1.nzn n1), e2, nd, fun q m => Keep.sqT (g.keep g0.ok) (hk q m)⟩
  rcases g.new p z with z | z
  · exact nf z
  · rw [e] at z; cases z
theorem putT_fst (ks : List TKey) (k : List Key) (b : Addr) : (putT ks k b).map (·.1) = putL (ks.map (·.1)) k := by
  unfold putT putL
  have : (ks.map (·.1)).any (fun q => decide (q = k)) = ks.any fun q => decide (q.1 = k) := by rw [List.any_map]; rfl
  rw [this]
  split
  · rfl
  · rw [List.map_append]; rfl
theorem putT_mem {ks : List TKey} {k : List Key} {b : Addr} {q : TKey} (m : q ∈ putT ks k b) : q ∈ ks ∨ q = (k, b) := by
  unfold putT at m
  split at m
  · exact .inl m
  · rcases List.mem_append.mp m with m | m
    · exact .inl m
    · exact .inr (List.mem_singleton.mp m)
theorem AccD.push {P : Program} {w : World} {F1 F : Addr → Prop} {H1 H : Hp} {p c : Addr} {acc : List (List Key)} {k : List Key} (b1 : Bs C F1 H1) (n1 : H1 p = none) (h : AccD P w K C F1 H1 p acc F H) (hc : SqT K H c (k.map kV)) (hz : acc.length < sizeLine) :
    ∃ ks, H p = some (HOT P w p ks) ∧ KeysIn K H ks ∧ ks.length < sizeLine ∧ AccD P w K C F1 H1 p (putL acc k) F (upd H p (HOT P w p (putT ks k c))) := by
  obtain ⟨g0, nf, ks, e, e2, nd, hk⟩ := h
  have kp : Keep F H F (upd H p (HOT P w p (putT ks k c))) := .put (by rw [e]; trivial) nf
  refine ⟨ks, e, ⟨hk, by rw [e2]; exact nd⟩, by rw [← e2, List.length_map] at hz; exact hz, g0.put b1 n1, nf, _, upd_same, by rw [putT_fst, e2], ?_, fun q m => ?_⟩
  · rw [← e2, ← putT_fst ks k c]
    exact putT_nodup (by rw [e2]; exact nd) k c
  · rcases putT_mem m with m | rfl
    · exact Keep.sqT kp (hk q m)
    · exact Keep.sqT kp hc
end
end DL
set_option Elab.async false
set_option linter.all false
set_option maxRecDepth 100000
set_option maxHeartbeats 1000000
namespace DL
open PySem PySem.Spec L2
open PyProof.Rows hiding St
/-! ### a, b, .. = x, y, ..: names alone; what is one's own stays so -/
section
variable {K : PySem.W.Frag} {C : Zn} {F0 F F1 F' : Addr → Prop} {H0 H H1 H' : Hp} {σ σ' : St} {δ δ' : DE}
/-- with addresses that are still to be stored -/
def AtX (K : PySem.W.Frag) (C : Zn) (F0 : Addr → Prop) (H0 : Hp) (σ : St) (δ : DE) (F : Addr → Prop) (H : Hp) (rs : List Addr) : Prop := Bs C F0 H0 ∧ Go C F0 H0 F H ∧ ∃ as, Envs K C F H σ δ as ∧ (as ++ rs).Nodup ∧ ∀ a ∈ as ++ rs, ¬ F a ∧ H0 a = none
theorem AtX.end (x : AtX K C F0 H0 σ δ F H []) : At K C F0 H0 σ δ F H := by
  obtain ⟨b, g, as, e, nd, o⟩ := x
  rw [List.append_nil] at nd o
  exact ⟨b, g, as, e, nd, o⟩
theorem AtX.start (x : At K C F0 H0 σ δ F H) (g : Go C F H F' H') {cs : List Addr} (nd : cs.Nodup) (fr : ∀ a ∈ cs, ¬ F' a ∧ H a = none) : AtX K C F0 H0 σ δ F' H' cs := by
  have x' := x.go g
  obtain ⟨b0, gg, as, e, nd0, o⟩ := x
  obtain ⟨s, o'⟩ := g.own gg.ok e.there fun a m => ⟨(o a m).1, b0.nzn (o a m).2⟩
  refine ⟨b0, x'.2.1, as, e.mono (g.keep gg.ok) s, List.nodup_append.mpr ⟨nd0, nd, fun a m b m' q => ?_⟩, fun a m => ?_⟩
  · obtain ⟨u, q', _⟩ := e.there a m
    have := (fr b m').2
    rw [← q, q'] at this; cases this
  · rcases List.mem_append.mp m with m | m
    · exact ⟨(o' a m).1, (o a m).2⟩
    · exact ⟨(fr a m).1, gg.none b0 (fr a m).2⟩
theorem AtX.set {v : V} {dv : DV} {bs rs : List Addr} (x : AtX K C F0 H0 σ δ F H (bs ++ rs)) (r : Rep K C F H v dv bs) {i : Nat} (hi : i < δ.length) : AtX K C F0 H0 (σ.set i (some v)) (δ.set i (some dv)) F H rs := by
  obtain ⟨b, g, as, e, nd, o⟩ := x
  obtain ⟨as', e', cs, p, s⟩ := Envs.set i e r (by rw [e.length]; exact hi)
  obtain ⟨n1, n2, n3⟩ := List.nodup_append.mp nd
  obtain ⟨n4, n5, n6⟩ := List.nodup_append.mp n2
  refine ⟨b, g, as', e', ?_, fun a m => ?_⟩
  · refine List.nodup_append.mpr ⟨(p.nodup_iff).mpr (List.nodup_append.mpr ⟨n4, n1.sublist s, fun a m c m' q => n3 c (s.subset m') a (List.mem_append_left _ m) q.symm⟩), n5, fun a m c m' q => ?_⟩
    rcases List.mem_append.mp (p.mem_iff.mp m) with m | m
    · exact n6 a m c m' q
    · exact n3 a (s.subset m) c (List.mem_append_right _ m') q
  · rcases List.mem_append.mp m with m | m
    · rcases List.mem_append.mp (p.mem_iff.mp m) with m | m
      · exact o a (List.mem_append_right _ (List.mem_append_left _ m))
      · exact o a (List.mem_append_left _ (s.subset m))
    · exact o a (List.mem_append_right _ (List.mem_append_right _ m))
def setV : St → List Nat → List V → St
  | σ, i :: is, v :: vs => setV (σ.set i (some v)) is vs
  | σ, _, _ => σ
def setD : DE → List Nat → List DV → DE
  | δ, i :: is, v :: vs => setD (δ.set i (some v)) is vs
  | δ, _, _ => δ
theorem AtX.setAll : ∀ {is : List Nat} {vs : List V} {ds : List DV} {cs : List Addr} {σ : St} {δ : DE}, AtX K C F0 H0 σ δ F H cs → Reps K C F H vs ds cs → is.length = ds.length → (∀ i ∈ is, i < δ.length) → At K C F0 H0 (setV σ is vs) (setD δ is ds) F H
  | [], _, _, _, _, _, x, r, e, _ => by
    cases r with
    | nil => exact x.end
    | cons _ _ => cases e
  | i :: is, _, _, _, σ, δ, x, r, e, h => by
    cases r with
    | nil => cases e
    | @cons v d vs ds _ _ r1 r2 =>
      show At K C F0 H0 (setV (σ.set i (some v)) is vs) (setD (δ.set i (some d)) is ds) F H
      refine AtX.setAll (x.set r1 (h i List.mem_cons_self)) r2 (by simpa using e) fun j m => ?_
      rw [List.length_set]
      exact h j (List.mem_cons_of_mem _ m)
end
section
variable {X : Cx} {C : Zn} {F0 : Addr → Prop} {H0 : Hp} {pos : Pos}
def tNames (is : List Nat) : TGs := fun vs σ H Q => vs.length = is.length ∧ Q (setV σ is vs) H
theorem n_nil : PGs X [] (tNames []) := ⟨fun pins s σ H vs us Q I r h => pgs_nil.run pins s σ H vs us Q I r (by
  obtain ⟨e, q⟩ := h
  cases vs with
  | nil => exact ⟨rfl, q⟩
  | cons _ _ => cases e)⟩
theorem n_cons {i : Nat} {is : List Nat} {x : Str} {p : Pos} {es : List Expr} (hN : X.N.Nodup) (hi : X.N[i]? = some x) (hx : Loc X.env.scope x) (h : PGs X es (tNames is)) (hf : X.fn x = true ∨ X.env.scope.names.lookup x = some .local := by first | exact .inl rfl | exact .inr rfl | assumption)
    (hs : (assignEach (.Name x p :: es) X.env).map (·.2) = assign (.Name x p) X.env :: (assignEach es X.env).map (·.2) := by rfl) : PGs X (.Name x p :: es) (tNames (i :: is)) :=
  ⟨fun pins s σ H vs us Q I r h2 => (pgs_cons (pg_name (pos := p) hN hi hx hf) h hs).run pins s σ H vs us Q I r (by
    obtain ⟨e, q⟩ := h2
    cases vs with
    | nil => cases e
    | cons v vs => exact ⟨v, vs, rfl, by simpa using e, q⟩)⟩
def dUnp (is : List Nat) (t : DL') : DS := fun D δ => t δ fun rs => match fxL rs with
  | some ds => is.length = ds.length ∧ (∀ i ∈ is, i < δ.length) ∧ D.nx (setD δ is ds)
  | none => False
theorem mono_unp {is : List Nat} {t : DL'} (h : Mono t) : MonoS (dUnp is t) := fun D D' δ l q => h δ _ _ (fun rs q => by
  split at q
  · exact ⟨q.1, q.2.1, l.nx _ q.2.2⟩
  · exact q.elim) q
theorem unp_at {is : List Nat} {F F' : Addr → Prop} {H H' : Hp} {σ : St} {δ : DE} {vs : List V} {rs : List R} {ds : List DV} (x : At X.K C F0 H0 σ δ F H) (g : Go C F H F' H') (rrs : RRs X.K C F' H H' vs rs) (e : fxL rs = some ds) (hl : is.length = ds.length) (hi : ∀ i ∈ is, i < δ.length) : At X.K C F0 H0 (setV σ is vs) (setD δ is ds) F' H' := by
  obtain ⟨cs, r, nd, f⟩ := rrs.hold e
  exact AtX.setAll (AtX.start x g nd f) r hl hi
/-- the tuple is made and taken apart -/
theorem s_unpack {is : List Nat} {tgs es : List Expr} {t : DL'} {pt pt2 : Pos} {kt k2} (hc : X.calm = true) (hn : PGs X tgs (tNames is)) (ha : PDL C X es t) (hz : es.length ≤ 1000 := by decide)
    (hl : (assignEach tgs X.env).length = is.length := by rfl) (hst : (assignEach tgs X.env).findIdx? (·.1) = none := by rfl)
    (hs : swapsWithSole [.Tuple tgs kt pt] (.Tuple es k2 pt2) pos.line X.env = pure false := by rfl) (hw : swappedStores [.Tuple tgs kt pt] (.Tuple es k2 pt2) X.env = pure none := by rfl)
    (h1 : (assignEach [.Tuple tgs kt pt] X.env).map (·.2) = [assign (.Tuple tgs kt pt) X.env] := by rfl) :
    PSD C F0 H0 X (.Assign [.Tuple tgs kt pt] (.Tuple es k2 pt2) pos) (dUnp is t) :=
  ⟨mono_unp ha.mono, (ps_asg (pe_tup ha.run) (pg_tup hc hn hl hst) hs hw h1).imp fun D σ H q => by
    obtain ⟨δ, F, x, q⟩ := q
    refine ⟨δ, F, x.at0, ha.mono δ _ _ (fun rs q F1 H1 vs g rrs => ?_) (ha.len _ _ q)⟩
    obtain ⟨q, hlen⟩ := q
    refine ⟨by rw [rrs.length, hlen]; exact Nat.le_trans hz (by decide), fun p n => ?_⟩
    split at q
    · rename_i ds e
      have g3 := Go.laid (o := .tup vs) g.ok n
      have hv : vs.length = is.length := by
        obtain ⟨cs, r, _⟩ := rrs.hold e
        rw [r.length, q.1]
      have np : RRs X.K C F1 H (upd H1 p (.tup vs)) vs rs := by
        obtain ⟨as, r, nd, f⟩ := rrs
        exact ⟨as, r.mono (g3.keep g.ok) (g3.keepZ g.ok) (fun a m => upd_ne fun z => by
          obtain ⟨u, w, _⟩ := r.there a m
          rw [z, n] at w; cases w), nd, f⟩
      exact ⟨p, vs, rfl, .inl (.inl upd_same), hv, hv, q.2.2 _ F1 _ (unp_at x (g.trans x.bs g3) np e q.1 q.2.1) ((g.trans x.bs g3).keep x.bs)⟩
    · exact q.elim⟩
end
/-! ### the deck: a dict {kc: a list of ints, mixed: int, kt: int} -/
def deckK (kc kt : Str) (aC : Addr) (m t : Int) : List (Key × V) := [(.inr kc, .ref aC), (.inr "mixed", .int m), (.inr kt, .int t)]
structure DeckAt (kc kt : Str) (aD aC : Addr) (H : Hp) (ns : List Int) (m t : Int) : Prop where
  d : H aD = some (.dK (deckK kc kt aC m t))
  c : H aC = some (.lst (ns.map V.int))
  n : ns.length ≤ 63
/-- the zone of a deck; token 0 the deck, token 1 the script -/
def deckZ (kc kt : Str) (P : Program) (w : World) (aD aC aS : Addr) : Zn where
  P := P
  w := w
  Z := fun a => a = aD ∨ a = aC
  J := fun H => ∃ ns m t, DeckAt kc kt aD aC H ns m t
  tokV := fun n => match n with
    | 0 => .ref aD
    | _ => .ref aS
  jmut := fun H ⟨ns, m, t, h⟩ a z => by
    rcases z with rfl | rfl
    · rw [h.d]; trivial
    · rw [h.c]; trivial
  jloc := fun H H' ⟨ns, m, t, h⟩ k => ⟨ns, m, t, (k aD (.inl rfl)).trans h.d, (k aC (.inr rfl)).trans h.c, h.n⟩
theorem deck_ne {kc kt : Str} {aD aC : Addr} {H : Hp} {ns : List Int} {m t : Int} (h : DeckAt kc kt aD aC H ns m t) : aD ≠ aC := fun e => by
  have := h.c
  rw [← e, h.d] at this
  cases this
end DL
set_option Elab.async false
set_option linter.all false
set_option maxRecDepth 100000
set_option maxHeartbeats 1000000
namespace DL
open PySem PySem.Spec L2
open PyProof.Rows hiding St
/-! ### y = [e for ..], y a plain local name -/
section
variable {X : Cx} {C : Zn} {F0 : Addr → Prop} {H0 : Hp}
theorem s_setLc {i : Nat} {y : Str} {py : Pos} {elt tg iter : Expr} {ifs : List Expr} {scope : Scope} {own : List (Str × Nat)} {pos spos : Pos} {it : DI} {pat : DP} {tst : DB} {te : DT} {is : List Nat} (hc : X.calm = true) (hN : X.N.Nodup) (hy : X.N[i]? = some y) (hyl : X.env.scope.names.lookup y = some .local)
    (hsw : swapsWith (.ListComp elt [⟨tg, iter, ifs, 0⟩] scope pos) (some (.Name y py)) spos.line X.env = pure true) (hi : PDI C X false tg iter it) (ok : BlkOk X.N X.env.scope scope own) (his : ∀ i ∈ is, i ∈ own.map (·.2))
    (hg : ∀ (s : Shared) (H : Hp) (A : Addr) (cl : List (Str × Addr)) (fp : List Addr), PDG C (X.blk s H scope (compEnvC scope cl A X.env) fp) tg is pat) (ht : ∀ (s : Shared) (H : Hp) (A : Addr) (cl : List (Str × Addr)) (fp : List Addr), PDTs C (X.blk s H scope (compEnvC scope cl A X.env) fp) ifs tst)
    (he : ∀ (s : Shared) (H : Hp) (A : Addr) (cl : List (Str × Addr)) (fp : List Addr), PD C (X.blk s H scope (compEnvC scope cl A X.env) fp) elt te) (hs : ∀ x, foldedSetIterable iter X.env x = pure x := by intro _; rfl) :
    PSD C F0 H0 X (.Assign [.Name y py] (.ListComp elt [⟨tg, iter, ifs, 0⟩] scope pos) spos) (dSet i (dLc it pat tst te (own.map (·.2)))) := by
  have gm := fun d => (hg X.s_0 X.H_0 0 [] []).mono d
  have tm := (ht X.s_0 X.H_0 0 [] []).mono
  have em := (he X.s_0 X.H_0 0 [] []).mono
  have mm : Mono (dLc it pat tst te (own.map (·.2))) := fun δ Q Q' m q => hi.mono δ _ _ (fun ds q => mono_lcRun gm tm em _ (fun acc q => m _ q) ds [] q) q
  refine ⟨mono_set mm, (ps_setLc (wi := liftI C X.K false it) (g := liftG C X.K is pat) (tt := liftB C X.K tst) (te := lift C X.K te) hc hN hy hyl hsw hi.run ok (fun s H A cl fp => (hg s H A cl fp).run) (fun s H A cl fp => (ht s H A cl fp).run) (fun s H A cl fp => (he s H A cl fp).run) hs).imp fun D σ H q => ?_⟩
  obtain ⟨δ, F, x, q⟩ := q
  refine lc_to hi.mono gm tm em his ⟨δ, F, x.at0, mm δ _ _ (fun r q F' H' v g rr => ?_) q⟩
  split at q
  · rename_i dv e
    exact q.2 _ F' H' (x.set g (rr.fx g.ok e) q.1) (g.keep x.bs)
  · exact q.elim
theorem s_setLc2 {i : Nat} {y : Str} {py : Pos} {elt tg iter tg1 iter1 : Expr} {ifs ifs1 : List Expr} {scope : Scope} {own : List (Str × Nat)} {vs1 : List Nat} {pos spos : Pos} {it it1 : DI} {pat pat1 : DP} {tst tst1 : DB} {te : DT} {is is1 : List Nat} (hc : X.calm = true) (hN : X.N.Nodup) (hy : X.N[i]? = some y) (hyl : X.env.scope.names.lookup y = some .local)
    (hsw : swapsWith (.ListComp elt [⟨tg, iter, ifs, 0⟩, ⟨tg1, iter1, ifs1, 0⟩] scope pos) (some (.Name y py)) spos.line X.env = pure true) (hi : PDI C X false tg iter it) (ok : BlkOk X.N X.env.scope scope own) (his : ∀ i ∈ is, i ∈ own.map (·.2)) (hv : ∀ i ∈ vs1, i ∈ own.map (·.2)) (his1 : ∀ i ∈ is1, i ∈ vs1)
    (hg : ∀ (s : Shared) (H : Hp) (A : Addr) (cl : List (Str × Addr)) (fp : List Addr), PDG C (X.blk s H scope (compEnvC scope cl A X.env) fp) tg is pat) (ht : ∀ (s : Shared) (H : Hp) (A : Addr) (cl : List (Str × Addr)) (fp : List Addr), PDTs C (X.blk s H scope (compEnvC scope cl A X.env) fp) ifs tst)
    (hi1 : ∀ (s : Shared) (H : Hp) (A : Addr) (cl : List (Str × Addr)) (fp : List Addr), PDI C (X.blk s H scope (compEnvC scope cl A X.env) fp) true tg1 iter1 it1)
    (hg1 : ∀ (s : Shared) (H : Hp) (A : Addr) (cl : List (Str × Addr)) (fp : List Addr), PDG C (X.blk s H scope (compEnvC scope cl A X.env) fp) tg1 is1 pat1) (ht1 : ∀ (s : Shared) (H : Hp) (A : Addr) (cl : List (Str × Addr)) (fp : List Addr), PDTs C (X.blk s H scope (compEnvC scope cl A X.env) fp) ifs1 tst1)
    (he : ∀ (s : Shared) (H : Hp) (A : Addr) (cl : List (Str × Addr)) (fp : List Addr), PD C (X.blk s H scope (compEnvC scope cl A X.env) fp) elt te) (hs : ∀ x, foldedSetIterable iter X.env x = pure x := by intro _; rfl) (hs1 : ∀ env x, foldedSetIterable iter1 env x = pure x := by intro _ _; rfl) :
    PSD C F0 H0 X (.Assign [.Name y py] (.ListComp elt [⟨tg, iter, ifs, 0⟩, ⟨tg1, iter1, ifs1, 0⟩] scope pos) spos) (dSet i (dLc2 it pat tst it1 pat1 tst1 te (own.map (·.2)) vs1)) := by
  have gm := fun d => (hg X.s_0 X.H_0 0 [] []).mono d
  have tm := (ht X.s_0 X.H_0 0 [] []).mono
  have im := (hi1 X.s_0 X.H_0 0 [] []).mono
  have gm1 := fun d => (hg1 X.s_0 X.H_0 0 [] []).mono d
  have tm1 := (ht1 X.s_0 X.H_0 0 [] []).mono
  have em := (he X.s_0 X.H_0 0 [] []).mono
  have mm : Mono (dLc2 it pat tst it1 pat1 tst1 te (own.map (·.2)) vs1) := fun δ Q Q' m q => hi.mono δ _ _ (fun ds q => mono_lcRun2 gm tm im gm1 tm1 em _ (fun acc q => m _ q) ds [] q) q
  refine ⟨mono_set mm, (ps_setLc2 (wi := liftI C X.K false it) (g := liftG C X.K is pat) (tt := liftB C X.K tst) (wi1 := liftI C X.K true it1) (g1 := liftG C X.K is1 pat1) (tt1 := liftB C X.K tst1) (te := lift C X.K te) hc hN hy hyl hsw hi.run ok hv
    (fun s H A cl fp => (hg s H A cl fp).run) (fun s H A cl fp => (ht s H A cl fp).run) (fun s H A cl fp => (hi1 s H A cl fp).run) (fun s H A cl fp => (hg1 s H A cl fp).run) (fun s H A cl fp => (ht1 s H A cl fp).run) (fun s H A cl fp => (he s H A cl fp).run) hs hs1).imp fun D σ H q => ?_⟩
  obtain ⟨δ, F, x, q⟩ := q
  refine lc2_to hi.mono gm tm im gm1 tm1 em his his1 ⟨δ, F, x.at0, mm δ _ _ (fun r q F' H' v g rr => ?_) q⟩
  split at q
  · rename_i dv e
    exact q.2 _ F' H' (x.set g (rr.fx g.ok e) q.1) (g.keep x.bs)
  · exact q.elim
/-! ### a def that may be called -/
structure Gd (P : Program) (w : World) (K : PySem.W.Frag) (mg : Str → Option Value) (base : Heap) (C : Zn) (x : Str) (st : Stmt) (ps : List Str) (lev : Nat) (g : Sg) : Prop where
  mono : MonoG g
  ex : ∃ f fd, FnG P w K mg base CX0 lev f fd ps (spD C K g) ∧ mg x = some (.ref f) ∧ Fun K x x st f fd
/-- how positional arguments bind -/
def Bnd (x : Str) (st : Stmt) (ps : List Str) : Prop := ∀ (kV doc pm : Value) (an : Option Addr) (cdv ct : Value) (us : List Value), us.length = ps.length → bindArgs (PySem.W.fnOf x x (defArgs st) (defBody st) (defScope st) .none kV doc pm an cdv ct) ⟨us, []⟩ = pure (ps.zip us)
/-- a place's item, any kind: the order of arguments by name -/
def pick {α : Type} (is : List Nat) (vs : List α) : List α := is.filterMap fun i => vs[i]?
/-- how arguments by name bind: pick is puts them in order -/
def BndK (x : Str) (st : Stmt) (ps ks : List Str) (is : List Nat) : Prop := ∀ (kV doc pm : Value) (an : Option Addr) (cdv ct : Value) (us : List Value), (pick is us).length = ps.length → bindArgs (PySem.W.fnOf x x (defArgs st) (defBody st) (defScope st) .none kV doc pm an cdv ct) ⟨[], ks.zip us⟩ = pure (ps.zip (pick is us))
theorem paired_pick {α β : Type} {R : α → β → Prop} {xs : List α} {ys : List β} (h : Paired R xs ys) : ∀ is : List Nat, Paired R (pick is xs) (pick is ys)
  | [] => .nil
  | i :: is => by
    unfold pick
    rw [List.filterMap_cons, List.filterMap_cons]
    have key : ∀ {xs : List α} {ys : List β} (i : Nat), Paired R xs ys → (xs[i]? = none ∧ ys[i]? = none) ∨ ∃ x y, xs[i]? = some x ∧ ys[i]? = some y ∧ R x y := by
      intro xs ys i h
      induction h generalizing i with
      | nil => exact .inl ⟨rfl, rfl⟩
      | cons r t ih =>
        cases i with
        | zero => exact .inr ⟨_, _, rfl, rfl, r⟩
        | succ i => simpa using ih i
    rcases key i h with ⟨e1, e2⟩ | ⟨x, y, e1, e2, r⟩
    · rw [e1, e2]; exact paired_pick h is
    · rw [e1, e2]; exact .cons r (paired_pick h is)
theorem reps_pick {K : PySem.W.Frag} {C : Zn} {F : Addr → Prop} {H : Hp} {vs : List V} {ds : List DV} (h : Reps K C F H vs ds []) : ∀ is : List Nat, Reps K C F H (pick is vs) (pick is ds) []
  | [] => .nil
  | i :: is => by
    unfold pick
    rw [List.filterMap_cons, List.filterMap_cons]
    have key : ∀ {vs : List V} {ds : List DV} (i : Nat), Reps K C F H vs ds [] → (vs[i]? = none ∧ ds[i]? = none) ∨ ∃ x y, vs[i]? = some x ∧ ds[i]? = some y ∧ Rep K C F H x y [] := by
      intro vs
      induction vs with
      | nil => intro ds i h; cases h; exact .inl ⟨rfl, rfl⟩
      | cons v vs ih =>
        intro ds i h
        generalize e : ([] : List Addr) = l at h
        cases h with
        | cons r t =>
          obtain ⟨rfl, rfl⟩ := List.append_eq_nil_iff.mp e.symm
          cases i with
          | zero => exact .inr ⟨_, _, rfl, rfl, r⟩
          | succ i => simpa using ih i t
    rcases key i h with ⟨e1, e2⟩ | ⟨x, y, e1, e2, r⟩
    · rw [e1, e2]; exact reps_pick h is
    · rw [e1, e2]; exact .cons (as := []) r (reps_pick h is)
variable {k : Nat} {ps ks : List Str} {x : Str} {st : Stmt} {p pos : Pos} {e : Expr} {es : List Expr} {kws : List Keyword} {g : Sg} {t tk : DL'}
theorem d_callG {lev : Nat} (G : Gd X.prog X.w X.K X.mg X.base C x st ps lev g) (b : Bnd x st ps) (hl : lev ≤ k) (gu : X.A.guards = some []) (hr : Room k X.A) (hx : Passes CX0 X E0)
    (ha : PDL C X (e :: es) t) (hg : Gl X x := by rfl) (hdb : (x == ("__debug__" : Str)) = false := by decide) (he : starEach (e :: es) X.env = (false, eval e X.env) :: starEach es X.env := by rfl) (hpl : (backTo pos (starEach es X.env)).any (·.1) = false := by rfl) :
    PD C X (.Call (.Name x p) (e :: es) [] pos) (dCall g t) := by
  obtain ⟨m, f, fd, F, hm, U⟩ := G
  exact d_call (F.mono hl) m gu hr hx hm U.kp (U.binds b) ha hg hdb he hpl
theorem d_callGK {lev : Nat} (is : List Nat) (G : Gd X.prog X.w X.K X.mg X.base C x st ps lev g) (b : BndK x st ps ks is) (hne : ps ≠ []) (hl : lev ≤ k) (gu : X.A.guards = some []) (hr : Room k X.A) (hx : Passes CX0 X E0)
    (hkw : PDK C X kws tk) (hg : Gl X x := by rfl) (hall : (backToKw pos (keywordEach kws X.env)).all (·.1.isSome) = true := by rfl) (hks : (backToKw pos (keywordEach kws X.env)).filterMap (·.1) = ks := by rfl)
    (hdb : (x == ("__debug__" : Str)) = false := by decide)
    (hpl : ((backTo pos (starEach [] X.env)).any (·.1) || (backToKw pos (keywordEach kws X.env)).any (·.1.isNone)) = false := by rfl) :
    PD C X (.Call (.Name x p) [] kws pos) (dCallK g (pick is) tk) := by
  obtain ⟨m, f, fd, F, hm, U⟩ := G
  refine d_callK0 (pv := pick is) (pu := pick is) (F.mono hl) m gu hr hx hm U.kp ⟨⟨fun s us ws kin hlen => ?_, fun {vs us zs ws} r rz => ?_⟩, fun C F H vs ds r => reps_pick r is⟩ hkw hg hall hks hdb hpl
  · obtain ⟨oc, od, kV, doc, pm, an, cdv, ct, osl, rfl, _⟩ := U.ex
    cases us with
    | nil => exact .of_eq (b kV doc pm an cdv ct ws hlen)
    | cons u us => exact absurd (List.eq_nil_of_length_eq_zero hlen.symm) hne
  · cases r with
    | nil => exact paired_pick rz is
    | cons _ _ => exact .nil
theorem gd_mk {P : Program} {w : World} {K : PySem.W.Frag} {mg : Str → Option Value} {base : Heap} {C : Zn} {lev : Nat} {f : Addr} {fd : FuncData} (hm : mg x = some (.ref f)) (U : Fun K x x st f fd) (m : MonoG g) (F : FnG P w K mg base CX0 lev f fd ps (spD C K g)) : Gd P w K mg base C x st ps lev g := ⟨m, f, fd, F, hm, U⟩
end
end DL
set_option Elab.async false
set_option linter.all false
set_option maxRecDepth 100000
set_option maxHeartbeats 1000000
namespace DL
open PySem PySem.Spec L2
open PyProof.Rows hiding St
/-! ### the deck's two defs: what they promise -/
/-- a draw: any number below -/
def gDraw : Sg := fun ds Q => ∃ many : Int, ds = [.tok 0, .sh (.int many)] ∧ (0 < many ∧ many < 1073741824) ∧ ∀ r : Int, 0 ≤ r → r < many → Q (.sh (.int r))
theorem mono_draw : MonoG gDraw := fun ds Q Q' m ⟨many, e, h, q⟩ => ⟨many, e, h, fun r a b => m _ (q r a b)⟩
theorem len_draw : ∀ ds Q, gDraw ds Q → ds.length = 2 := fun ds Q ⟨many, e, _⟩ => by rw [e]; rfl
/-- the deck made of the script -/
def spDeck (kc kt : Str) (K : PySem.W.Frag) : Sp := fun vs H Q _ => ∃ (a : Addr) (ns : List Int), vs = [.ref a] ∧ SqL K H a (ns.map V.int) ∧ ns.length ≤ 63 ∧
  ∀ H' aD aC m, (∀ b o, H b = some o → H' b = some o) → H aD = none → H aC = none → DeckAt kc kt aD aC H' ns.reverse m 0 → Q (.ref aD) H'
/-- a state of the deck behind the start of a draw -/
structure DrawSt (kc kt : Str) (aD aC : Addr) (H0 H : Hp) (ns : List Int) (m t : Int) : Prop where
  at' : DeckAt kc kt aD aC H ns m t
  same : ∀ a o, H0 a = some o → a ≠ aD → a ≠ aC → H a = some o
section
variable {kc kt : Str} {aD aC : Addr} {H0 H : Hp} {ns : List Int} {m t : Int}
theorem DrawSt.put (h : DrawSt kc kt aD aC H0 H ns m t) (k : Int) (hp : putK (deckK kc kt aC m t) (.inr kt) (.int k) = deckK kc kt aC m k) : DrawSt kc kt aD aC H0 (upd H aD (.dK (putK (deckK kc kt aC m t) (.inr kt) (.int k)))) ns m k := by
  have ne := deck_ne h.at'
  rw [hp]
  exact ⟨⟨upd_same, by rw [upd_ne ne.symm]; exact h.at'.c, h.at'.n⟩, fun a o e n1 n2 => by rw [upd_ne n1]; exact h.same a o e n1 n2⟩
theorem DrawSt.cells (h : DrawSt kc kt aD aC H0 H ns m t) {ks : List Int} (hk : ks.length ≤ 63) : DrawSt kc kt aD aC H0 (upd H aC (.lst (ks.map V.int))) ks m t := by
  have ne := deck_ne h.at'
  exact ⟨⟨by rw [upd_ne ne]; exact h.at'.d, upd_same, hk⟩, fun a o e n1 n2 => by rw [upd_ne n2]; exact h.same a o e n1 n2⟩
theorem DrawSt.new (h : DrawSt kc kt aD aC H0 H ns m t) {p : Addr} {o : HO} (n : H p = none) (n0 : H0 p = none) : DrawSt kc kt aD aC H0 (upd H p o) ns m t := by
  have n1 : aD ≠ p := fun e => by rw [← e, h.at'.d] at n; cases n
  have n2 : aC ≠ p := fun e => by rw [← e, h.at'.c] at n; cases n
  exact ⟨⟨by rw [upd_ne n1]; exact h.at'.d, by rw [upd_ne n2]; exact h.at'.c, h.at'.n⟩, fun a u e q1 q2 => by
    have : a ≠ p := fun z => by rw [z, n0] at e; cases e
    rw [upd_ne this]; exact h.same a u e q1 q2⟩
theorem DrawSt.none0 (h : DrawSt kc kt aD aC H0 H ns m t) {p : Addr} (n : H p = none) : H0 p = none := by
  cases e : H0 p with
  | none => rfl
  | some o =>
    have n1 : p ≠ aD := fun z => by rw [z, h.at'.d] at n; cases n
    have n2 : p ≠ aC := fun z => by rw [z, h.at'.c] at n; cases n
    have := h.same p o e n1 n2
    rw [n] at this; cases this
theorem DrawSt.get (h : DrawSt kc kt aD aC H0 H ns m t) {k : Key} {v : V} (e : valV (deckK kc kt aC m t) k = some v) : DGet H aD (kV k) (some v) := .inl ⟨_, k, .inl h.at'.d, rfl, e.symm⟩
theorem DrawSt.go {P : Program} {w : World} {F : Addr → Prop} {aS : Addr} (b : Bs (deckZ kc kt P w aD aC aS) F H0) (h : DrawSt kc kt aD aC H0 H ns m t) : Go (deckZ kc kt P w aD aC aS) F H0 F H := by
  have same : ∀ a o, H0 a = some o → ¬ (deckZ kc kt P w aD aC aS).Z a → H a = some o := fun a o e nz => h.same a o e (fun z => nz (.inl z)) fun z => nz (.inr z)
  refine ⟨same, fun _ h => h, fun _ h => .inl h, ⟨ns, m, t, h.at'⟩, fun a fa => ⟨(b.f a fa).1, ?_⟩⟩
  obtain ⟨nz, o, e⟩ := b.f a fa
  exact ⟨o, same a o e nz⟩
theorem DrawSt.sq {K : PySem.W.Frag} (h : DrawSt kc kt aD aC H0 H ns m t) : SqL K H aC (ns.map V.int) := .inl (.inl h.at'.c)
theorem DrawSt.dq {K : PySem.W.Frag} (h : DrawSt kc kt aD aC H0 H ns m t) : Dq K Any H (.ref aC) (.list (ns.map PyData.int)) := .lst ⟨h.at'.c, trivial⟩ (DqAll.ofInts ns)
end
theorem reps_cons {K : PySem.W.Frag} {C : Zn} {F : Addr → Prop} {H : Hp} {vs : List V} {d : DV} {ds : List DV} (h : Reps K C F H vs (d :: ds) []) : ∃ v us, vs = v :: us ∧ Rep K C F H v d [] ∧ Reps K C F H us ds [] := by
  generalize e : ([] : List Addr) = l at h
  cases h with
  | cons r t =>
    obtain ⟨rfl, rfl⟩ := List.append_eq_nil_iff.mp e.symm
    exact ⟨_, _, rfl, r, t⟩
theorem draw_args {K : PySem.W.Frag} {C : Zn} {F : Addr → Prop} {H : Hp} {vs : List V} {many : Int} (h : Reps K C F H vs [.tok 0, .sh (.int many)] []) : vs = [C.tokV 0, .int many] := by
  obtain ⟨v, us, rfl, r1, h1⟩ := reps_cons h
  obtain ⟨u, ws, rfl, r2, h2⟩ := reps_cons h1
  cases h2
  cases r1
  cases r2 with
  | sh q => cases q; rfl
theorem sDep_nil (d : D) : sDep d (.list []) := by
  unfold sDep
  have : (PyData.list []).depth = 1 := by simp [PyData.depth, PyData.depthAll]
  omega
/-! ### the law's own def -/
theorem pss_ex (kc kt : Str) {X : Cx} {rest : List Stmt} {t : DS} (h : ∀ aD aC aS F0 H0, PSSD (deckZ kc kt X.prog X.w aD aC aS) F0 H0 X rest t) : PSs X rest (fun D σ H => MonoS t → ∃ aD aC aS F0 H0, liftS X.K (deckZ kc kt X.prog X.w aD aC aS) F0 H0 t D σ H) :=
  ⟨fun pins s σ H D I q => by
    obtain ⟨aD, aC, aS, F0, H0, q⟩ := q (h 0 0 0 (fun _ => False) fun _ => none).mono
    exact (h aD aC aS F0 H0).run.run pins s σ H D I q⟩
/-- what the law's def is to do: with the script, comes to True -/
def spLaw (K : PySem.W.Frag) : Sp := fun vs H Q _ => ∃ (a : Addr) (ns : List Int), vs = [.ref a] ∧ SqL K H a (ns.map V.int) ∧ ns.length ≤ 63 ∧ ∀ H', Q (.bl true) H'
/-- the names behind deck = _law_deck(script) -/
def lawD (n : Nat) : DE := some (.tok 1) :: some (.tok 0) :: List.replicate n none
theorem law_start {kc kt : Str} {P : Program} {w : World} {K : PySem.W.Frag} {aD aC a : Addr} {H1 : Hp} {ns : List Int} {m t : Int} (d : DeckAt kc kt aD aC H1 ns m t) (n : Nat) : At K (deckZ kc kt P w aD aC a) (fun _ => False) H1 (some (.ref a) :: some (.ref aD) :: List.replicate n none) (lawD n) (fun _ => False) H1 := by
  have b : Bs (deckZ kc kt P w aD aC a) (fun _ => False) H1 := ⟨⟨ns, m, t, d⟩, fun _ h => h.elim⟩
  have e : Envs K (deckZ kc kt P w aD aC a) (fun _ => False) H1 (List.replicate n none) (List.replicate n none) [] := by
    induction n with
    | zero => exact .nil
    | succ n ih => rw [List.replicate_succ, List.replicate_succ]; exact .off ih
  exact ⟨b, .refl b, [], .on (as := []) (.tok 1) (.on (as := []) (.tok 0) e), List.nodup_nil, fun _ h => by cases h⟩
theorem law_rest {kc kt : Str} {X : Cx} {t : DS} {n : Nat} {aD aC a : Addr} {H1 : Hp} {ns : List Int} {m t0 : Int} {Q : VK} (mt : MonoS t) (d : DeckAt kc kt aD aC H1 ns m t0) (hQ : ∀ H', Q (.bl true) H') (p : t { nx := fun _ => False, rt := fun dv => dv = .sh (.bool true) } (lawD n)) :
    liftS X.K (deckZ kc kt X.prog X.w aD aC a) (fun _ => False) H1 t { nx := fun _ H' => Q .non H', rt := Q } (some (.ref a) :: some (.ref aD) :: List.replicate n none) H1 := by
  refine ⟨_, _, law_start d n, mt.ap p ⟨fun _ h => h.elim, fun dv h v F' H' g rr => ?_, fun _ h => h.elim, fun _ h => h.elim⟩⟩
  subst h
  obtain ⟨as, z, _⟩ := rr
  cases z with
  | sh z =>
    cases z
    exact hQ H'
end DL
set_option Elab.async false
set_option linter.all false
set_option maxRecDepth 100000
set_option maxHeartbeats 1000000
namespace DL
open PySem PySem.Spec L2
open PyProof.Rows hiding St
/-! ### readings computed: simp rules -/
/-- a list of one's own, of data -/
abbrev ownL (ds : List D) : DV := .own (ds.map DV.sh)
section
variable {δ : DE} {Q : R → Prop} {d e : D} {ds es : List D}
@[simp] theorem fz_own (ds : List D) : DV.fz (.own (ds.map DV.sh)) = some (.list ds) := by rw [DV.fz, fzs_sh]; rfl
@[simp] theorem fz_sh (d : D) : DV.fz (.sh d) = some d := by rw [DV.fz]
@[simp] theorem fz_kt (ds : List D) : DV.fz (.kt ds) = some (.tuple ds) := by rw [DV.fz]
@[simp] theorem fzs_own (ds : List D) : DV.fzs (ds.map DV.sh) = some ds := fzs_sh ds
@[simp] theorem rd_own (ds : List D) : (R.val (.own (ds.map DV.sh))).rd = some (.list ds) := fz_own ds
@[simp] theorem fd_own (ds : List D) : (R.val (.own (ds.map DV.sh))).fd = some (.list ds) := fz_own ds
@[simp] theorem sup_own (ds : List D) : (R.val (.own (ds.map DV.sh))).sup = some (.list ds) := fz_own ds
@[simp] theorem rd_kt (ds : List D) : (R.val (.kt ds)).rd = some (.tuple ds) := fz_kt ds
@[simp] theorem fd_kt (ds : List D) : (R.val (.kt ds)).fd = some (.tuple ds) := fz_kt ds
@[simp] theorem sup_kt (ds : List D) : (R.val (.kt ds)).sup = some (.tuple ds) := fz_kt ds
theorem sup_br (d : D) : (R.br d).sup = if els d then some d else none := rfl
@[simp] theorem noLst_int (i : Int) : noLst (.int i) = true := by rw [noLst]; all_goals simp
@[simp] theorem noLst_bool (i : Bool) : noLst (.bool i) = true := by rw [noLst]; all_goals simp
@[simp] theorem noLst_tuple (ds : List D) : noLst (.tuple ds) = noLsts ds := by rw [noLst]
@[simp] theorem noLst_list (ds : List D) : noLst (.list ds) = false := by rw [noLst]
@[simp] theorem noLsts_nil : noLsts [] = true := by rw [noLsts]
@[simp] theorem noLsts_cons (d : D) (ds : List D) : noLsts (d :: ds) = (noLst d && noLsts ds) := by rw [noLsts]
theorem noLsts_all : ∀ {ds : List D}, (∀ d ∈ ds, noLst d = true) → noLsts ds = true
  | [], _ => noLsts_nil
  | d :: ds, h => by rw [noLsts_cons, h d List.mem_cons_self, noLsts_all fun x m => h x (List.mem_cons_of_mem _ m)]; rfl
@[simp] theorem noLsts_ints (ns : List Int) : noLsts (ns.map PyData.int) = true := noLsts_all fun d m => by
  obtain ⟨i, _, rfl⟩ := List.mem_map.mp m
  exact noLst_int i
@[simp] theorem noLsts_bools (ns : List Bool) : noLsts (ns.map PyData.bool) = true := noLsts_all fun d m => by
  obtain ⟨i, _, rfl⟩ := List.mem_map.mp m
  exact noLst_bool i
@[simp] theorem els_list (ds : List D) : els (.list ds) = noLsts ds := rfl
@[simp] theorem els_tuple (ds : List D) : els (.tuple ds) = noLsts ds := rfl
/-- a slot's reading -/
def onV (o : Option (Option DV)) (Q : R → Prop) : Prop := match o with
  | some (some (.sh d)) => Q (.val (.sh d))
  | some (some (.tok n)) => Q (.val (.tok n))
  | some (some (.kt ds)) => Q (.val (.sh (.tuple ds)))
  | some (some (.own es)) => (match DV.fzs es with | some ds => Q (.br (.list ds)) | none => False)
  | _ => False
@[simp] theorem dVar_e (i : Nat) : dVar i δ Q = onV δ[i]? Q := rfl
@[simp] theorem onV_sh (d : D) : onV (some (some (.sh d))) Q = Q (.val (.sh d)) := rfl
@[simp] theorem onV_tok (d : Nat) : onV (some (some (.tok d))) Q = Q (.val (.tok d)) := rfl
@[simp] theorem onV_kt (ds : List D) : onV (some (some (.kt ds))) Q = Q (.val (.sh (.tuple ds))) := rfl
@[simp] theorem onV_own (ds : List D) : onV (some (some (.own (ds.map DV.sh)))) Q = Q (.br (.list ds)) := by
  show (match DV.fzs (ds.map DV.sh) with | some ds => Q (.br (.list ds)) | none => False) = _
  rw [fzs_sh]
@[simp] theorem onV_nil : onV (some (some (.own []))) Q = Q (.br (.list [])) := rfl
@[simp] theorem dC_e (d : D) : dC d δ Q = Q (.val (.sh d)) := rfl
@[simp] theorem dOp_e (f : D → D → (R → Prop) → Prop) (ta tb : DT) : dOp f ta tb δ Q = ta δ fun x => tb δ fun y => on2 f x y Q := rfl
@[simp] theorem dOpR_e (f : R → R → (R → Prop) → Prop) (ta tb : DT) : dOpR f ta tb δ Q = ta δ fun x => tb δ fun y => f x y Q := rfl
@[simp] theorem dUn_e (f : R → (R → Prop) → Prop) (ta : DT) : dUn f ta δ Q = ta δ fun x => f x Q := rfl
@[simp] theorem dCB_e (f : List R → (R → Prop) → Prop) (ta : DL') : dCB f ta δ Q = ta δ fun x => f x Q := rfl
@[simp] theorem dNil_e {Q : List R → Prop} : dNil δ Q = Q [] := rfl
@[simp] theorem dCons_e {Q : List R → Prop} (te : DT) (t : DL') : dCons te t δ Q = te δ fun r => t δ fun rs => Q (r :: rs) := rfl
@[simp] theorem dTest_e {Q : Bool → Prop} (t : DT) : dTest t δ Q = t δ fun x => onB x Q := rfl
@[simp] theorem dAnd_e {Q : Bool → Prop} (t u : DB) : dAnd t u δ Q = t δ fun k => if k = true then u δ Q else Q false := rfl
@[simp] theorem dOr_e {Q : Bool → Prop} (t u : DB) : dOr t u δ Q = t δ fun k => if k = true then Q true else u δ Q := rfl
@[simp] theorem dNot_e {Q : Bool → Prop} (t : DB) : dNot t δ Q = t δ fun k => Q (!k) := rfl
@[simp] theorem dYes_e {Q : Bool → Prop} : dYes δ Q = Q true := rfl
@[simp] theorem dIf_e (t : DB) (ta tb : DT) : dIf t ta tb δ Q = t δ fun k => if k = true then ta δ Q else tb δ Q := rfl
@[simp] theorem dAndV_e (ta tb : DT) : dAndV ta tb δ Q = ta δ fun x => onB x fun k => if k = true then tb δ Q else Q (.val (.sh (.bool false))) := rfl
@[simp] theorem dOrV_e (ta tb : DT) : dOrV ta tb δ Q = ta δ fun x => onB x fun k => if k = true then Q (.val (.sh (.bool true))) else tb δ Q := rfl
@[simp] theorem dNotV_e (ta : DT) : dNotV ta δ Q = ta δ fun x => onB x fun k => Q (.val (.sh (.bool (!k)))) := rfl
@[simp] theorem onB_e {Q : Bool → Prop} (k : Bool) : onB (.val (.sh (.bool k))) Q = Q k := rfl
@[simp] theorem onI_e {Q : Int → Prop} (k : Int) : onI (.val (.sh (.int k))) Q = Q k := rfl
@[simp] theorem on2_vv (f : D → D → (R → Prop) → Prop) (d e : D) : on2 f (.val (.sh d)) (.val (.sh e)) Q = f d e Q := by unfold on2; simp
@[simp] theorem on2_bv (f : D → D → (R → Prop) → Prop) (d e : D) : on2 f (.br d) (.val (.sh e)) Q = f d e Q := by unfold on2; simp
@[simp] theorem on2_vb (f : D → D → (R → Prop) → Prop) (d e : D) : on2 f (.val (.sh d)) (.br e) Q = f d e Q := by unfold on2; simp
@[simp] theorem on2_bb (f : D → D → (R → Prop) → Prop) (d e : D) : on2 f (.br d) (.br e) Q = f d e Q := by unfold on2; simp
@[simp] theorem on2_ov (f : D → D → (R → Prop) → Prop) (ds : List D) (e : D) : on2 f (.val (.own (ds.map DV.sh))) (.val (.sh e)) Q = f (.list ds) e Q := by unfold on2; simp
@[simp] theorem on2_oo (f : D → D → (R → Prop) → Prop) (ds es : List D) : on2 f (.val (.own (ds.map DV.sh))) (.val (.own (es.map DV.sh))) Q = f (.list ds) (.list es) Q := by unfold on2; simp
@[simp] theorem on2_bo (f : D → D → (R → Prop) → Prop) (d : D) (es : List D) : on2 f (.br d) (.val (.own (es.map DV.sh))) Q = f d (.list es) Q := by unfold on2; simp
@[simp] theorem on2_bn (f : D → D → (R → Prop) → Prop) (d : D) : on2 f (.br d) (.val (.own [])) Q = f d (.list []) Q := on2_bo f d []
@[simp] theorem on2_vo (f : D → D → (R → Prop) → Prop) (d : D) (es : List D) : on2 f (.val (.sh d)) (.val (.own (es.map DV.sh))) Q = f d (.list es) Q := by unfold on2; simp
@[simp] theorem fRel_e (side : D → D → Prop) (res : D → D → Bool) : fRel side res d e Q = (side d e ∧ Q (.val (.sh (.bool (res d e))))) := rfl
@[simp] theorem rEqv_int (i j : Int) : rEqv (.int i) (.int j) = decide (i = j) := rfl
@[simp] theorem rLtD_int (i j : Int) : rLtD (.int i) (.int j) = decide (i < j) := rfl
@[simp] theorem rLeD_int (i j : Int) : rLeD (.int i) (.int j) = decide (i ≤ j) := rfl
@[simp] theorem rEqv_bool (i j : Bool) : rEqv (.bool i) (.bool j) = (i == j) := by rw [rEqv_eq, PyData.eqv]
@[simp] theorem rIsD_bool (i j : Bool) : rIsD (.bool i) (.bool j) = decide (i = j) := rfl
@[simp] theorem sIs_bool (i j : Bool) : sIs (.bool i) (.bool j) = True := rfl
theorem depth_int (i : Int) : (PyData.int i).depth = 0 := by rw [PyData.depth]
@[simp] theorem sDep_int (i : Int) (e : D) : sDep (.int i) e ↔ True := by unfold sDep; rw [depth_int]; simp
@[simp] theorem sDep_int' (i : Int) (e : D) : sDep e (.int i) ↔ True := by unfold sDep; rw [depth_int]; simp
@[simp] theorem sDep_bool (i : Bool) (e : D) : sDep (.bool i) e ↔ True := by unfold sDep; rw [PyData.depth]; simp
@[simp] theorem sDep_list0 (e : D) : sDep e (.list []) ↔ True := ⟨fun _ => trivial, fun _ => sDep_nil e⟩
@[simp] theorem sDep_str (x y : Str) : sDep (.str x) (.str y) ↔ True := by unfold sDep; rw [PyData.depth]; simp
@[simp] theorem rEqv_str (x y : Str) : rEqv (.str x) (.str y) = decide (x = y) := rfl
@[simp] theorem sLt_int (i j : Int) : sLt (.int i) (.int j) ↔ True := by
  refine ⟨fun _ => trivial, fun _ => ⟨by simp [PySem.W.alike], (by intro h; cases h), ?_⟩⟩
  rw [depth_int]; simp
@[simp] theorem dChain_e (f g : D → D → (R → Prop) → Prop) (ta tb tc : DT) : dChain f g ta tb tc δ Q = ta δ fun x => tb δ fun y => on2 f x y fun z => onB z fun k => if k = true then tc δ fun w => on2 g y w Q else Q (.val (.sh (.bool false))) := rfl
@[simp] theorem fI_e (side : Int → Int → Prop) (g : Int → Int → Int) (i j : Int) : fI side g (.int i) (.int j) Q = (side i j ∧ Q (.val (.sh (.int (g i j))))) := rfl
@[simp] theorem sT_e (i j : Int) : sT i j = True := rfl
@[simp] theorem fU_e (g : Int → Int) (i : Int) : fU g (.val (.sh (.int i))) Q = Q (.val (.sh (.int (g i)))) := rfl
@[simp] theorem fAdd_ints (i j : Int) : fAdd (.val (.sh (.int i))) (.val (.sh (.int j))) Q = Q (.val (.sh (.int (i + j)))) := by unfold fAdd; simp
@[simp] theorem fAdd_tups (a b : List D) : fAdd (.val (.sh (.tuple a))) (.val (.sh (.tuple b))) Q = (a.length + b.length ≤ sizeLine ∧ Q (.val (.sh (.tuple (a ++ b))))) := by unfold fAdd; simp
@[simp] theorem fAdd_owns (a b : List D) : fAdd (.val (.own (a.map DV.sh))) (.val (.own (b.map DV.sh))) Q = (a.length + b.length ≤ sizeLine ∧ Q (.val (.own ((a ++ b).map DV.sh)))) := by unfold fAdd; simp
@[simp] theorem fMul_ints (i j : Int) : fMul (.val (.sh (.int i))) (.val (.sh (.int j))) Q = (CMul i j ∧ Q (.val (.sh (.int (i * j))))) := by unfold fMul; simp
/-- an item -/
def onIt (x : R) (o : Option D) (Q : R → Prop) : Prop := match o with
  | some d => Q (itemR x d)
  | none => False
@[simp] theorem fIx_vt (ds : List D) (i : Int) : fIx (.val (.sh (.tuple ds))) (.val (.sh (.int i))) Q = onIt (.val (.sh (.tuple ds))) (atI ds i) Q := by unfold fIx onIt; simp only [onI_e, R.rd_sh, R.rd_br]; cases atI ds i <;> rfl
@[simp] theorem fIx_vl (ds : List D) (i : Int) : fIx (.val (.sh (.list ds))) (.val (.sh (.int i))) Q = onIt (.val (.sh (.list ds))) (atI ds i) Q := by unfold fIx onIt; simp only [onI_e, R.rd_sh, R.rd_br]; cases atI ds i <;> rfl
@[simp] theorem fIx_bl (ds : List D) (i : Int) : fIx (.br (.list ds)) (.val (.sh (.int i))) Q = onIt (.br (.list ds)) (atI ds i) Q := by unfold fIx onIt; simp only [onI_e, R.rd_sh, R.rd_br]; cases atI ds i <;> rfl
@[simp] theorem fIx_bt (ds : List D) (i : Int) : fIx (.br (.tuple ds)) (.val (.sh (.int i))) Q = onIt (.br (.tuple ds)) (atI ds i) Q := by unfold fIx onIt; simp only [onI_e, R.rd_sh, R.rd_br]; cases atI ds i <;> rfl
@[simp] theorem onIt_v (x : DV) (d : D) : onIt (.val x) (some d) Q = Q (.val (.sh d)) := rfl
@[simp] theorem onIt_b (x d : D) : onIt (.br x) (some d) Q = Q (if noLst d then .val (.sh d) else .br d) := rfl
@[simp] theorem atI_0 {α : Type} (a : α) (l : List α) : atI (a :: l) 0 = some a := atI_nat (j := 0) rfl
@[simp] theorem atI_1 {α : Type} (a b : α) (l : List α) : atI (a :: b :: l) 1 = some b := atI_nat (j := 1) rfl
theorem atI_get' {α : Type} {l : List α} {j : Nat} (h : j < l.length) : atI l (j : Int) = some l[j] := atI_nat (List.getElem?_eq_getElem h)
@[simp] theorem on1_e (f : R → (R → Prop) → Prop) (x : R) : on1 f [x] Q = f x Q := rfl
@[simp] theorem fLen_vt (ds : List D) : fLen (.val (.sh (.tuple ds))) Q = Q (.val (.sh (.int ds.length))) := by unfold fLen; simp
@[simp] theorem fLen_vl (ds : List D) : fLen (.val (.sh (.list ds))) Q = Q (.val (.sh (.int ds.length))) := by unfold fLen; simp
@[simp] theorem fLen_bl (ds : List D) : fLen (.br (.list ds)) Q = Q (.val (.sh (.int ds.length))) := by unfold fLen; simp
@[simp] theorem fLen_o (ds : List D) : fLen (.val (.own (ds.map DV.sh))) Q = Q (.val (.sh (.int ds.length))) := by unfold fLen; simp
@[simp] theorem fList_vl (ds : List D) : fList (.val (.sh (.list ds))) Q = Q (.val (.own (ds.map DV.sh))) := by unfold fList; simp
@[simp] theorem fList_vt (ds : List D) : fList (.val (.sh (.tuple ds))) Q = Q (.val (.own (ds.map DV.sh))) := by unfold fList; simp
@[simp] theorem fList_o (ds : List D) : fList (.val (.own (ds.map DV.sh))) Q = Q (.val (.own (ds.map DV.sh))) := by unfold fList; simp
@[simp] theorem fTuple_o (ds : List D) : fTuple (.val (.own (ds.map DV.sh))) Q = Q (.val (.sh (.tuple ds))) := by unfold fTuple; simp
@[simp] theorem fTuple_l (ds : List D) : fTuple (.val (.sh (.list ds))) Q = Q (.val (.sh (.tuple ds))) := by unfold fTuple; simp
@[simp] theorem fTuple_t (ds : List D) : fTuple (.val (.sh (.tuple ds))) Q = Q (.val (.sh (.tuple ds))) := by unfold fTuple; simp
theorem fTuple_b {ds : List D} (h : noLsts ds = true) : fTuple (.br (.list ds)) Q = Q (.val (.sh (.tuple ds))) := by unfold fTuple; simp [sup_br, h]
@[simp] theorem fInt_e (i : Int) : fInt (.val (.sh (.int i))) Q = Q (.val (.sh (.int i))) := rfl
theorem fBools_o {g : List Bool → Bool} (bs : List Bool) : fBools g (.val (.own ((bs.map PyData.bool).map DV.sh))) Q = Q (.val (.sh (.bool (g bs)))) := by unfold fBools; rw [rd_own]; simp only [boolsOf_map]
@[simp] theorem fIsi_e (T : String) (d : D) : fIsi T (.val (.sh d)) Q = Q (.val (.sh (.bool (tyIs T d)))) := by unfold fIsi; simp
/-! tuples, calls -/
@[simp] theorem dTup_e (t : DL') : dTup t δ Q = t δ fun rs => match fdL rs with
  | some ds => Q (.val (.sh (.tuple ds)))
  | none => False := rfl
@[simp] theorem dLst_e (t : DL') : dLst t δ Q = t δ fun rs => match fxL rs with
  | some ds => Q (.val (.own ds))
  | none => False := rfl
@[simp] theorem dCall_e (g : Sg) (t : DL') : dCall g t δ Q = t δ fun rs => match arL rs with
  | some ds => g ds fun dv => Q (.val dv)
  | none => False := rfl
@[simp] theorem dCallK_e (g : Sg) (p : List DV → List DV) (t : DL') : dCallK g p t δ Q = t δ fun rs => match arL rs with
  | some ds => g (p ds) fun dv => Q (.val dv)
  | none => False := rfl
@[simp] theorem fdL_nil : fdL [] = some [] := rfl
@[simp] theorem fdL_v (d : D) (rs : List R) : fdL (.val (.sh d) :: rs) = (fdL rs).map (d :: ·) := by
  rw [fdL, R.fd_sh]
  cases fdL rs <;> rfl
@[simp] theorem fdL_o (ds : List D) (rs : List R) : fdL (.val (.own (ds.map DV.sh)) :: rs) = (fdL rs).map (.list ds :: ·) := by
  rw [fdL, fd_own]
  cases fdL rs <;> rfl
@[simp] theorem fxL_nil : fxL [] = some [] := rfl
@[simp] theorem fxL_v (d : DV) (rs : List R) : fxL (.val d :: rs) = (fxL rs).map (d :: ·) := by
  rw [fxL, R.fx_val]
  cases fxL rs <;> rfl
@[simp] theorem arL_nil : arL [] = some [] := rfl
@[simp] theorem arL_v (d : D) (rs : List R) : arL (.val (.sh d) :: rs) = (arL rs).map (.sh d :: ·) := by
  rw [arL, ar_sh]
  cases arL rs <;> rfl
@[simp] theorem arL_t (n : Nat) (rs : List R) : arL (.val (.tok n) :: rs) = (arL rs).map (.tok n :: ·) := by
  rw [arL, ar_tok]
  cases arL rs <;> rfl
@[simp] theorem arL_o (ds : List D) (rs : List R) : arL (.val (.own (ds.map DV.sh)) :: rs) = (arL rs).map (.sh (.list ds) :: ·) := by
  have : (R.val (.own (ds.map DV.sh))).ar = some (.sh (.list ds)) := by
    show (R.fd _).map DV.sh = _
    rw [fd_own]; rfl
  rw [arL, this]
  cases arL rs <;> rfl
@[simp] theorem arL_k (ds : List D) (rs : List R) : arL (.val (.kt ds) :: rs) = (arL rs).map (.sh (.tuple ds) :: ·) := by
  have : (R.val (.kt ds)).ar = some (.sh (.tuple ds)) := by
    show (R.fd (.val (.kt ds))).map DV.sh = _
    rw [fd_kt]; rfl
  rw [arL, this]
  cases arL rs <;> rfl
end
/-! ### statements -/
section
variable {δ : DE} {E : DEnds}
@[simp] theorem dSeq2_e (t u : DS) : dSeq2 t u E δ = t { E with nx := u E } δ := rfl
@[simp] theorem dNext_e : dNext E δ = E.nx δ := rfl
@[simp] theorem dNever_e : dNever E δ = False := rfl
@[simp] theorem dIfS_e (c : DB) (t u : DS) : dIfS c t u E δ = c δ fun k => if k = true then t E δ else u E δ := rfl
@[simp] theorem dSet_e (i : Nat) (te : DT) : dSet i te E δ = te δ fun r => match r.fx with
  | some dv => i < δ.length ∧ E.nx (δ.set i (some dv))
  | none => False := rfl
@[simp] theorem dRet_e (te : DT) : dRet te E δ = te δ fun r => match r.fx with
  | some dv => E.rt dv
  | none => False := rfl
@[simp] theorem dRetV_e (i : Nat) : dRetV i E δ = match δ[i]? with
  | some (some dv) => E.rt dv
  | _ => False := rfl
@[simp] theorem dExpr_e (te : DT) : dExpr te E δ = te δ fun _ => E.nx δ := rfl
@[simp] theorem dPar_e (i j : Nat) (t : DL') : dPar i j t E δ = t δ fun rs => match fxL rs with
  | some [d1, d2] => i < δ.length ∧ j < δ.length ∧ E.nx ((δ.set i (some d1)).set j (some d2))
  | _ => False := rfl
@[simp] theorem dUnp_e (is : List Nat) (t : DL') : dUnp is t E δ = t δ fun rs => match fxL rs with
  | some ds => is.length = ds.length ∧ (∀ i ∈ is, i < δ.length) ∧ E.nx (setD δ is ds)
  | none => False := rfl
@[simp] theorem dFrz_e (i : Nat) (t : DS) : dFrz i t E δ = match δ[i]? with
  | some (some dv) => (match dv.fz with
    | some d => t E (δ.set i (some (.sh d)))
    | none => False)
  | _ => False := rfl
@[simp] theorem dFor_e (it : DI) (pat : DP) (body : DS) : dFor it pat body E δ = it δ fun ds => forRun pat body E ds δ := rfl
@[simp] theorem forRun_nil (pat : DP) (body : DS) : forRun pat body E [] δ = E.nx δ := rfl
@[simp] theorem forRun_cons (pat : DP) (body : DS) (d : D) (ds : List D) : forRun pat body E (d :: ds) δ = pat d δ fun δ' => body { nx := forRun pat body E ds, rt := E.rt, bk := E.nx, ct := forRun pat body E ds } δ' := rfl
@[simp] theorem dRange1_e {Q : List D → Prop} (t : DT) : dRange1 t δ Q = t δ fun x => onI x fun j => small j ∧ Q (rangeD 0 j) := rfl
@[simp] theorem dRange2_e {Q : List D → Prop} (ta tb : DT) : dRange2 ta tb δ Q = ta δ fun x => onI x fun i => tb δ fun y => onI y fun j => small i ∧ small j ∧ Q (rangeD i j) := rfl
@[simp] theorem dSeq_e {Q : List D → Prop} (t : DT) : dSeq t δ Q = t δ fun r => match r.fd with
  | some d => (match seqOf d with
    | some ds => ds.length ≤ sizeLine → Q ds
    | none => False)
  | none => False := rfl
@[simp] theorem dSeqQ_e {Q : List D → Prop} (t : DT) : dSeqQ t δ Q = t δ fun r => match r.sup with
  | some d => (match seqOf d with
    | some ds => ds.length ≤ sizeLine → Q ds
    | none => False)
  | none => False := rfl
@[simp] theorem seqOf_t (ds : List D) : seqOf (.tuple ds) = some ds := rfl
@[simp] theorem seqOf_l (ds : List D) : seqOf (.list ds) = some ds := rfl
@[simp] theorem gN_e {Q : DE → Prop} (i : Nat) (d : D) : gN i d δ Q = (i < δ.length ∧ Q (δ.set i (some (.sh d)))) := rfl
@[simp] theorem gT_e {Q : DE → Prop} (n : Nat) (gs : List D → DE → (DE → Prop) → Prop) (ds : List D) : gT n gs (.tuple ds) δ Q = (ds.length = n ∧ gs ds δ Q) := rfl
@[simp] theorem gsNil_e {Q : DE → Prop} : gsNil [] δ Q = Q δ := rfl
@[simp] theorem gsCons_e {Q : DE → Prop} (g : DP) (gs : List D → DE → (DE → Prop) → Prop) (d : D) (r : List D) : gsCons g gs (d :: r) δ Q = g d δ fun δ' => gs r δ' Q := rfl
@[simp] theorem dLc_e {Q : R → Prop} (it : DI) (pat : DP) (tst : DB) (elt : DT) (vs : List Nat) : dLc it pat tst elt vs δ Q = it δ fun ds => lcRun pat tst elt (wipeD δ vs) ds [] fun acc => Q (.val (.own acc)) := rfl
@[simp] theorem dLc2_e {Q : R → Prop} (it : DI) (pat : DP) (tst : DB) (it1 : DI) (pat1 : DP) (tst1 : DB) (elt : DT) (vs vs1 : List Nat) : dLc2 it pat tst it1 pat1 tst1 elt vs vs1 δ Q = it δ fun ds => lcRun2 pat tst it1 pat1 tst1 elt vs1 (wipeD δ vs) ds [] fun acc => Q (.val (.own acc)) := rfl
@[simp] theorem wipeD_nil : wipeD δ [] = δ := rfl
@[simp] theorem wipeD_cons (v : Nat) (vs : List Nat) : wipeD δ (v :: vs) = (wipeD δ vs).set v none := rfl
@[simp] theorem setD_nil (ds : List DV) : setD δ [] ds = δ := by cases ds <;> rfl
@[simp] theorem setD_cons (i : Nat) (is : List Nat) (v : DV) (vs : List DV) : setD δ (i :: is) (v :: vs) = setD (δ.set i (some v)) is vs := rfl
theorem small_nat {n : Nat} (h : n ≤ 1000000) : small (n : Int) := by unfold small; omega
theorem rangeD_nat (n : Nat) : rangeD 0 (n : Int) = (List.range n).map fun i : Nat => PyData.int i := by
  unfold rangeD
  simp
/-- the turns of a comprehension, each item's outcome known (or drawn) -/
theorem lcRun_rel {α : Type} {pat : DP} {tst : DB} {elt : DT} {Q : List DV → Prop} (f : α → D) (R : α → Option DV → Prop) : ∀ (xs : List α) (acc : List DV), acc.length + xs.length ≤ sizeLine →
    (∀ x ∈ xs, ∀ P : Option DV → Prop, (∀ o, R x o → P o) → pat (f x) δ fun δ' => tst δ' fun k => if k = true then elt δ' fun r => (match r.fx with | some dv => P (some dv) | none => False) else P none) →
    (∀ os : List (Option DV), Paired R xs os → Q (acc ++ os.filterMap id)) → lcRun pat tst elt δ (xs.map f) acc Q
  | [], acc, _, _, h => by
    have := h [] .nil
    simpa [lcRun] using this
  | x :: xs, acc, hz, st, h => by
    rw [List.length_cons] at hz
    refine st x List.mem_cons_self (fun o => match o with
      | some dv => acc.length < sizeLine ∧ lcRun pat tst elt δ (xs.map f) (acc ++ [dv]) Q
      | none => lcRun pat tst elt δ (xs.map f) acc Q) (fun o ro => ?_)
    cases o with
    | some dv =>
      refine ⟨by omega, lcRun_rel f R xs (acc ++ [dv]) (by rw [List.length_append, List.length_singleton]; omega) (fun y m => st y (List.mem_cons_of_mem _ m)) fun os p => ?_⟩
      have := h (some dv :: os) (.cons ro p)
      simpa using this
    | none =>
      refine lcRun_rel f R xs acc (by omega) (fun y m => st y (List.mem_cons_of_mem _ m)) fun os p => ?_
      have := h (none :: os) (.cons ro p)
      simpa using this
theorem lcRun_fn {α : Type} {pat : DP} {tst : DB} {elt : DT} {Q : List DV → Prop} (f : α → D) (g : α → Option DV) (xs : List α) (acc : List DV) (hz : acc.length + xs.length ≤ sizeLine)
    (st : ∀ x ∈ xs, ∀ P : Option DV → Prop, P (g x) → pat (f x) δ fun δ' => tst δ' fun k => if k = true then elt δ' fun r => (match r.fx with | some dv => P (some dv) | none => False) else P none)
    (h : Q (acc ++ xs.filterMap g)) : lcRun pat tst elt δ (xs.map f) acc Q := by
  refine lcRun_rel f (fun x o => o = g x) xs acc hz (fun x m P hP => st x m P (hP _ rfl)) fun os p => ?_
  have : os.filterMap id = xs.filterMap g := by
    clear st h hz
    induction p with
    | nil => rfl
    | cons r t ih =>
      subst r
      rw [List.filterMap_cons, List.filterMap_cons, ih]
      rfl
  rw [this]; exact h
/-- .. each item kept -/
theorem lcRun_map {α : Type} {pat : DP} {elt : DT} {Q : List DV → Prop} (f : α → D) (g : α → DV) (xs : List α) (hz : xs.length ≤ sizeLine)
    (st : ∀ x ∈ xs, ∀ P : DV → Prop, P (g x) → pat (f x) δ fun δ' => elt δ' fun r => (match r.fx with | some dv => P dv | none => False))
    (h : Q (xs.map g)) : lcRun pat dYes elt δ (xs.map f) [] Q := by
  refine lcRun_fn f (fun x => some (g x)) xs [] (by simpa using hz) (fun x m P hP => ?_) (by simpa using h)
  exact st x m (fun dv => P (some dv)) hP
/-- the list in a slot -/
def onO (o : Option (Option DV)) (k : List DV → Prop) : Prop := match o with
  | some (some (.own es)) => k es
  | _ => False
@[simp] theorem onOwn_e (i : Nat) (k : List DV → Prop) : onOwn δ i k = onO δ[i]? k := rfl
@[simp] theorem onO_e (es : List DV) (k : List DV → Prop) : onO (some (some (.own es))) k = k es := rfl
@[simp] theorem dAppend_e (i : Nat) (te : DT) : dAppend i te E δ = onOwn δ i fun es => es.length < sizeLine ∧ te δ fun r => match r.fx with
  | some dv => E.nx (δ.set i (some (.own (es ++ [dv]))))
  | none => False := rfl
@[simp] theorem dExtend_e (i : Nat) (te : DT) : dExtend i te E δ = onOwn δ i fun es => te δ fun r => match r with
  | .val (.own zs) => es.length + zs.length ≤ sizeLine ∧ E.nx (δ.set i (some (.own (es ++ zs))))
  | r => (match r.sup with
    | some (.list ds) => es.length + ds.length ≤ sizeLine ∧ E.nx (δ.set i (some (.own (es ++ ds.map DV.sh))))
    | _ => False) := rfl
@[simp] theorem dSetIx_e (i : Nat) (tx te : DT) : dSetIx i tx te E δ = te δ fun r => match r.fx with
  | some dv => onOwn δ i fun es => tx δ fun y => onI y fun n => match ixN es.length n with
    | some j => E.nx (δ.set i (some (.own (es.set j dv))))
    | none => False
  | none => False := rfl
@[simp] theorem dPop_e (i j : Nat) : dPop i j E δ = onOwn δ j fun es => lastSh es fun d => i < δ.length ∧ E.nx ((δ.set j (some (.own es.dropLast))).set i (some (.sh d))) := rfl
@[simp] theorem dAppPop_e (i j : Nat) (te : DT) : dAppPop i j te E δ = onOwn δ i fun fs => fs.length < sizeLine ∧ onOwn δ j fun es => te δ fun r => onI r fun n => (-(2 ^ 63) ≤ n ∧ n < 2 ^ 63) ∧ match seqIndex? n es.length with
  | some k => atSh es k fun d => E.nx ((δ.set j (some (.own (es.eraseIdx k)))).set i (some (.own (fs ++ [.sh d]))))
  | none => False := rfl
theorem set_own (ds : List D) (j : Nat) (d : D) : (ds.map DV.sh).set j (.sh d) = (ds.set j d).map DV.sh := by rw [List.map_set]
theorem app_owns (ds es : List D) : ds.map DV.sh ++ es.map DV.sh = (ds ++ es).map DV.sh := by rw [List.map_append]
@[simp] theorem ixN_n {n j : Nat} : ixN n (j : Int) = if j < n then some j else none := by
  unfold ixN
  rw [if_pos (by omega)]
  by_cases h : j < n
  · rw [if_pos h, if_pos (by omega)]; simp
  · rw [if_neg h, if_neg (by omega)]
@[simp] theorem dZip_e {Q : List D → Prop} (k : Bool) (t : DL') : dZip k t δ Q = t δ fun rs => match rs with
  | [x, y] => (match (if k then x.fd else x.sup), (if k then y.fd else y.sup) with
    | some (.tuple ds), some (.tuple es) => Q (zipD ds es)
    | some (.list ds), some (.list es) => Q (zipD ds es)
    | _, _ => False)
  | _ => False := rfl
@[simp] theorem dSlice_e {Q : R → Prop} (t : DT) (tl th : DO) : dSlice t tl th δ Q = t δ fun x => tl δ fun lo => th δ fun hi => fSl x lo hi Q := rfl
@[simp] theorem dPart_e {Q : Option Int → Prop} (t : DT) : dPart t δ Q = t δ fun r => onI r fun i => Q (some i) := rfl
@[simp] theorem dNoPart_e {Q : Option Int → Prop} : dNoPart δ Q = Q none := rfl
@[simp] theorem fSl_vt {Q : R → Prop} (ds : List D) (lo hi : Option Int) : fSl (.val (.sh (.tuple ds))) lo hi Q = Q (.val (.sh (.tuple (DL.cutD ds lo hi)))) := by unfold fSl; simp
@[simp] theorem fSl_vl {Q : R → Prop} (ds : List D) (lo hi : Option Int) : fSl (.val (.sh (.list ds))) lo hi Q = Q (.val (.own ((DL.cutD ds lo hi).map DV.sh))) := by unfold fSl; simp
@[simp] theorem dListRg1_e {Q : R → Prop} (t : DT) : dListRg1 t δ Q = t δ fun x => onI x fun n => RgOk 0 n ∧ Q (.val (.own ((rangeD 0 n).map DV.sh))) := rfl
@[simp] theorem dTupRg1_e {Q : R → Prop} (t : DT) : dTupRg1 t δ Q = t δ fun x => onI x fun n => RgOk 0 n ∧ Q (.val (.sh (.tuple (rangeD 0 n)))) := rfl
@[simp] theorem fII_e {Q : R → Prop} (g : Int → Int → Int) (i j : Int) : fII g [.val (.sh (.int i)), .val (.sh (.int j))] Q = Q (.val (.sh (.int (g i j)))) := rfl
@[simp] theorem fBits_e {Q : R → Prop} (i : Int) : fBits (.val (.sh (.int i))) Q = Q (.val (.sh (.int (Builtin.Int.intBits i : Nat)))) := rfl
@[simp] theorem fSorted_o {Q : R → Prop} (ds : List D) : fSorted (.val (.own (ds.map DV.sh))) Q = ((PySem.W.AllAlike ds ∧ PySem.W.Sortable ds ∧ ∀ d ∈ ds, d.depth ≤ 60) ∧ Q (.val (.own ((sortD ds).map DV.sh)))) := by unfold fSorted; simp
@[simp] theorem fSorted_t {Q : R → Prop} (ds : List D) : fSorted (.val (.sh (.tuple ds))) Q = ((PySem.W.AllAlike ds ∧ PySem.W.Sortable ds ∧ ∀ d ∈ ds, d.depth ≤ 60) ∧ Q (.val (.own ((sortD ds).map DV.sh)))) := by unfold fSorted; simp
@[simp] theorem fSorted_l {Q : R → Prop} (ds : List D) : fSorted (.val (.sh (.list ds))) Q = ((PySem.W.AllAlike ds ∧ PySem.W.Sortable ds ∧ ∀ d ∈ ds, d.depth ≤ 60) ∧ Q (.val (.own ((sortD ds).map DV.sh)))) := by unfold fSorted; simp
@[simp] theorem fRepr_v {Q : R → Prop} (d : D) : fRepr (.val (.sh d)) Q = (sShow d ∧ Q (.val (.sh (.str d.shown)))) := by unfold fRepr; simp
@[simp] theorem dSortDC_e {Q : R → Prop} (it : DI) (pat : DP) (tst : DB) (tk tv : DT) (vs : List Nat) : dSortDC it pat tst tk tv vs δ Q = it δ fun ds => dcRun pat tst tk tv (wipeD δ vs) ds [] fun acc =>
  (PySem.W.AllAlike (acc.map tupD) ∧ PySem.W.Sortable (acc.map tupD) ∧ acc.length ≤ sizeLine) ∧ Q (.val (.own ((sortD (acc.map tupD)).map DV.sh))) := rfl
@[simp] theorem dIndex_kt {Q : R → Prop} {i : Nat} {te : DT} {ns : List Int} (h : δ[i]? = some (some (.kt (ns.map PyData.int)))) : dIndex i te δ Q = te δ fun r => onI r fun n => n ∈ ns ∧ Q (.val (.sh (.int (ns.idxOf n : Nat)))) := by
  unfold dIndex
  rw [h]
  simp only [numsOf_map]
end
end DL
set_option Elab.async false
set_option linter.all false
set_option maxRecDepth 100000
set_option maxHeartbeats 1000000
namespace HL
open PySem PySem.Spec L2 DL
open PyProof.Rows hiding St
/-! ### a promise -/
/-- for all a that pre allows: from the arguments to what post allows -/
def pr {A : Type} (args : A → List DV) (pre : A → Prop) (post : A → DV → Prop) : Sg := fun ds Q => ∃ a, ds = args a ∧ pre a ∧ ∀ dv, post a dv → Q dv
theorem pr_mono {A : Type} {args : A → List DV} {pre : A → Prop} {post : A → DV → Prop} : MonoG (pr args pre post) := fun ds Q Q' m ⟨a, e, p, q⟩ => ⟨a, e, p, fun dv h => m _ (q dv h)⟩
theorem pr_len {A : Type} {args : A → List DV} {pre : A → Prop} {post : A → DV → Prop} {n : Nat} (h : ∀ a, (args a).length = n) (ds : List DV) (Q : DV → Prop) (q : pr args pre post ds Q) : ds.length = n := by
  obtain ⟨a, rfl, _⟩ := q
  exact h a
/-- a call of a promise with a known outcome -/
theorem pr_call {A : Type} {args : A → List DV} {pre : A → Prop} {post : A → DV → Prop} {ds : List DV} {Q : DV → Prop} (a : A) (e : ds = args a) (p : pre a) (q : ∀ dv, post a dv → Q dv) : pr args pre post ds Q := ⟨a, e, p, q⟩
/-! ### masks -/
theorem bor_nat (a b : Nat) : Builtin.bitOr (a : Int) (b : Int) = ((a ||| b : Nat) : Int) := by
  have h : ∀ n : Nat, ¬ (0 ≤ Builtin.bitNot (n : Int)) := fun n => by unfold Builtin.bitNot; omega
  have t : ∀ n : Nat, (Builtin.bitNot (Builtin.bitNot (n : Int))).toNat = n := fun n => by unfold Builtin.bitNot; omega
  unfold Builtin.bitOr
  rw [bitAnd_nn (h a) (h b), t, t]
  unfold Builtin.bitNot
  omega
theorem band_nat (a b : Nat) : Builtin.bitAnd (a : Int) (b : Int) = ((a &&& b : Nat) : Int) := by
  rw [bitAnd_pp (Int.natCast_nonneg a) (Int.natCast_nonneg b)]
  simp
theorem shr_nat (m a : Nat) : (m : Int) / 2 ^ (a : Int).toNat = ((m >>> a : Nat) : Int) := by
  rw [Nat.shiftRight_eq_div_pow]
  simp
/-- m >> a & 1 == 1 -/
theorem bit_is (m a : Nat) : decide (Builtin.bitAnd ((m : Int) / 2 ^ (a : Int).toNat) 1 = 1) = m.testBit a := by
  rw [shr_nat]
  have := band_nat (m >>> a) 1
  rw [show ((1 : Nat) : Int) = 1 from rfl] at this
  rw [this, Nat.testBit, Nat.and_comm]
  have h : 1 &&& (m >>> a) = 0 ∨ 1 &&& (m >>> a) = 1 := by
    rw [Nat.and_comm, Nat.and_one_is_mod]
    omega
  rcases h with h | h <;> rw [h] <;> simp
theorem testBit_two (x i : Nat) : (2 ^ x : Nat).testBit i = decide (x = i) := Nat.testBit_two_pow
/-! ### pairs, books, hills -/
abbrev Pr := Nat × Nat
def prD (p : Pr) : D := .tuple [.int p.1, .int p.2]
def bookD (n : Nat) (ps : List Pr) : D := .tuple [.int n, .tuple (ps.map prD)]
def lotD (xs : List Nat) : D := .tuple (xs.map fun x : Nat => .int x)
def natsD (f : Nat → Nat) (n : Nat) : List D := (List.range n).map fun x => .int (f x : Nat)
def plt (p q : Pr) : Prop := p.1 < q.1 ∨ (p.1 = q.1 ∧ p.2 < q.2)
instance (p q : Pr) : Decidable (plt p q) := by unfold plt; infer_instance
theorem plt_irrefl (p : Pr) : ¬ plt p p := by unfold plt; omega
theorem plt_trans {p q r : Pr} (h : plt p q) (h' : plt q r) : plt p r := by unfold plt at *; omega
theorem plt_total (p q : Pr) (h : p ≠ q) : plt p q ∨ plt q p := by
  unfold plt
  have : p.1 ≠ q.1 ∨ p.2 ≠ q.2 := by
    rcases Nat.decEq p.1 q.1 with e | e
    · exact .inl e
    · refine .inr fun e2 => h (Prod.ext e e2)
  omega
/-- a row in strict order is told by its members -/
theorem strict_ext {α : Type} {lt : α → α → Prop} (ir : ∀ a, ¬ lt a a) (tr : ∀ {a b c}, lt a b → lt b c → lt a c) : ∀ {l m : List α}, l.Pairwise lt → m.Pairwise lt → (∀ x, x ∈ l ↔ x ∈ m) → l = m
  | [], [], _, _, _ => rfl
  | [], b :: m, _, _, h => by have := (h b).mpr List.mem_cons_self; cases this
  | a :: l, [], _, _, h => by have := (h a).mp List.mem_cons_self; cases this
  | a :: l, b :: m, hl, hm, h => by
    have hl' := List.pairwise_cons.mp hl
    have hm' := List.pairwise_cons.mp hm
    have e : a = b := by
      rcases List.mem_cons.mp ((h a).mp List.mem_cons_self) with e | ha
      · exact e
      · rcases List.mem_cons.mp ((h b).mpr List.mem_cons_self) with e | hb
        · exact e.symm
        · exact absurd (tr (hl'.1 b hb) (hm'.1 a ha)) (ir a)
    subst e
    congr 1
    refine strict_ext ir tr hl'.2 hm'.2 fun x => ⟨fun hx => ?_, fun hx => ?_⟩
    · rcases List.mem_cons.mp ((h x).mp (List.mem_cons_of_mem _ hx)) with e | q
      · subst e; exact absurd (hl'.1 x hx) (ir x)
      · exact q
    · rcases List.mem_cons.mp ((h x).mpr (List.mem_cons_of_mem _ hx)) with e | q
      · subst e; exact absurd (hm'.1 x hx) (ir x)
      · exact q
/-- the pairs of n names that r tells, in order -/
def prs (n : Nat) (r : Nat → Nat → Bool) : List Pr := (List.range n).flatMap fun a => ((List.range n).filter fun b => decide (a ≠ b) && r a b).map fun b => (a, b)
theorem mem_prs {n : Nat} {r : Nat → Nat → Bool} {p : Pr} : p ∈ prs n r ↔ p.1 < n ∧ p.2 < n ∧ p.1 ≠ p.2 ∧ r p.1 p.2 = true := by
  obtain ⟨a, b⟩ := p
  unfold prs
  simp only [List.mem_flatMap, List.mem_map, List.mem_filter, List.mem_range, Bool.and_eq_true, decide_eq_true_eq, Prod.mk.injEq]
  constructor
  · rintro ⟨a', ha, b', ⟨hb, hn, hr⟩, rfl, rfl⟩
    exact ⟨ha, hb, hn, hr⟩
  · rintro ⟨ha, hb, hn, hr⟩
    exact ⟨a, ha, b, ⟨hb, hn, hr⟩, rfl, rfl⟩
theorem range_sorted (n : Nat) : (List.range n).Pairwise (· < ·) := List.pairwise_lt_range
theorem sorted_prs (n : Nat) (r : Nat → Nat → Bool) : (prs n r).Pairwise plt := by
  unfold prs
  rw [List.pairwise_flatMap]
  refine ⟨fun a _ => ?_, ?_⟩
  · rw [List.pairwise_map]
    exact ((range_sorted n).filter _).imp fun h => .inr ⟨rfl, h⟩
  · refine (range_sorted n).imp fun {a a'} h p hp q hq => ?_
    obtain ⟨b, _, rfl⟩ := List.mem_map.mp hp
    obtain ⟨b', _, rfl⟩ := List.mem_map.mp hq
    exact .inl h
theorem prs_ext {n : Nat} {r : Nat → Nat → Bool} {ps : List Pr} (h : ps.Pairwise plt) (m : ∀ p, p ∈ ps ↔ p ∈ prs n r) : ps = prs n r := strict_ext plt_irrefl plt_trans h (sorted_prs n r) m
theorem prs_congr {n : Nat} {r s : Nat → Nat → Bool} (h : ∀ a b, a < n → b < n → a ≠ b → r a b = s a b) : prs n r = prs n s :=
  prs_ext (sorted_prs n r) fun p => by
    rw [mem_prs, mem_prs]
    constructor
    · rintro ⟨h1, h2, h3, h4⟩; exact ⟨h1, h2, h3, h _ _ h1 h2 h3 ▸ h4⟩
    · rintro ⟨h1, h2, h3, h4⟩; exact ⟨h1, h2, h3, (h _ _ h1 h2 h3).symm ▸ h4⟩
/-- a book -/
structure Good (n : Nat) (ps : List Pr) : Prop where
  lo : 1 ≤ n
  hi : n ≤ 10
  ok : ∀ p ∈ ps, p.1 < n ∧ p.2 < n ∧ p.1 ≠ p.2
  st : ps.Pairwise plt
theorem good_prs {n : Nat} {r : Nat → Nat → Bool} (lo : 1 ≤ n) (hi : n ≤ 10) : Good n (prs n r) := ⟨lo, hi, fun p m => by
  obtain ⟨h1, h2, h3, _⟩ := mem_prs.mp m
  exact ⟨h1, h2, h3⟩, sorted_prs n r⟩
/-- a hill: a book that is its own closing -/
structure Hill (n : Nat) (ps : List Pr) : Prop where
  good : Good n ps
  tr : ∀ a b c, (a, b) ∈ ps → (b, c) ∈ ps → a ≠ c → (a, c) ∈ ps
/-- there is a row of pairs from a to b -/
inductive Rch (ps : List Pr) (a : Nat) : Nat → Prop
  | refl : Rch ps a a
  | step {b c : Nat} : Rch ps a b → (b, c) ∈ ps → Rch ps a c
theorem Rch.trans {ps : List Pr} {a b c : Nat} (h : Rch ps a b) (h' : Rch ps b c) : Rch ps a c := by
  induction h' with
  | refl => exact h
  | step _ m ih => exact .step ih m
theorem Rch.mono {ps qs : List Pr} (k : ∀ p, p ∈ ps → p ∈ qs) {a b : Nat} (h : Rch ps a b) : Rch qs a b := by
  induction h with
  | refl => exact .refl
  | step _ m ih => exact .step ih (k _ m)
open Classical in
noncomputable def reach (ps : List Pr) (a b : Nat) : Bool := decide (Rch ps a b)
open Classical in
theorem reach_iff {ps : List Pr} {a b : Nat} : reach ps a b = true ↔ Rch ps a b := by unfold reach; exact decide_eq_true_iff
/-- the closing -/
noncomputable def clo (n : Nat) (ps : List Pr) : List Pr := prs n (reach ps)
theorem Hill.rch {n : Nat} {ps : List Pr} (h : Hill n ps) {a b : Nat} (r : Rch ps a b) (ne : a ≠ b) : (a, b) ∈ ps := by
  induction r with
  | refl => exact absurd rfl ne
  | @step b c r m ih =>
    by_cases e : a = b
    · rw [e]; exact m
    · exact h.tr a b c (ih e) m ne
theorem hill_clo {n : Nat} {ps : List Pr} (lo : 1 ≤ n) (hi : n ≤ 10) : Hill n (clo n ps) := ⟨good_prs lo hi, fun a b c h1 h2 ne => by
  obtain ⟨x1, x2, x3, x4⟩ := mem_prs.mp h1
  obtain ⟨y1, y2, y3, y4⟩ := mem_prs.mp h2
  exact mem_prs.mpr ⟨x1, y2, ne, reach_iff.mpr ((reach_iff.mp x4).trans (reach_iff.mp y4))⟩⟩
theorem Hill.clo {n : Nat} {ps : List Pr} (h : Hill n ps) : HL.clo n ps = ps := by
  refine (prs_ext h.good.st fun p => ?_).symm
  rw [mem_prs]
  constructor
  · intro m
    obtain ⟨h1, h2, h3⟩ := h.good.ok p m
    exact ⟨h1, h2, h3, reach_iff.mpr (.step .refl m)⟩
  · rintro ⟨_, _, ne, r⟩
    exact h.rch (reach_iff.mp r) ne
theorem noLst_prD (p : Pr) : noLst (prD p) = true := by unfold prD; simp
theorem noLsts_prs (ps : List Pr) : noLsts (ps.map prD) = true := noLsts_all fun d m => by
  obtain ⟨p, _, rfl⟩ := List.mem_map.mp m
  exact noLst_prD p
end HL
set_option Elab.async false
set_option linter.all false
set_option maxRecDepth 100000
set_option maxHeartbeats 1000000
namespace HL
open PySem PySem.Spec L2 DL
open PyProof.Rows hiding St
/-! ### rows of masks -/
def upN (f : Nat → Nat) (j v : Nat) : Nat → Nat := fun x => if x = j then v else f x
theorem natsD_len (f : Nat → Nat) (n : Nat) : (natsD f n).length = n := by unfold natsD; simp
theorem natsD_get {f : Nat → Nat} {n b : Nat} (h : b < n) : (natsD f n)[b]? = some (.int (f b : Nat)) := by unfold natsD; simp [h]
theorem natsD_at {f : Nat → Nat} {n b : Nat} (h : b < n) : atI (natsD f n) (b : Int) = some (.int (f b : Nat)) := atI_nat (natsD_get h)
theorem natsD_set {f : Nat → Nat} {n b v : Nat} (h : b < n) : (natsD f n).set b (.int (v : Nat)) = natsD (upN f b v) n := by
  unfold natsD upN
  refine List.ext_getElem (by simp) fun i h1 h2 => ?_
  simp only [List.length_map, List.length_range] at h2
  rw [List.getElem_set]
  by_cases e : b = i
  · subst e; simp
  · rw [if_neg e]
    simp [Ne.symm e]
theorem natsD_own {f : Nat → Nat} {n b v : Nat} (h : b < n) : ((natsD f n).map DV.sh).set b (.sh (.int (v : Nat))) = (natsD (upN f b v) n).map DV.sh := by rw [set_own, natsD_set h]
theorem book_len {n : Nat} {ps : List Pr} (G : Good n ps) : ps.length ≤ 100 := by
  have key : ∀ (m : Nat) (ps : List Pr), ps.Pairwise plt → (∀ p ∈ ps, p.1 * 10 + p.2 < m ∧ p.2 < 10) → ps.length ≤ m := by
    intro m
    induction m with
    | zero =>
      intro ps _ h
      cases ps with
      | nil => simp
      | cons p _ => have := (h p List.mem_cons_self).1; omega
    | succ m ih =>
      intro ps st h
      have st' : (ps.filter fun p => decide (p.1 * 10 + p.2 < m)).Pairwise plt := st.filter _
      have l1 := ih _ st' (fun p hp => by
        have := List.mem_filter.mp hp
        exact ⟨by simpa using this.2, (h p this.1).2⟩)
      have l2 : (ps.filter fun p => !decide (p.1 * 10 + p.2 < m)).length ≤ 1 := by
        have st2 : (ps.filter fun p => !decide (p.1 * 10 + p.2 < m)).Pairwise plt := st.filter _
        cases e : ps.filter fun p => !decide (p.1 * 10 + p.2 < m) with
        | nil => simp
        | cons p r =>
          cases r with
          | nil => simp
          | cons q r =>
            rw [e] at st2
            have hp : p ∈ ps.filter fun p => !decide (p.1 * 10 + p.2 < m) := by rw [e]; simp
            have hq : q ∈ ps.filter fun p => !decide (p.1 * 10 + p.2 < m) := by rw [e]; simp
            have a1 := List.mem_filter.mp hp
            have a2 := List.mem_filter.mp hq
            have b1 := h p a1.1
            have b2 := h q a2.1
            have c := (List.pairwise_cons.mp st2).1 q (by simp)
            simp at a1 a2
            unfold plt at c
            omega
      have l3 : ps.length = (ps.filter fun p => decide (p.1 * 10 + p.2 < m)).length + (ps.filter fun p => !decide (p.1 * 10 + p.2 < m)).length := by
        clear ih st st' l1 l2 h
        induction ps with
        | nil => rfl
        | cons p ps ih =>
          rw [List.filter_cons, List.filter_cons, List.length_cons]
          by_cases z : p.1 * 10 + p.2 < m
          · simp [z] at ih ⊢; omega
          · simp [z] at ih ⊢; omega
      omega
  have h := G.ok
  have := G.hi
  exact key 100 ps G.st fun p hp => by have := h p hp; omega
theorem pow_cast (x : Nat) : (2 : Int) ^ x = ((2 ^ x : Nat) : Int) := by simp
theorem small_n {n : Nat} (h : n ≤ 1000) : small (n : Int) := small_nat (by omega)
def g_lows : Sg := pr (fun x : Nat × List Pr => [.sh (bookD x.1 x.2)]) (fun x => Good x.1 x.2) (fun x dv => ∃ f : Nat → Nat, dv = ownL (natsD f x.1) ∧ ∀ b a, b < x.1 → ((f b).testBit a = true ↔ a = b ∨ (a, b) ∈ x.2))
def n_lows : List Str := ["hill", "found", "a", "b", "x"]
def t_lows : DS := dSeq2 (dSet 1 (dLc (dRange1 (dOpR fIx (dVar 0) (dC (.int 0)))) (gN 4) (dYes) (dOp fShl (dC (.int 1)) (dVar 4)) [4])) (dSeq2 (dFor (dSeq (dOpR fIx (dVar 0) (dC (.int 1)))) (gT 2 (gsCons (gN 2) (gsCons (gN 3) (gsNil)))) (dSetIx 1 (dVar 3) (dOp fOr (dOpR fIx (dVar 1) (dVar 3)) (dOp fShl (dC (.int 1)) (dVar 2))))) (dRetV 1))
theorem p_lows (ds : List DV) (Q : DV → Prop) (h : g_lows ds Q) : t_lows { nx := fun _ => Q (.sh .none), rt := Q } (startD n_lows ds) := by
  obtain ⟨⟨n, ps⟩, rfl, G, q⟩ := h
  have hi : n ≤ 10 := G.hi
  simp [t_lows, startD, n_lows, bookD]
  refine ⟨small_n (by omega), ?_⟩
  rw [rangeD_nat]
  refine lcRun_map (fun i : Nat => PyData.int i) (fun x => .sh (.int ((2 ^ x : Nat)))) _ (by rw [List.length_range]; exact Nat.le_trans hi (by decide)) (fun x m P hP => ?_) fun _ => ?_
  · simp at m
    simp
    refine ⟨by omega, ?_⟩
    simpa using hP
  · have e : (List.range n).map (fun x => DV.sh (.int ((2 ^ x : Nat)))) = (natsD (fun x => 2 ^ x) n).map DV.sh := by unfold natsD; rw [List.map_map]; rfl
    rw [e]
    have key : ∀ (rs qs : List Pr) (f : Nat → Nat) (x y : Option DV), ps = qs ++ rs → (∀ b a, b < n → ((f b).testBit a = true ↔ a = b ∨ (a, b) ∈ qs)) →
        forRun (gT 2 (gsCons (gN 2) (gsCons (gN 3) gsNil))) (dSetIx 1 (dVar 3) (dOp fOr (dOpR fIx (dVar 1) (dVar 3)) (dOp fShl (dC (PyData.int 1)) (dVar 2)))) { nx := dRetV 1 { nx := fun x => Q (DV.sh PyData.none), rt := Q }, rt := Q } (List.map prD rs)
          [some (DV.sh (PyData.tuple [PyData.int ↑n, PyData.tuple (List.map prD ps)])), some (DV.own ((natsD f n).map DV.sh)), x, y, none] := by
      intro rs
      induction rs with
      | nil =>
        intro qs f x y e hf
        rw [List.append_nil] at e
        subst e
        simp
        exact q _ ⟨f, rfl, hf⟩
      | cons p rs ih =>
        intro qs f x y e hf
        have hp := G.ok p (by rw [e]; simp)
        simp at hp
        have hi' := hi
        simp [prD, natsD_at hp.2.1, natsD_len, hp.2.1]
        refine ⟨by omega, ?_⟩
        rw [pow_cast, bor_nat, natsD_own hp.2.1]
        refine ih (qs ++ [p]) _ _ _ (by simp [e]) fun b a hb => ?_
        obtain ⟨p1, p2⟩ := p
        by_cases eb : b = p2
        · subst eb
          simp only [if_pos, upN]
          rw [Nat.testBit_or, Bool.or_eq_true, hf b a hb, testBit_two]
          simp
          constructor
          · rintro ((h | h) | h)
            · exact .inl h
            · exact .inr (.inl h)
            · exact .inr (.inr h.symm)
          · rintro (h | h | h)
            · exact .inl (.inl h)
            · exact .inl (.inr h)
            · exact .inr h.symm
        · simp only [upN, if_neg eb]
          rw [hf b a hb]
          simp [eb]
    exact key ps [] _ _ _ rfl fun b a hb => by simp [Nat.testBit_two_pow]; exact ⟨fun h => h.symm, fun h => h.symm⟩
def g_highs : Sg := pr (fun x : Nat × List Pr => [.sh (bookD x.1 x.2)]) (fun x => Good x.1 x.2) (fun x dv => ∃ f : Nat → Nat, dv = ownL (natsD f x.1) ∧ ∀ b a, b < x.1 → ((f b).testBit a = true ↔ a = b ∨ (b, a) ∈ x.2))
def n_highs : List Str := ["hill", "found", "a", "b", "x"]
def t_highs : DS := dSeq2 (dSet 1 (dLc (dRange1 (dOpR fIx (dVar 0) (dC (.int 0)))) (gN 4) (dYes) (dOp fShl (dC (.int 1)) (dVar 4)) [4])) (dSeq2 (dFor (dSeq (dOpR fIx (dVar 0) (dC (.int 1)))) (gT 2 (gsCons (gN 2) (gsCons (gN 3) (gsNil)))) (dSetIx 1 (dVar 2) (dOp fOr (dOpR fIx (dVar 1) (dVar 2)) (dOp fShl (dC (.int 1)) (dVar 3))))) (dRetV 1))
theorem p_highs (ds : List DV) (Q : DV → Prop) (h : g_highs ds Q) : t_highs { nx := fun _ => Q (.sh .none), rt := Q } (startD n_highs ds) := by
  obtain ⟨⟨n, ps⟩, rfl, G, q⟩ := h
  have hi : n ≤ 10 := G.hi
  simp [t_highs, startD, n_highs, bookD]
  refine ⟨small_n (by omega), ?_⟩
  rw [rangeD_nat]
  refine lcRun_map (fun i : Nat => PyData.int i) (fun x => .sh (.int ((2 ^ x : Nat)))) _ (by rw [List.length_range]; exact Nat.le_trans hi (by decide)) (fun x m P hP => ?_) fun _ => ?_
  · simp at m
    simp
    refine ⟨by omega, ?_⟩
    simpa using hP
  · have e : (List.range n).map (fun x => DV.sh (.int ((2 ^ x : Nat)))) = (natsD (fun x => 2 ^ x) n).map DV.sh := by unfold natsD; rw [List.map_map]; rfl
    rw [e]
    have key : ∀ (rs qs : List Pr) (f : Nat → Nat) (x y : Option DV), ps = qs ++ rs → (∀ b a, b < n → ((f b).testBit a = true ↔ a = b ∨ (b, a) ∈ qs)) →
        forRun (gT 2 (gsCons (gN 2) (gsCons (gN 3) gsNil))) (dSetIx 1 (dVar 2) (dOp fOr (dOpR fIx (dVar 1) (dVar 2)) (dOp fShl (dC (PyData.int 1)) (dVar 3)))) { nx := dRetV 1 { nx := fun x => Q (DV.sh PyData.none), rt := Q }, rt := Q } (List.map prD rs)
          [some (DV.sh (PyData.tuple [PyData.int ↑n, PyData.tuple (List.map prD ps)])), some (DV.own ((natsD f n).map DV.sh)), x, y, none] := by
      intro rs
      induction rs with
      | nil =>
        intro qs f x y e hf
        rw [List.append_nil] at e
        subst e
        simp
        exact q _ ⟨f, rfl, hf⟩
      | cons p rs ih =>
        intro qs f x y e hf
        have hp := G.ok p (by rw [e]; simp)
        simp at hp
        have hi' := hi
        simp [prD, natsD_at hp.1, natsD_len, hp.1]
        refine ⟨by omega, ?_⟩
        rw [pow_cast, bor_nat, natsD_own hp.1]
        refine ih (qs ++ [p]) _ _ _ (by simp [e]) fun b a hb => ?_
        obtain ⟨p1, p2⟩ := p
        by_cases eb : b = p1
        · subst eb
          simp only [if_pos, upN]
          rw [Nat.testBit_or, Bool.or_eq_true, hf b a hb, testBit_two]
          simp
          constructor
          · rintro ((h | h) | h)
            · exact .inl h
            · exact .inr (.inl h)
            · exact .inr (.inr h.symm)
          · rintro (h | h | h)
            · exact .inl (.inl h)
            · exact .inl (.inr h)
            · exact .inr h.symm
        · simp only [upN, if_neg eb]
          rw [hf b a hb]
          simp [eb]
    exact key ps [] _ _ _ rfl fun b a hb => by simp [Nat.testBit_two_pow]; exact ⟨fun h => h.symm, fun h => h.symm⟩
/-- a loop, by an invariant: N is what is left to do -/
theorem forRun_ix {α : Type} {pat : DP} {body : DS} {E : DEnds} (f : α → D) (xs : List α) (I : Nat → DE → Prop) (step : ∀ i x δ, xs[i]? = some x → I i δ → ∀ N : DE → Prop, (∀ δ', I (i + 1) δ' → N δ') → pat (f x) δ fun δ' => body { nx := N, rt := E.rt, bk := E.nx, ct := N } δ')
    (fin : ∀ δ, I xs.length δ → E.nx δ) {δ : DE} (h : I 0 δ) : forRun pat body E (xs.map f) δ := by
  have key : ∀ (k i : Nat) (δ : DE), xs.length - i = k → i ≤ xs.length → I i δ → forRun pat body E ((xs.drop i).map f) δ := by
    intro k
    induction k with
    | zero =>
      intro i δ e hi h
      have : i = xs.length := by omega
      subst this
      rw [List.drop_length]
      exact fin δ h
    | succ k ih =>
      intro i δ e hi h
      have hl : i < xs.length := by omega
      rw [List.drop_eq_getElem_cons hl, List.map_cons]
      exact step i xs[i] δ (List.getElem?_eq_getElem hl) h _ fun δ' h' => ih (i + 1) δ' (by omega) hl h'
  exact key _ 0 δ rfl (Nat.zero_le _) h
theorem forRun_nat {pat : DP} {body : DS} {E : DEnds} (n : Nat) (I : Nat → DE → Prop) (step : ∀ i δ, i < n → I i δ → ∀ N : DE → Prop, (∀ δ', I (i + 1) δ' → N δ') → pat (.int (i : Nat)) δ fun δ' => body { nx := N, rt := E.rt, bk := E.nx, ct := N } δ')
    (fin : ∀ δ, I n δ → E.nx δ) {δ : DE} (h : I 0 δ) : forRun pat body E ((List.range n).map fun i : Nat => PyData.int i) δ := by
  refine forRun_ix (fun i : Nat => PyData.int i) (List.range n) I (fun i x δ e hI N hN => ?_) (fun δ h => fin δ (by simpa using h)) h
  have hi := (List.getElem?_eq_some_iff.mp e).1
  rw [List.length_range] at hi
  rw [List.getElem?_range hi] at e
  cases e
  exact step i δ hi hI N hN
/-- a comprehension with two clauses, each item's outcome known -/
theorem lcRun2_fn {α β : Type} {pat pat1 : DP} {tst tst1 : DB} {it1 : DI} {elt : DT} {vs1 : List Nat} {δ : DE} {Q : List DV → Prop} (f : α → D) (ys : α → List β) (g : α → β → Option DV) : ∀ (xs : List α) (acc : List DV), acc.length + 1000 * xs.length ≤ 1000000 → (∀ x ∈ xs, (ys x).length ≤ 1000) →
    (∀ x ∈ xs, ∀ (acc : List DV) (P : List DV → Prop), acc.length + (ys x).length ≤ sizeLine → P (acc ++ (ys x).filterMap (g x)) → pat (f x) δ fun δ' => tst δ' fun k => if k = true then it1 δ' fun es => lcRun pat1 tst1 elt (wipeD δ' vs1) es acc P else P acc) →
    Q (acc ++ xs.flatMap fun x => (ys x).filterMap (g x)) → lcRun2 pat tst it1 pat1 tst1 elt vs1 δ (xs.map f) acc Q
  | [], acc, _, _, _, h => by simpa [lcRun2] using h
  | x :: xs, acc, hz, hy, st, h => by
    rw [List.length_cons] at hz
    have h1 := hy x List.mem_cons_self
    have h2 : 1000000 ≤ sizeLine := by decide
    refine st x List.mem_cons_self acc (fun acc' => lcRun2 pat tst it1 pat1 tst1 elt vs1 δ (xs.map f) acc' Q) (by omega) ?_
    refine lcRun2_fn f ys g xs _ ?_ (fun y m => hy y (List.mem_cons_of_mem _ m)) (fun y m => st y (List.mem_cons_of_mem _ m)) ?_
    · have := List.length_filterMap_le (g x) (ys x)
      rw [List.length_append]
      omega
    · simpa using h
def g_hill_of_lows : Sg := pr (fun x : Nat × (Nat → Nat) => [.sh (.list (natsD x.2 x.1))]) (fun x => x.1 ≤ 10) (fun x dv => dv = .sh (bookD x.1 (prs x.1 fun a b => (x.2 b).testBit a)))
def n_hill_of_lows : List Str := ["found", "n", "pairs", "a", "b"]
def t_hill_of_lows : DS := dSeq2 (dSet 1 (dCB (on1 fLen) (dCons (dVar 0) (dNil)))) (dSeq2 (dSet 2 (dLc2 (dRange1 (dVar 1)) (gN 3) (dYes) (dRange1 (dVar 1)) (gN 4) (dAnd (dTest (dOp (fRel sDep fun d e => !rEqv d e) (dVar 3) (dVar 4))) (dTest (dOp (fRel sDep rEqv) (dOp fAnd (dOp fShr (dOpR fIx (dVar 0) (dVar 4)) (dVar 3)) (dC (.int 1))) (dC (.int 1))))) (dTup (dCons (dVar 3) (dCons (dVar 4) (dNil)))) [3, 4] [4])) (dRet (dTup (dCons (dVar 1) (dCons (dCB (on1 fTuple) (dCons (dVar 2) (dNil))) (dNil))))))
theorem flatMap_eq {α β : Type} {f g : α → List β} : ∀ {l : List α}, (∀ a ∈ l, f a = g a) → l.flatMap f = l.flatMap g
  | [], _ => rfl
  | a :: l, h => by rw [List.flatMap_cons, List.flatMap_cons, h a List.mem_cons_self, flatMap_eq fun b m => h b (List.mem_cons_of_mem _ m)]
theorem filterMap_if {α β : Type} (p : α → Bool) (f : α → β) : ∀ l : List α, (l.filterMap fun x => if p x = true then some (f x) else none) = (l.filter p).map f
  | [] => rfl
  | x :: l => by
    rw [List.filterMap_cons, List.filter_cons, filterMap_if p f l]
    by_cases h : p x = true <;> simp [h]
theorem prs_flat (n : Nat) (r : Nat → Nat → Bool) : (List.range n).flatMap (fun a => (List.range n).filterMap fun b => if (decide (a ≠ b) && r a b) = true then some (DV.sh (prD (a, b))) else none) = ((prs n r).map prD).map DV.sh := by
  unfold prs
  rw [List.map_flatMap, List.map_flatMap]
  refine flatMap_eq fun a _ => ?_
  rw [filterMap_if (fun b => decide (a ≠ b) && r a b) (fun b => DV.sh (prD (a, b))), List.map_map, List.map_map]
  rfl
theorem bit_iff (m a : Nat) : Builtin.bitAnd ((m : Int) / 2 ^ a) 1 = 1 ↔ m.testBit a = true := by
  have := bit_is m a
  rw [show (a : Int).toNat = a by simp] at this
  rw [← this, decide_eq_true_iff]
theorem p_hill_of_lows (ds : List DV) (Q : DV → Prop) (h : g_hill_of_lows ds Q) : t_hill_of_lows { nx := fun _ => Q (.sh .none), rt := Q } (startD n_hill_of_lows ds) := by
  obtain ⟨⟨n, f⟩, rfl, hn, q⟩ := h
  simp at hn
  simp [t_hill_of_lows, startD, n_hill_of_lows, natsD_len]
  refine ⟨small_n (by omega), ?_⟩
  rw [rangeD_nat]
  refine lcRun2_fn (fun i : Nat => PyData.int i) (fun _ => List.range n) (fun a b => if (decide (a ≠ b) && (f b).testBit a) = true then some (DV.sh (prD (a, b))) else none) _ _ (by simp; omega) (fun x m => by simp; omega) (fun x m acc P hz hP => ?_) ?_
  · simp at m
    simp
    refine ⟨small_n (by omega), ?_⟩
    rw [rangeD_nat]
    refine lcRun_fn (fun i : Nat => PyData.int i) _ _ _ hz (fun y my P' hP' => ?_) hP
    simp at my
    simp [natsD_at my]
    by_cases e : x = y
    · subst e
      simp at hP' ⊢
      exact hP'
    · have e' : ¬ ((x : Int) = y) := by omega
      by_cases b : (f y).testBit x = true
      · simp [e, e', b, (bit_iff _ _).mpr b] at hP' ⊢
        exact hP'
      · have b' : ¬ Builtin.bitAnd ((f y : Int) / 2 ^ x) 1 = 1 := fun z => b ((bit_iff _ _).mp z)
        simp [e, e', b, b'] at hP' ⊢
        exact hP'
  · simp only [List.nil_append]
    rw [prs_flat n fun a b => (f b).testBit a, onV_own, fTuple_b (noLsts_prs _)]
    simp
    exact q _ rfl
/-! the closing's rows -/
def wStep (k : Nat) (f : Nat → Nat) (b : Nat) : Nat := if (f b).testBit k = true then f b ||| f k else f b
structure WInv (n : Nat) (ps : List Pr) (k : Nat) (f : Nat → Nat) : Prop where
  sound : ∀ b, b < n → ∀ a, (f b).testBit a = true → Rch ps a b
  base : ∀ b, b < n → ∀ a, a = b ∨ (a, b) ∈ ps → (f b).testBit a = true
  clos : ∀ j, j < k → ∀ b, b < n → ∀ a, (f j).testBit a = true → (f b).testBit j = true → (f b).testBit a = true
theorem wStep_bit (k : Nat) (f : Nat → Nat) (a b : Nat) : (wStep k f b).testBit a = true ↔ (f b).testBit a = true ∨ ((f k).testBit a = true ∧ (f b).testBit k = true) := by
  unfold wStep
  by_cases h : (f b).testBit k = true
  · rw [if_pos h, Nat.testBit_or, Bool.or_eq_true]
    simp [h]
  · rw [if_neg h]
    simp [h]
theorem WInv.step {n k : Nat} {ps : List Pr} {f : Nat → Nat} (w : WInv n ps k f) (hk : k < n) : WInv n ps (k + 1) (wStep k f) := by
  refine ⟨fun b hb a h => ?_, fun b hb a h => (wStep_bit k f a b).mpr (.inl (w.base b hb a h)), fun j hj b hb a h1 h2 => ?_⟩
  · rcases (wStep_bit k f a b).mp h with h | ⟨h1, h2⟩
    · exact w.sound b hb a h
    · exact (w.sound k hk a h1).trans (w.sound b hb k h2)
  · rw [wStep_bit] at h1 h2 ⊢
    rcases Nat.lt_or_ge j k with l | l
    · have cj := w.clos j l
      rcases h1 with h1 | ⟨h1, h1'⟩
      · rcases h2 with h2 | ⟨h2, h2'⟩
        · exact .inl (cj b hb a h1 h2)
        · exact .inr ⟨cj k hk a h1 h2, h2'⟩
      · rcases h2 with h2 | ⟨h2, h2'⟩
        · exact .inr ⟨h1, cj b hb k h1' h2⟩
        · exact .inr ⟨h1, h2'⟩
    · have e : j = k := by omega
      subst e
      have h1' : (f j).testBit a = true := h1.elim id fun z => z.1
      have h2' : (f b).testBit j = true := h2.elim id fun z => z.2
      exact .inr ⟨h1', h2'⟩
theorem WInv.congr {n k : Nat} {ps : List Pr} {f g : Nat → Nat} (w : WInv n ps k f) (h : ∀ b, b < n → g b = f b) (hk : k ≤ n := by omega) : WInv n ps k g :=
  ⟨fun b hb a q => w.sound b hb a (h b hb ▸ q), fun b hb a q => (h b hb).symm ▸ w.base b hb a q, fun j hj b hb a q1 q2 => by
    rw [h b hb] at q2 ⊢
    rw [h j (by omega)] at q1
    exact w.clos j hj b hb a q1 q2⟩
theorem WInv.done {n : Nat} {ps : List Pr} {f : Nat → Nat} (w : WInv n ps n f) (G : Good n ps) {a b : Nat} (ha : a < n) (hb : b < n) : (f b).testBit a = reach ps a b := by
  rw [Bool.eq_iff_iff, reach_iff]
  refine ⟨w.sound b hb a, fun r => ?_⟩
  have key : b < n → (f b).testBit a = true := by
    induction r with
    | refl => exact fun hb => w.base _ hb _ (.inl rfl)
    | @step b c r m ih =>
      intro hc
      have hb := (G.ok _ m).1
      exact w.clos b hb c hc a (ih hb hb) (w.base c hc b (.inr m))
  exact key hb
def g_closing_of : Sg := pr (fun x : Nat × List Pr => [.sh (bookD x.1 x.2)]) (fun x => Good x.1 x.2) (fun x dv => dv = .sh (bookD x.1 (clo x.1 x.2)))
def n_closing_of : List Str := ["book", "found", "middle", "b"]
def t_closing_of : DS := dSeq2 (dSet 1 (dCall g_lows (dCons (dVar 0) (dNil)))) (dSeq2 (dFor (dRange1 (dOpR fIx (dVar 0) (dC (.int 0)))) (gN 2) (dFor (dRange1 (dOpR fIx (dVar 0) (dC (.int 0)))) (gN 3) (dIfS (dTest (dOp (fRel sDep rEqv) (dOp fAnd (dOp fShr (dOpR fIx (dVar 1) (dVar 3)) (dVar 2)) (dC (.int 1))) (dC (.int 1)))) (dSetIx 1 (dVar 3) (dOp fOr (dOpR fIx (dVar 1) (dVar 3)) (dOpR fIx (dVar 1) (dVar 2)))) (dNext)))) (dFrz 1 (dRet (dCall g_hill_of_lows (dCons (dVar 1) (dNil))))))
theorem p_closing_of (ds : List DV) (Q : DV → Prop) (h : g_closing_of ds Q) : t_closing_of { nx := fun _ => Q (.sh .none), rt := Q } (startD n_closing_of ds) := by
  obtain ⟨⟨n, ps⟩, rfl, G, q⟩ := h
  have hi : n ≤ 10 := G.hi
  simp [t_closing_of, startD, n_closing_of]
  refine pr_call (n, ps) rfl G ?_
  rintro dv ⟨f, rfl, hf⟩
  simp [bookD]
  refine ⟨small_n (by omega), ?_⟩
  rw [rangeD_nat]
  refine forRun_nat n (fun k δ => ∃ (f : Nat → Nat) (x y : Option DV), δ = [some (DV.sh (PyData.tuple [PyData.int ↑n, PyData.tuple (List.map prD ps)])), some (ownL (natsD f n)), x, y] ∧ WInv n ps k f) (fun k δ hk hI N hN => ?_) (fun δ hI => ?_) ⟨f, none, none, rfl, ?_⟩
  · obtain ⟨f, x, y, rfl, wi⟩ := hI
    simp
    refine ⟨small_n (by omega), ?_⟩
    rw [rangeD_nat]
    refine forRun_nat n (fun i δ => ∃ (g : Nat → Nat) (y : Option DV), δ = [some (DV.sh (PyData.tuple [PyData.int ↑n, PyData.tuple (List.map prD ps)])), some (ownL (natsD g n)), some (.sh (.int (k : Nat))), y] ∧ (∀ b, b < n → g b = if b < i then wStep k f b else f b)) (fun i δ hi hJ M hM => ?_) (fun δ hJ => ?_) ⟨f, y, rfl, fun b hb => by simp⟩
    · obtain ⟨g, y, rfl, hg⟩ := hJ
      simp [natsD_at hi, natsD_at hk, natsD_len, hi]
      have gi : g i = f i := by rw [hg i hi]; simp
      have gk : g k = f k := by
        rw [hg k hk]
        split
        · unfold wStep
          split
          · simp
          · rfl
        · rfl
      by_cases b : (g i).testBit k = true
      · simp [(bit_iff _ _).mpr b]
        rw [bor_nat, natsD_own hi]
        refine hM _ ⟨_, _, rfl, fun b' hb' => ?_⟩
        unfold upN
        by_cases e : b' = i
        · subst e
          rw [if_pos rfl, if_pos (by omega), gi, gk]
          unfold wStep
          rw [if_pos (by rw [← gi]; exact b)]
        · rw [if_neg e, hg b' hb']
          by_cases l : b' < i
          · rw [if_pos l, if_pos (by omega)]
          · rw [if_neg l, if_neg (by omega)]
      · have b' : ¬ Builtin.bitAnd ((g i : Int) / 2 ^ k) 1 = 1 := fun z => b ((bit_iff _ _).mp z)
        simp [b']
        refine hM _ ⟨_, _, rfl, fun b' hb' => ?_⟩
        rw [hg b' hb']
        by_cases e : b' = i
        · subst e
          rw [if_neg (by omega), if_pos (by omega)]
          unfold wStep
          rw [if_neg (by rw [← gi]; exact b)]
        · by_cases l : b' < i
          · rw [if_pos l, if_pos (by omega)]
          · rw [if_neg l, if_neg (by omega)]
    · obtain ⟨g, y, rfl, hg⟩ := hJ
      exact hN _ ⟨g, _, _, rfl, (wi.step hk).congr fun b hb => by rw [hg b hb, if_pos hb]⟩
  · obtain ⟨f, x, y, rfl, wi⟩ := hI
    simp
    refine pr_call (n, f) rfl hi ?_
    rintro dv rfl
    refine q _ ?_
    unfold clo
    rw [prs_congr fun a b ha hb ne => wi.done G ha hb]
  · exact ⟨fun b hb a h => by
      rcases (hf b a hb).mp h with rfl | h
      · exact .refl
      · exact .step .refl h, fun b hb a h => (hf b a hb).mpr h, fun j hj => absurd hj (Nat.not_lt_zero _)⟩
end HL
set_option Elab.async false
set_option linter.all false
set_option maxRecDepth 100000
set_option maxHeartbeats 1000000
namespace HL
open PySem PySem.Spec L2 DL
open PyProof.Rows hiding St
/-! ### depth, equality, order of the data -/
theorem depthAll_le {m : Nat} : ∀ {ds : List D}, (∀ d ∈ ds, d.depth ≤ m) → PyData.depthAll ds ≤ m
  | [], _ => by rw [PyData.depthAll]; omega
  | d :: ds, h => by
    rw [PyData.depthAll]
    have h1 := h d List.mem_cons_self
    have h2 := depthAll_le fun x q => h x (List.mem_cons_of_mem d q)
    omega
theorem depth_tup {m : Nat} {ds : List D} (h : ∀ d ∈ ds, d.depth ≤ m) : (PyData.tuple ds).depth ≤ m + 1 := by
  rw [PyData.depth]
  have := depthAll_le h
  omega
theorem depth_prD (p : Pr) : (prD p).depth ≤ 1 := depth_tup (m := 0) (by simp [depth_int])
theorem depth_book (n : Nat) (ps : List Pr) : (bookD n ps).depth ≤ 3 := depth_tup (m := 2) (by
  intro d m
  simp at m
  rcases m with rfl | rfl
  · rw [depth_int]; omega
  · refine depth_tup (m := 1) fun d m => ?_
    obtain ⟨p, _, rfl⟩ := List.mem_map.mp m
    exact depth_prD p)
theorem sDep_le {d e : D} {m : Nat} (h : d.depth ≤ m) (hm : m ≤ 60 := by decide) : sDep d e := by unfold sDep; omega
@[simp] theorem sDep_book (n : Nat) (ps : List Pr) (e : D) : sDep (bookD n ps) e ↔ True := ⟨fun _ => trivial, fun _ => sDep_le (depth_book n ps)⟩
theorem eqvAll_map {α : Type} [DecidableEq α] {f : α → D} (h : ∀ a b, PyData.eqv (f a) (f b) = decide (a = b)) : ∀ l m : List α, PyData.eqvAll (l.map f) (m.map f) = decide (l = m)
  | [], [] => by rw [List.map_nil, PyData.eqvAll]; simp
  | [], _ :: _ => by rw [List.map_nil, List.map_cons, PyData.eqvAll]; simp
  | _ :: _, [] => by rw [List.map_nil, List.map_cons, PyData.eqvAll]; simp
  | a :: l, b :: m => by
    rw [List.map_cons, List.map_cons, PyData.eqvAll, h, eqvAll_map h l m]
    rw [Bool.eq_iff_iff]
    simp
theorem eqv_prD (p q : Pr) : PyData.eqv (prD p) (prD q) = decide (p = q) := by
  unfold prD
  rw [PyData.eqv, PyData.eqvAll, PyData.eqvAll, PyData.eqvAll, PyData.eqv, PyData.eqv, Bool.eq_iff_iff]
  obtain ⟨a, b⟩ := p
  obtain ⟨c, d⟩ := q
  simp
  omega
theorem rEqv_book (n : Nat) (ps qs : List Pr) : rEqv (bookD n ps) (bookD n qs) = decide (ps = qs) := by
  rw [rEqv_eq]
  unfold bookD
  rw [PyData.eqv, PyData.eqvAll, PyData.eqvAll, PyData.eqvAll, PyData.eqv, PyData.eqv, eqvAll_map eqv_prD]
  simp
theorem sLt_prD (p q : Pr) : sLt (prD p) (prD q) := by
  refine ⟨by unfold prD; simp [PySem.W.alike, PySem.W.alikeAll], (by unfold prD; intro h; cases h), ?_⟩
  have := depth_prD p
  omega
theorem rLtD_prD (p q : Pr) : rLtD (prD p) (prD q) = decide (plt p q) := by
  rw [rLtD_eq]
  unfold prD
  rw [PySem.W.dataLt_ii, Bool.eq_iff_iff, decide_eq_true_iff, decide_eq_true_iff]
  show _ ↔ (p.1 < q.1 ∨ (p.1 = q.1 ∧ p.2 < q.2))
  omega
theorem alike_prs (l : List Pr) : PySem.W.AllAlike (l.map prD) := fun d m d' m' => by
  obtain ⟨p, _, rfl⟩ := List.mem_map.mp m
  obtain ⟨q, _, rfl⟩ := List.mem_map.mp m'
  exact (sLt_prD p q).1
theorem sortable_prs (l : List Pr) : PySem.W.Sortable (l.map prD) := .inl fun d m => by
  obtain ⟨p, _, rfl⟩ := List.mem_map.mp m
  exact ⟨_, _, rfl⟩
theorem strict_nodup {α : Type} {lt : α → α → Prop} (ir : ∀ a, ¬ lt a a) {m : List α} (hm : m.Pairwise lt) : m.Nodup :=
  List.Pairwise.imp (S := fun a b => a ≠ b) (fun {a b} h e => by subst e; exact ir _ h) hm
/-- what is sorted: a row in strict order with the same members -/
theorem sort_strict {α : Type} {f : α → D} {lt : α → α → Prop} (dec : ∀ a b, PySem.W.dataLt (f a) (f b) = true ↔ lt a b) (ir : ∀ a, ¬ lt a a) (tr : ∀ {a b c}, lt a b → lt b c → lt a c) (tot : ∀ a b, a ≠ b → lt a b ∨ lt b a)
    {l m : List α} (p : l.Perm m) (hm : m.Pairwise lt) : sortD (l.map f) = m.map f := by
  have le : ∀ a b, (!PySem.W.dataLt (f b) (f a)) = true ↔ ¬ lt b a := fun a b => by
    rw [Bool.not_eq_true', ← Bool.not_eq_true, dec]
  have e1 : sortD (l.map f) = (l.mergeSort fun a b => !PySem.W.dataLt (f b) (f a)).map f := by
    unfold sortD
    show (l.map f).mergeSort (fun a b => !PySem.W.dataLt b a) = _
    exact (List.map_mergeSort (r := fun a b => !PySem.W.dataLt (f b) (f a)) (s := fun a b => !PySem.W.dataLt b a) (f := f) (l := l) (fun a _ b _ => rfl)).symm
  rw [e1]
  congr 1
  have s1 := List.pairwise_mergeSort (le := fun a b => !PySem.W.dataLt (f b) (f a)) (by
    intro a b c h1 h2
    rw [le] at h1 h2 ⊢
    intro h3
    by_cases e : b = c
    · subst e; exact h1 h3
    · rcases tot b c e with h | h
      · exact h1 (tr h h3)
      · exact h2 h) (by
    intro a b
    rw [Bool.or_eq_true, le, le]
    by_cases h : lt b a
    · exact .inr fun z => ir _ (tr z h)
    · exact .inl h) l
  have pm : (l.mergeSort fun a b => !PySem.W.dataLt (f b) (f a)).Perm m := (List.mergeSort_perm _ _).trans p
  have nd : (l.mergeSort fun a b => !PySem.W.dataLt (f b) (f a)).Nodup := (pm.nodup_iff).mpr (strict_nodup ir hm)
  refine strict_ext ir tr ?_ hm fun x => pm.mem_iff
  refine (s1.and nd).imp fun {a b} h => ?_
  have h1 := (le a b).mp h.1
  rcases tot a b h.2 with z | z
  · exact z
  · exact absurd z h1
theorem sort_prs {l m : List Pr} (p : l.Perm m) (hm : m.Pairwise plt) : sortD (l.map prD) = m.map prD :=
  sort_strict (fun a b => by rw [← rLtD_eq, rLtD_prD, decide_eq_true_iff]) plt_irrefl plt_trans plt_total p hm
theorem perm_of_mem {α : Type} {lt : α → α → Prop} (ir : ∀ a, ¬ lt a a) {l m : List α} (nd : l.Nodup) (hm : m.Pairwise lt) (h : ∀ x, x ∈ l ↔ x ∈ m) : l.Perm m := by
  have nm : m.Nodup := strict_nodup ir hm
  classical
  exact (List.perm_ext_iff_of_nodup nd nm).mpr h
end HL
set_option Elab.async false
set_option linter.all false
set_option maxRecDepth 100000
set_option maxHeartbeats 1000000
namespace HL
open PySem PySem.Spec L2 DL
open PyProof.Rows hiding St
def g_is_integer : Sg := pr (fun i : Int => [.sh (.int i)]) (fun _ => True) (fun _ dv => dv = .sh (.bool true))
def n_is_integer : List Str := ["thing"]
def t_is_integer : DS := dRet (dAndV (dUn (fIsi "int") (dVar 0)) (dNotV (dUn (fIsi "bool") (dVar 0))))
theorem p_is_integer (ds : List DV) (Q : DV → Prop) (h : g_is_integer ds Q) : t_is_integer { nx := fun _ => Q (.sh .none), rt := Q } (startD n_is_integer ds) := by
  obtain ⟨i, rfl, _, q⟩ := h
  simp [t_is_integer, startD, n_is_integer, tyIs]
  exact q _ rfl
def g_is_between : Sg := pr (fun x : Int × Int × Int => [.sh (.int x.1), .sh (.int x.2.1), .sh (.int x.2.2)]) (fun _ => True) (fun x dv => dv = .sh (.bool (decide (x.2.1 ≤ x.1 ∧ x.1 ≤ x.2.2))))
def n_is_between : List Str := ["thing", "least", "most"]
def t_is_between : DS := dRet (dAndV (dCall g_is_integer (dCons (dVar 0) (dNil))) (dChain (fRel sLt rLeD) (fRel sLt rLeD) (dVar 1) (dVar 0) (dVar 2)))
theorem p_is_between (ds : List DV) (Q : DV → Prop) (h : g_is_between ds Q) : t_is_between { nx := fun _ => Q (.sh .none), rt := Q } (startD n_is_between ds) := by
  obtain ⟨⟨i, lo, hi⟩, rfl, _, q⟩ := h
  simp [t_is_between, startD, n_is_between]
  refine ⟨_, rfl, trivial, ?_⟩
  rintro dv rfl
  simp
  have := q _ rfl
  simp at this
  by_cases h1 : lo ≤ i <;> simp [h1] at this ⊢ <;> exact this
def g_is_pair_of : Sg := pr (fun x : Nat × Pr => [.sh (.int x.1), .sh (prD x.2)]) (fun x => 1 ≤ x.1) (fun x dv => dv = .sh (.bool (decide (x.2.1 < x.1 ∧ x.2.2 < x.1 ∧ x.2.1 ≠ x.2.2))))
def n_is_pair_of : List Str := ["n", "thing"]
def t_is_pair_of : DS := dSeq2 (dIfS (dOr (dNot (dTest (dUn (fIsi "tuple") (dVar 1)))) (dTest (dOp (fRel sDep fun d e => !rEqv d e) (dCB (on1 fLen) (dCons (dVar 1) (dNil))) (dC (.int 2))))) (dRet (dC (.bool false))) (dNext)) (dRet (dAndV (dCall g_is_between (dCons (dOpR fIx (dVar 1) (dC (.int 0))) (dCons (dC (.int 0)) (dCons (dOp fSub (dVar 0) (dC (.int 1))) (dNil))))) (dAndV (dCall g_is_between (dCons (dOpR fIx (dVar 1) (dC (.int 1))) (dCons (dC (.int 0)) (dCons (dOp fSub (dVar 0) (dC (.int 1))) (dNil))))) (dOp (fRel sDep fun d e => !rEqv d e) (dOpR fIx (dVar 1) (dC (.int 0))) (dOpR fIx (dVar 1) (dC (.int 1)))))))
theorem p_is_pair_of (ds : List DV) (Q : DV → Prop) (h : g_is_pair_of ds Q) : t_is_pair_of { nx := fun _ => Q (.sh .none), rt := Q } (startD n_is_pair_of ds) := by
  obtain ⟨⟨n, a, b⟩, rfl, hn, q⟩ := h
  simp at hn
  have q := q _ rfl
  simp [t_is_pair_of, startD, n_is_pair_of, tyIs, prD, PyData.isTuple]
  refine pr_call ((a : Int), 0, (n : Int) - 1) rfl trivial ?_
  rintro dv rfl
  simp
  have e1 : ((a : Int) ≤ n - 1) ↔ a < n := by omega
  have e2 : ((b : Int) ≤ n - 1) ↔ b < n := by omega
  simp [e1]
  by_cases h1 : a < n
  · simp [h1] at q ⊢
    refine pr_call ((b : Int), 0, (n : Int) - 1) rfl trivial ?_
    rintro dv rfl
    simp [e2]
    by_cases h2 : b < n
    · simp [h2] at q ⊢
      have e3 : ((a : Int) = b) ↔ a = b := by omega
      simp [e3]
      exact q
    · simp [h2] at q ⊢
      exact q
  · simp [h1] at q ⊢
    exact q
def g_is_book_value : Sg := pr (fun x : Nat × List Pr => [.sh (bookD x.1 x.2)]) (fun x => Good x.1 x.2) (fun x dv => dv = .sh (.bool true))
def n_is_book_value : List Str := ["thing", "pair", "one", "other"]
def t_is_book_value : DS := dSeq2 (dIfS (dOr (dNot (dTest (dUn (fIsi "tuple") (dVar 0)))) (dOr (dTest (dOp (fRel sDep fun d e => !rEqv d e) (dCB (on1 fLen) (dCons (dVar 0) (dNil))) (dC (.int 2)))) (dNot (dTest (dCall g_is_between (dCons (dOpR fIx (dVar 0) (dC (.int 0))) (dCons (dC (.int 1)) (dCons (dC (.int 10)) (dNil))))))))) (dRet (dC (.bool false))) (dNext)) (dSeq2 (dIfS (dOr (dNot (dTest (dUn (fIsi "tuple") (dOpR fIx (dVar 0) (dC (.int 1)))))) (dNot (dTest (dCB (on1 (fBools fun bs => bs.all id)) (dCons (dLc (dSeqQ (dOpR fIx (dVar 0) (dC (.int 1)))) (gN 1) (dYes) (dCall g_is_pair_of (dCons (dOpR fIx (dVar 0) (dC (.int 0))) (dCons (dVar 1) (dNil)))) [1]) (dNil)))))) (dRet (dC (.bool false))) (dNext)) (dRet (dCB (on1 (fBools fun bs => bs.all id)) (dCons (dLc (dZip false (dCons (dOpR fIx (dVar 0) (dC (.int 1))) (dCons (dSlice (dOpR fIx (dVar 0) (dC (.int 1))) (dPart (dC (.int 1))) (dNoPart)) (dNil)))) (gT 2 (gsCons (gN 2) (gsCons (gN 3) (gsNil)))) (dYes) (dOp (fRel sLt rLtD) (dVar 2) (dVar 3)) [2, 3]) (dNil)))))
theorem zip_tail {lt : Pr → Pr → Prop} : ∀ {ps : List Pr}, ps.Pairwise lt → ∀ x ∈ zipD (ps.map prD) (ps.map prD).tail, ∃ p q, lt p q ∧ x = .tuple [prD p, prD q]
  | [], _, x, h => by simp [zipD] at h
  | [p], _, x, h => by simp [zipD] at h
  | p :: q :: ps, s, x, h => by
    have s' := List.pairwise_cons.mp s
    simp [zipD] at h
    rcases h with rfl | h
    · exact ⟨p, q, s'.1 q (by simp), rfl⟩
    · exact zip_tail s'.2 x (by simpa using h)
theorem cut1 (ds : List D) : DL.cutD ds (some 1) none = ds.drop 1 := by
  cases ds with
  | nil => unfold DL.cutD HT.sIx; simp
  | cons d ds => rw [tail1 ⟨0, 0, 0, 0⟩ d ds]; rfl
theorem lcRun_same {pat : DP} {elt : DT} {δ : DE} {Q : List DV → Prop} (dv : DV) (xs : List D) (hz : xs.length ≤ sizeLine) (st : ∀ x ∈ xs, ∀ P : DV → Prop, P dv → pat x δ fun δ' => elt δ' fun r => (match r.fx with | some dv => P dv | none => False))
    (h : Q (List.replicate xs.length dv)) : lcRun pat dYes elt δ xs [] Q := by
  have := lcRun_map (pat := pat) (elt := elt) (δ := δ) (Q := Q) (fun x : D => x) (fun _ => dv) xs hz st (by rw [List.map_const']; exact h)
  rw [List.map_id'] at this
  exact this
theorem all_true (n : Nat) {Q : R → Prop} (q : Q (.val (.sh (.bool true)))) : fBools (fun bs => bs.all id) (.val (.own (List.replicate n (.sh (.bool true))))) Q := by
  have e : List.replicate n (DV.sh (.bool true)) = ((List.replicate n true).map PyData.bool).map DV.sh := by simp
  rw [e, fBools_o]
  simpa using q
theorem p_is_book_value (ds : List DV) (Q : DV → Prop) (h : g_is_book_value ds Q) : t_is_book_value { nx := fun _ => Q (.sh .none), rt := Q } (startD n_is_book_value ds) := by
  obtain ⟨⟨n, ps⟩, rfl, G, q⟩ := h
  have hl := book_len G
  have hs : (100 : Nat) ≤ sizeLine := by decide
  have l := G.lo
  have u := G.hi
  simp at l u
  simp [t_is_book_value, startD, n_is_book_value, tyIs, bookD, PyData.isTuple]
  refine pr_call ((n : Int), 1, 10) rfl trivial ?_
  rintro dv rfl
  have e : decide ((1 : Int) ≤ n ∧ (n : Int) ≤ 10) = true := by simp; omega
  simp [e]
  intro _
  refine lcRun_same (.sh (.bool true)) _ (by simp; simp at hl; omega) (fun x m P hP => ?_) ?_
  · obtain ⟨p, hp, rfl⟩ := List.mem_map.mp m
    simp
    refine pr_call (n, p) rfl l ?_
    rintro dv rfl
    have := G.ok p hp
    simp at this
    simp [this]
    exact hP
  · refine all_true _ ?_
    simp
    rw [cut1]
    simp
    have hz : (zipD (List.map prD ps) (List.map prD ps).tail).length ≤ sizeLine := by
      rw [zipD_len]
      simp
      simp at hl
      omega
    refine lcRun_same (.sh (.bool true)) _ hz (fun x m P hP => ?_) ?_
    · obtain ⟨p, r, hpr, rfl⟩ := zip_tail G.st x m
      simp
      refine ⟨sLt_prD p r, ?_⟩
      rw [rLtD_prD, decide_eq_true hpr]
      exact hP
    · refine all_true _ ?_
      exact q _ rfl
def g_is_hill_value : Sg := pr (fun x : Nat × List Pr => [.sh (bookD x.1 x.2)]) (fun x => Good x.1 x.2) (fun x dv => dv = .sh (.bool (decide (clo x.1 x.2 = x.2))))
def n_is_hill_value : List Str := ["thing"]
def t_is_hill_value : DS := dRet (dAndV (dCall g_is_book_value (dCons (dVar 0) (dNil))) (dOp (fRel sDep rEqv) (dCall g_closing_of (dCons (dVar 0) (dNil))) (dVar 0)))
theorem p_is_hill_value (ds : List DV) (Q : DV → Prop) (h : g_is_hill_value ds Q) : t_is_hill_value { nx := fun _ => Q (.sh .none), rt := Q } (startD n_is_hill_value ds) := by
  obtain ⟨⟨n, ps⟩, rfl, G, q⟩ := h
  simp [t_is_hill_value, startD, n_is_hill_value]
  refine pr_call (n, ps) rfl G ?_
  rintro dv rfl
  simp
  refine pr_call (n, ps) rfl G ?_
  rintro dv rfl
  simp [rEqv_book]
  exact q _ rfl
def g_need_hill : Sg := pr (fun x : Nat × List Pr => [.sh (bookD x.1 x.2)]) (fun x => Hill x.1 x.2) (fun _ dv => dv = .sh .none)
def n_need_hill : List Str := ["hill"]
def t_need_hill : DS := dIfS (dNot (dTest (dCall g_is_hill_value (dCons (dVar 0) (dNil))))) (dNever) (dNext)
theorem p_need_hill (ds : List DV) (Q : DV → Prop) (h : g_need_hill ds Q) : t_need_hill { nx := fun _ => Q (.sh .none), rt := Q } (startD n_need_hill ds) := by
  obtain ⟨⟨n, ps⟩, rfl, G, q⟩ := h
  simp [t_need_hill, startD, n_need_hill]
  refine pr_call (n, ps) rfl G.good ?_
  rintro dv rfl
  have e : clo n ps = ps := G.clo
  simp [e]
  exact q _ rfl
/-! ### lots -/
def bitsOf (m : Nat) : List Nat := (List.range 10).filter fun x => m.testBit x
theorem mem_bits {m x : Nat} (h : m < 1024) : x ∈ bitsOf m ↔ m.testBit x = true := by
  unfold bitsOf
  rw [List.mem_filter, List.mem_range]
  refine ⟨fun z => z.2, fun z => ⟨?_, z⟩⟩
  by_cases l : x < 10
  · exact l
  · have : m < 2 ^ x := Nat.lt_of_lt_of_le (show m < 2 ^ 10 from h) (Nat.pow_le_pow_right (by omega) (show 10 ≤ x by omega))
    rw [Nat.testBit_lt_two_pow this] at z
    cases z
theorem bits_sorted (m : Nat) : (bitsOf m).Pairwise (· < ·) := (range_sorted 10).filter _
theorem intBits_nat (m : Nat) (h : m < 1024) : Builtin.Int.intBits (m : Int) ≤ 10 ∧ m < 2 ^ (Builtin.Int.intBits (m : Int)) := by
  unfold Builtin.Int.intBits
  by_cases e : m = 0
  · subst e; simp
  · have : ((m : Int) == 0) = false := by simp; omega
    rw [this]
    simp
    refine ⟨?_, Nat.lt_log2_self⟩
    have := (Nat.log2_lt e).mpr (show m < 2 ^ 10 from h)
    omega
def g_lot_of : Sg := pr (fun m : Nat => [.sh (.int m)]) (fun m => m < 1024) (fun m dv => dv = .sh (lotD (bitsOf m)))
def n_lot_of : List Str := ["mask", "x"]
def t_lot_of : DS := dRet (dCB (on1 fTuple) (dCons (dLc (dRange1 (dUn fBits (dVar 0))) (gN 1) (dTest (dOp (fRel sDep rEqv) (dOp fAnd (dOp fShr (dVar 0) (dVar 1)) (dC (.int 1))) (dC (.int 1)))) (dVar 1) [1]) (dNil)))
theorem p_lot_of (ds : List DV) (Q : DV → Prop) (h : g_lot_of ds Q) : t_lot_of { nx := fun _ => Q (.sh .none), rt := Q } (startD n_lot_of ds) := by
  obtain ⟨m, rfl, hm, q⟩ := h
  obtain ⟨b1, b2⟩ := intBits_nat m hm
  simp [t_lot_of, startD, n_lot_of]
  refine ⟨small_n (by omega), ?_⟩
  rw [rangeD_nat]
  refine lcRun_fn (fun i : Nat => PyData.int i) (fun x => if m.testBit x = true then some (DV.sh (.int (x : Nat))) else none) _ _ (by rw [List.length_range]; simp; exact Nat.le_trans b1 (by decide)) (fun x mx P hP => ?_) ?_
  · simp at mx
    simp
    by_cases b : m.testBit x = true
    · simp [b, (bit_iff _ _).mpr b] at hP ⊢
      exact hP
    · have b' : ¬ Builtin.bitAnd ((m : Int) / 2 ^ x) 1 = 1 := fun z => b ((bit_iff _ _).mp z)
      simp [b, b'] at hP ⊢
      exact hP
  · simp only [List.nil_append]
    rw [filterMap_if (fun x => m.testBit x) (fun x => DV.sh (.int (x : Nat)))]
    have e : ((List.range (Builtin.Int.intBits (m : Int))).filter fun x => m.testBit x) = bitsOf m := by
      refine strict_ext (lt := (· < ·)) Nat.lt_irrefl Nat.lt_trans ((range_sorted _).filter _) (bits_sorted m) fun x => ?_
      rw [mem_bits hm, List.mem_filter, List.mem_range]
      refine ⟨fun z => z.2, fun z => ⟨?_, z⟩⟩
      by_cases l : x < Builtin.Int.intBits (m : Int)
      · exact l
      · have : m < 2 ^ x := Nat.lt_of_lt_of_le b2 (Nat.pow_le_pow_right (by omega) (by omega))
        rw [Nat.testBit_lt_two_pow this] at z
        cases z
    rw [e]
    have e2 : (bitsOf m).map (fun x => DV.sh (.int (x : Nat))) = ((bitsOf m).map fun x : Nat => PyData.int x).map DV.sh := by rw [List.map_map]; rfl
    rw [e2, fTuple_o]
    exact q _ rfl
/-- whole numbers as a list, or as a tuple -/
def maskArg (b : Bool) (xs : List Nat) : D := if b = true then .list (xs.map fun x : Nat => .int x) else lotD xs
def g_mask_of : Sg := pr (fun x : List Nat × Bool => [.sh (maskArg x.2 x.1)]) (fun x => ∀ y ∈ x.1, y < 10) (fun x dv => ∃ m : Nat, dv = .sh (.int m) ∧ m < 1024 ∧ ∀ i, m.testBit i = true ↔ i ∈ x.1)
def n_mask_of : List Str := ["lot", "found", "x"]
def t_mask_of : DS := dSeq2 (dSet 1 (dC (.int 0))) (dSeq2 (dFor (dSeq (dVar 0)) (gN 2) (dSet 1 (dOp fOr (dVar 1) (dOp fShl (dC (.int 1)) (dVar 2))))) (dRetV 1))
theorem or_lt {a b : Nat} (h : a < 1024) (h' : b < 1024) : a ||| b < 1024 := Nat.or_lt_two_pow (n := 10) h h'
theorem p_mask_of (ds : List DV) (Q : DV → Prop) (h : g_mask_of ds Q) : t_mask_of { nx := fun _ => Q (.sh .none), rt := Q } (startD n_mask_of ds) := by
  obtain ⟨⟨xs, bb⟩, rfl, hx, q⟩ := h
  have key : ∀ E : DEnds, (∀ δ, (∃ (d0 : DV) (m : Nat) (y : Option DV), δ = [some d0, some (.sh (.int (m : Nat))), y] ∧ m < 1024 ∧ ∀ b, m.testBit b = true ↔ b ∈ xs) → E.nx δ) → ∀ d0 : DV,
      forRun (gN 2) (dSet 1 (dOp fOr (dVar 1) (dOp fShl (dC (.int 1)) (dVar 2)))) E (xs.map fun x : Nat => PyData.int x) [some d0, some (.sh (.int 0)), none] := by
    intro E hE d0
    refine forRun_ix (fun x : Nat => PyData.int x) xs (fun i δ => ∃ (m : Nat) (y : Option DV), δ = [some d0, some (.sh (.int (m : Nat))), y] ∧ m < 1024 ∧ ∀ b, m.testBit b = true ↔ b ∈ xs.take i) (fun i x δ e hI N hN => ?_) (fun δ hI => ?_) ⟨0, none, rfl, by omega, fun b => by simp⟩
    · obtain ⟨m, y, rfl, h1, h2⟩ := hI
      have hxi := hx x (List.mem_of_getElem? e)
      simp
      refine ⟨by omega, ?_⟩
      rw [pow_cast, bor_nat]
      refine hN _ ⟨_, _, rfl, or_lt h1 (Nat.lt_of_lt_of_le (Nat.pow_lt_pow_right (by omega) hxi) (by decide)), fun b => ?_⟩
      rw [Nat.testBit_or, Bool.or_eq_true, h2, testBit_two, List.take_add_one, e]
      simp
      constructor
      · rintro (z | z)
        · exact .inl z
        · exact .inr z.symm
      · rintro (z | z)
        · exact .inl z
        · exact .inr z.symm
    · obtain ⟨m, y, rfl, h1, h2⟩ := hI
      exact hE _ ⟨d0, m, y, rfl, h1, fun b => by rw [h2, List.take_length]⟩
  cases bb with
  | false =>
    simp [t_mask_of, startD, n_mask_of, maskArg, lotD]
    intro _
    refine key _ (fun δ hI => ?_) _
    obtain ⟨d0, m, y, rfl, h1, h2⟩ := hI
    simp
    exact q _ ⟨m, rfl, h1, h2⟩
  | true =>
    simp [t_mask_of, startD, n_mask_of, maskArg, lotD]
    intro _
    refine key _ (fun δ hI => ?_) _
    obtain ⟨d0, m, y, rfl, h1, h2⟩ := hI
    simp
    exact q _ ⟨m, rfl, h1, h2⟩
end HL
set_option Elab.async false
set_option linter.all false
set_option maxRecDepth 100000
set_option maxHeartbeats 1000000
namespace HL
open PySem PySem.Spec L2 DL
open PyProof.Rows hiding St
theorem lt_of_bits {m : Nat} (h : ∀ i, m.testBit i = true → i < 10) : m < 1024 := by
  refine Nat.lt_pow_two_of_testBit (n := 10) m fun i hi => ?_
  cases e : m.testBit i with
  | false => rfl
  | true => have := h i e; omega
def g_closed_mask : Sg := pr (fun x : Nat × (Nat → Nat) × Nat => [.sh (.list (natsD x.2.1 x.1)), .sh (.int x.2.2)]) (fun x => x.2.2 < 1024 ∧ (∀ i, x.2.2.testBit i = true → i < x.1) ∧ ∀ b, b < x.1 → x.2.1 b < 1024)
  (fun x dv => ∃ k : Nat, dv = .sh (.int k) ∧ k < 1024 ∧ ∀ i, k.testBit i = true ↔ ∃ j, x.2.2.testBit j = true ∧ (x.2.1 j).testBit i = true)
def n_closed_mask : List Str := ["masks", "mask", "found", "x"]
def t_closed_mask : DS := dSeq2 (dSet 2 (dC (.int 0))) (dSeq2 (dFor (dSeq (dCall g_lot_of (dCons (dVar 1) (dNil)))) (gN 3) (dSet 2 (dOp fOr (dVar 2) (dOpR fIx (dVar 0) (dVar 3))))) (dRetV 2))
theorem p_closed_mask (ds : List DV) (Q : DV → Prop) (h : g_closed_mask ds Q) : t_closed_mask { nx := fun _ => Q (.sh .none), rt := Q } (startD n_closed_mask ds) := by
  obtain ⟨⟨n, f, m⟩, rfl, ⟨hm, hb, hf⟩, q⟩ := h
  simp at hm hb hf
  simp [t_closed_mask, startD, n_closed_mask]
  refine pr_call m rfl hm ?_
  rintro dv rfl
  simp [lotD]
  intro _
  refine forRun_ix (fun x : Nat => PyData.int x) (bitsOf m) (fun i δ => ∃ (k : Nat) (y : Option DV), δ = [some (DV.sh (.list (natsD f n))), some (.sh (.int (m : Nat))), some (.sh (.int (k : Nat))), y] ∧ k < 1024 ∧ ∀ b, k.testBit b = true ↔ ∃ j, j ∈ (bitsOf m).take i ∧ (f j).testBit b = true) (fun i x δ e hI N hN => ?_) (fun δ hI => ?_) ⟨0, none, by simp, by omega, by simp⟩
  · obtain ⟨k, y, rfl, h1, h2⟩ := hI
    have hx := hb x ((mem_bits hm).mp (List.mem_of_getElem? e))
    simp [natsD_at hx]
    rw [bor_nat]
    refine hN _ ⟨_, _, rfl, or_lt h1 (hf x hx), fun b => ?_⟩
    rw [Nat.testBit_or, Bool.or_eq_true, h2, List.take_add_one, e]
    simp [or_and_right, exists_or]
  · obtain ⟨k, y, rfl, h1, h2⟩ := hI
    simp
    refine q _ ⟨k, rfl, h1, fun b => ?_⟩
    rw [h2, List.take_length]
    exact ⟨fun ⟨j, z, z2⟩ => ⟨j, (mem_bits hm).mp z, z2⟩, fun ⟨j, z, z2⟩ => ⟨j, (mem_bits hm).mpr z, z2⟩⟩
def g_lower_mask : Sg := pr (fun x : Nat × List Pr × Nat => [.sh (bookD x.1 x.2.1), .sh (.int x.2.2)]) (fun x => Good x.1 x.2.1 ∧ x.2.2 < 1024 ∧ ∀ i, x.2.2.testBit i = true → i < x.1)
  (fun x dv => ∃ k : Nat, dv = .sh (.int k) ∧ k < 1024 ∧ ∀ i, k.testBit i = true ↔ ∃ j, x.2.2.testBit j = true ∧ (i = j ∨ (i, j) ∈ x.2.1))
def n_lower_mask : List Str := ["hill", "mask"]
def t_lower_mask : DS := dRet (dCall g_closed_mask (dCons (dCall g_lows (dCons (dVar 0) (dNil))) (dCons (dVar 1) (dNil))))
theorem p_lower_mask (ds : List DV) (Q : DV → Prop) (h : g_lower_mask ds Q) : t_lower_mask { nx := fun _ => Q (.sh .none), rt := Q } (startD n_lower_mask ds) := by
  obtain ⟨⟨n, ps, m⟩, rfl, ⟨G, hm, hb⟩, q⟩ := h
  simp at hm hb
  simp [t_lower_mask, startD, n_lower_mask]
  refine pr_call (n, ps) rfl G ?_
  rintro dv ⟨f, rfl, hf⟩
  simp
  refine pr_call (n, f, m) rfl ⟨hm, hb, fun b hb => lt_of_bits fun i hi => ?_⟩ ?_
  · have u := G.hi
    simp at u
    rcases (hf b i hb).mp hi with rfl | z
    · exact Nat.lt_of_lt_of_le hb u
    · have := (G.ok _ z).1
      simp at this
      omega
  · rintro dv ⟨k, rfl, h1, h2⟩
    refine q _ ⟨k, rfl, h1, fun i => ?_⟩
    rw [h2]
    constructor
    · rintro ⟨j, z, z2⟩
      exact ⟨j, z, (hf j i (hb j z)).mp z2⟩
    · rintro ⟨j, z, z2⟩
      exact ⟨j, z, (hf j i (hb j z)).mpr z2⟩
/-- a lot of n names -/
structure Lot (n : Nat) (xs : List Nat) : Prop where
  st : xs.Pairwise (· < ·)
  ok : ∀ x ∈ xs, x < n
theorem nat_strict {l m : List Nat} (h1 : l.Pairwise (· < ·)) (h2 : m.Pairwise (· < ·)) (h : ∀ x, x ∈ l ↔ x ∈ m) : l = m := strict_ext (lt := (· < ·)) Nat.lt_irrefl Nat.lt_trans h1 h2 h
theorem Lot.eq {n : Nat} {xs : List Nat} (h : Lot n xs) : xs = (List.range n).filter fun x => decide (x ∈ xs) := nat_strict h.st ((range_sorted n).filter _) fun x => by
  rw [List.mem_filter, List.mem_range]
  simp
  exact h.ok x
theorem Lot.len {n : Nat} {xs : List Nat} (h : Lot n xs) : xs.length ≤ n := by
  rw [h.eq]
  exact Nat.le_trans (List.length_filter_le _ _) (by simp)
theorem zip_tailN : ∀ {ps : List Nat}, ps.Pairwise (· < ·) → ∀ x ∈ zipD (ps.map fun x : Nat => PyData.int x) (ps.map fun x : Nat => PyData.int x).tail, ∃ p q : Nat, p < q ∧ x = .tuple [.int p, .int q]
  | [], _, x, h => by simp [zipD] at h
  | [p], _, x, h => by simp [zipD] at h
  | p :: q :: ps, s, x, h => by
    have s' := List.pairwise_cons.mp s
    simp [zipD] at h
    rcases h with rfl | h
    · exact ⟨p, q, s'.1 q (by simp), rfl⟩
    · exact zip_tailN s'.2 x (by simpa using h)
def g_is_lot_value : Sg := pr (fun x : Nat × List Pr × List Nat => [.sh (bookD x.1 x.2.1), .sh (lotD x.2.2)]) (fun x => x.1 ≤ 10 ∧ Lot x.1 x.2.2) (fun _ dv => dv = .sh (.bool true))
def n_is_lot_value : List Str := ["hill", "thing", "x", "one", "other"]
def t_is_lot_value : DS := dSeq2 (dIfS (dOr (dNot (dTest (dUn (fIsi "tuple") (dVar 1)))) (dNot (dTest (dCB (on1 (fBools fun bs => bs.all id)) (dCons (dLc (dSeqQ (dVar 1)) (gN 2) (dYes) (dCall g_is_between (dCons (dVar 2) (dCons (dC (.int 0)) (dCons (dOp fSub (dOpR fIx (dVar 0) (dC (.int 0))) (dC (.int 1))) (dNil))))) [2]) (dNil)))))) (dRet (dC (.bool false))) (dNext)) (dRet (dCB (on1 (fBools fun bs => bs.all id)) (dCons (dLc (dZip false (dCons (dVar 1) (dCons (dSlice (dVar 1) (dPart (dC (.int 1))) (dNoPart)) (dNil)))) (gT 2 (gsCons (gN 3) (gsCons (gN 4) (gsNil)))) (dYes) (dOp (fRel sLt rLtD) (dVar 3) (dVar 4)) [3, 4]) (dNil))))
theorem p_is_lot_value (ds : List DV) (Q : DV → Prop) (h : g_is_lot_value ds Q) : t_is_lot_value { nx := fun _ => Q (.sh .none), rt := Q } (startD n_is_lot_value ds) := by
  obtain ⟨⟨n, ps, xs⟩, rfl, ⟨hn, L⟩, q⟩ := h
  have hl := L.len
  simp at hn hl
  have hs : (100 : Nat) ≤ sizeLine := by decide
  simp [t_is_lot_value, startD, n_is_lot_value, tyIs, lotD, PyData.isTuple, bookD]
  intro _
  refine lcRun_same (.sh (.bool true)) _ (by simp; omega) (fun x m P hP => ?_) ?_
  · obtain ⟨p, hp, rfl⟩ := List.mem_map.mp m
    have := L.ok p hp
    simp at this
    simp
    refine pr_call ((p : Int), 0, (n : Int) - 1) rfl trivial ?_
    rintro dv rfl
    have e : decide ((0 : Int) ≤ p ∧ (p : Int) ≤ n - 1) = true := by simp; omega
    simp only [e]
    exact hP
  · refine all_true _ ?_
    simp
    rw [cut1]
    simp
    refine lcRun_same (.sh (.bool true)) _ (by rw [zipD_len]; simp; omega) (fun x m P hP => ?_) (all_true _ (q _ rfl))
    obtain ⟨p, r, hpr, rfl⟩ := zip_tailN L.st x m
    simp
    simpa [hpr] using hP
/-- at or below -/
def le (ps : List Pr) (a b : Nat) : Bool := decide (a = b) || decide ((a, b) ∈ ps)
theorem le_iff {ps : List Pr} {a b : Nat} : le ps a b = true ↔ a = b ∨ (a, b) ∈ ps := by unfold le; simp
/-! ### mirrors, led hills -/
theorem sort_mem {n : Nat} {r : Nat → Nat → Bool} {l : List Pr} (nd : l.Nodup) (h : ∀ p, p ∈ l ↔ p ∈ prs n r) : sortD (l.map prD) = (prs n r).map prD :=
  sort_prs (perm_of_mem plt_irrefl nd (sorted_prs n r) h) (sorted_prs n r)
theorem sort_ok (l : List Pr) : PySem.W.AllAlike (l.map prD) ∧ PySem.W.Sortable (l.map prD) ∧ ∀ d ∈ l.map prD, d.depth ≤ 60 := ⟨alike_prs l, sortable_prs l, fun d m => by
  obtain ⟨p, _, rfl⟩ := List.mem_map.mp m
  have := depth_prD p
  omega⟩
theorem own_prs (l : List Pr) : l.map (fun p => DV.sh (prD p)) = (l.map prD).map DV.sh := by rw [List.map_map]; rfl
end HL
set_option Elab.async false
set_option linter.all false
set_option maxRecDepth 100000
set_option maxHeartbeats 1000000
namespace HL
open PySem PySem.Spec L2 DL
open PyProof.Rows hiding St
/-! ### renamings -/
theorem sort_nats {l m : List Nat} (p : l.Perm m) (hm : m.Pairwise (· < ·)) : sortD (l.map fun x : Nat => PyData.int x) = m.map fun x : Nat => PyData.int x :=
  sort_strict (f := fun x : Nat => PyData.int x) (lt := (· < ·)) (fun a b => by rw [PySem.W.dataLt_int]; simp) Nat.lt_irrefl Nat.lt_trans (fun a b h => by omega) p hm
theorem nats_ok (l : List Nat) : PySem.W.AllAlike (l.map fun x : Nat => PyData.int x) ∧ PySem.W.Sortable (l.map fun x : Nat => PyData.int x) ∧ ∀ d ∈ l.map fun x : Nat => PyData.int x, d.depth ≤ 60 := by
  refine ⟨fun d m d' m' => ?_, .inr fun d m => ?_, fun d m => ?_⟩
  · obtain ⟨p, _, rfl⟩ := List.mem_map.mp m
    obtain ⟨q, _, rfl⟩ := List.mem_map.mp m'
    simp [PySem.W.alike]
  · obtain ⟨p, _, rfl⟩ := List.mem_map.mp m
    exact ⟨(by intro h; cases h), (by intro xs h; cases h)⟩
  · obtain ⟨p, _, rfl⟩ := List.mem_map.mp m
    rw [depth_int]; omega
theorem rgOk_n {n : Nat} (h : n ≤ 1000) : RgOk 0 (n : Int) := by unfold RgOk; simp; omega
theorem rEqv_nats (l m : List Nat) : rEqv (.list (l.map fun x : Nat => PyData.int x)) (.list (m.map fun x : Nat => PyData.int x)) = decide (l = m) := by
  rw [rEqv_eq, PyData.eqv]
  exact eqvAll_map (f := fun x : Nat => PyData.int x) (fun a b => by rw [PyData.eqv, Bool.eq_iff_iff]; simp; omega) l m
def ledR (ps : List Pr) (xs : List Nat) (a b : Nat) : Bool := ps.any fun p => decide (xs[p.1]? = some a) && decide (xs[p.2]? = some b)
theorem ledR_iff {ps : List Pr} {xs : List Nat} {a b : Nat} : ledR ps xs a b = true ↔ ∃ p ∈ ps, xs[p.1]? = some a ∧ xs[p.2]? = some b := by unfold ledR; simp [List.any_eq_true]
/-- xs a renaming of n names -/
structure Ren (n : Nat) (xs : List Nat) : Prop where
  perm : xs.Perm (List.range n)
theorem Ren.len {n : Nat} {xs : List Nat} (h : Ren n xs) : xs.length = n := by have := h.perm.length_eq; simpa using this
theorem Ren.nodup {n : Nat} {xs : List Nat} (h : Ren n xs) : xs.Nodup := (h.perm.nodup_iff).mpr List.nodup_range
theorem Ren.lt {n : Nat} {xs : List Nat} (h : Ren n xs) {i x : Nat} (e : xs[i]? = some x) : x < n := by
  have := (h.perm.mem_iff (a := x)).mp (List.mem_of_getElem? e)
  simpa using this
theorem Ren.at {n : Nat} {xs : List Nat} (h : Ren n xs) {i : Nat} (hi : i < n) : ∃ x, xs[i]? = some x := ⟨_, List.getElem?_eq_getElem (by rw [h.len]; exact hi)⟩
theorem Ren.inj {n : Nat} {xs : List Nat} (h : Ren n xs) {i j x : Nat} (e : xs[i]? = some x) (e' : xs[j]? = some x) : i = j := by
  have l1 := (List.getElem?_eq_some_iff.mp e).1
  exact (List.getElem?_inj l1 h.nodup).mp (e.trans e'.symm)
theorem Ren.has {n : Nat} {xs : List Nat} (h : Ren n xs) {x : Nat} (hx : x < n) : ∃ i, i < n ∧ xs[i]? = some x := by
  have := (h.perm.mem_iff (a := x)).mpr (by simpa using hx)
  obtain ⟨i, hi, e⟩ := List.mem_iff_getElem.mp this
  exact ⟨i, by rw [← h.len]; exact hi, by rw [List.getElem?_eq_getElem hi, e]⟩
/-- the led pairs, one by one -/
def ledL (ps : List Pr) (xs : List Nat) : List Pr := ps.map fun p => (xs[p.1]?.getD 0, xs[p.2]?.getD 0)
theorem led_mem {n : Nat} {ps : List Pr} {xs : List Nat} (G : Good n ps) (r : Ren n xs) (p : Pr) : p ∈ ledL ps xs ↔ p ∈ prs n (ledR ps xs) := by
  unfold ledL
  rw [List.mem_map, mem_prs, ledR_iff]
  constructor
  · rintro ⟨q, hq, rfl⟩
    obtain ⟨g1, g2, g3⟩ := G.ok q hq
    obtain ⟨x, ex⟩ := r.at g1
    obtain ⟨y, ey⟩ := r.at g2
    rw [ex, ey]
    exact ⟨r.lt ex, r.lt ey, fun e => g3 (by have e : x = y := e; subst e; exact r.inj ex ey), q, hq, ex, ey⟩
  · rintro ⟨_, _, _, q, hq, ex, ey⟩
    exact ⟨q, hq, by rw [ex, ey]; rfl⟩
theorem led_nodup {n : Nat} {ps : List Pr} {xs : List Nat} (G : Good n ps) (r : Ren n xs) : (ledL ps xs).Nodup := by
  unfold ledL List.Nodup
  rw [List.pairwise_map]
  refine List.Pairwise.imp_of_mem (fun {a b} ha hb q e => ?_) (strict_nodup plt_irrefl G.st)
  obtain ⟨a1, a2, _⟩ := G.ok a ha
  obtain ⟨b1, b2, _⟩ := G.ok b hb
  obtain ⟨x1, e1⟩ := r.at a1
  obtain ⟨x2, e2⟩ := r.at a2
  obtain ⟨y1, f1⟩ := r.at b1
  obtain ⟨y2, f2⟩ := r.at b2
  rw [e1, e2, f1, f2] at e
  have e := Prod.mk.inj e
  have h1 : x1 = y1 := e.1
  have h2 : x2 = y2 := e.2
  subst h1
  subst h2
  exact q (Prod.ext (r.inj e1 f1) (r.inj e2 f2))
theorem lotD_at {xs : List Nat} {i x : Nat} (e : xs[i]? = some x) : atI (xs.map fun x : Nat => PyData.int x) (i : Int) = some (.int (x : Nat)) := atI_nat (by rw [List.getElem?_map, e]; rfl)
def led (n : Nat) (ps : List Pr) (xs : List Nat) : List Pr := prs n (ledR ps xs)
theorem led_run {n : Nat} {ps : List Pr} {xs : List Nat} {Q : R → Prop} (G : Good n ps) (r : Ren n xs) (q : Q (.val (.own (((led n ps xs).map prD).map DV.sh)))) : fSorted (.val (.own (((ledL ps xs).map prD).map DV.sh))) Q := by
  rw [fSorted_o]
  refine ⟨sort_ok _, ?_⟩
  rw [sort_mem (led_nodup G r) (led_mem G r)]
  exact q
/-! ### hills beside one another -/
end HL
set_option Elab.async false
set_option linter.all false
set_option maxRecDepth 100000
set_option maxHeartbeats 1000000
namespace HL
open PySem PySem.Spec L2 DL
open PyProof.Rows hiding St
/-! ### products -/
theorem flatMap_len {α β : Type} {k : Nat} {f : α → List β} (h : ∀ a, (f a).length ≤ k) : ∀ l : List α, (l.flatMap f).length ≤ l.length * k
  | [] => by simp
  | a :: l => by
    rw [List.flatMap_cons, List.length_append, List.length_cons, Nat.add_mul]
    have := flatMap_len h l
    have := h a
    omega
end HL
set_option Elab.async false
set_option linter.all false
set_option maxRecDepth 100000
set_option maxHeartbeats 1000000
namespace HL
open PySem PySem.Spec L2 DL
open PyProof.Rows hiding St
/-! ### rows of lots in order -/
def ltL (a b : List Nat) : Prop := (a.map fun x : Nat => (x : Int)) < (b.map fun x : Nat => (x : Int))
theorem ltL_irrefl (a : List Nat) : ¬ ltL a a := List.lt_irrefl _
/-! ### ponds -/
def pondL (n : Nat) (ps : List Pr) (x : Nat) : List Nat := (List.range n).filter fun y => le ps y x && le ps x y
def IsPonds (n : Nat) (ps : List Pr) (L : List (List Nat)) : Prop := L.Pairwise ltL ∧ ∀ l, l ∈ L ↔ ∃ x, x < n ∧ l = pondL n ps x
end HL
set_option Elab.async false
set_option linter.all false
set_option maxRecDepth 100000
set_option maxHeartbeats 1000000
namespace HL
open PySem PySem.Spec L2 DL
open PyProof.Rows hiding St
abbrev g__law_draw : Sg := gDraw
theorem draw_call {many : Int} {ds : List DV} {Q : DV → Prop} (e : ds = [.tok 0, .sh (.int many)]) (h : 0 < many ∧ many < 1073741824) (q : ∀ r : Int, 0 ≤ r → r < many → Q (.sh (.int r))) : g__law_draw ds Q := ⟨many, e, h, q⟩
theorem draw_nat {many : Nat} {ds : List DV} {Q : DV → Prop} (e : ds = [.tok 0, .sh (.int many)]) (h : 0 < many ∧ many < 1073741824) (q : ∀ r : Nat, r < many → Q (.sh (.int r))) : g__law_draw ds Q :=
  draw_call (many := (many : Int)) e (by omega) fun r h0 h1 => by
    obtain ⟨k, rfl⟩ : ∃ k : Nat, r = k := ⟨r.toNat, by omega⟩
    exact q k (by omega)
/-- a list or a tuple -/
def seqD (t : Bool) (ds : List D) : D := if t = true then .list ds else .tuple ds
def g__law_pick : Sg := pr (fun x : Bool × List D => [.tok 0, .sh (seqD x.1 x.2)]) (fun x => x.2 ≠ [] ∧ x.2.length < 1000000) (fun x dv => ∃ d ∈ x.2, dv = .sh d)
def n__law_pick : List Str := ["deck", "some"]
def t__law_pick : DS := dRet (dOpR fIx (dVar 1) (dCall g__law_draw (dCons (dVar 0) (dCons (dCB (on1 fLen) (dCons (dVar 1) (dNil))) (dNil)))))
theorem p__law_pick (ds : List DV) (Q : DV → Prop) (h : g__law_pick ds Q) : t__law_pick { nx := fun _ => Q (.sh .none), rt := Q } (startD n__law_pick ds) := by
  obtain ⟨⟨t, l⟩, rfl, ⟨h0, h1⟩, q⟩ := h
  have h2 : 0 < l.length := by
    cases l with
    | nil => exact absurd rfl h0
    | cons _ _ => simp
  have h1 : l.length < 1000000 := h1
  cases t with
  | false =>
    simp [t__law_pick, startD, n__law_pick, seqD]
    refine draw_nat rfl ⟨h2, by omega⟩ fun r hr => ?_
    simp
    rw [atI_get' hr]
    exact q _ ⟨_, List.getElem_mem hr, rfl⟩
  | true =>
    simp [t__law_pick, startD, n__law_pick, seqD]
    refine draw_nat rfl ⟨h2, by omega⟩ fun r hr => ?_
    simp
    rw [atI_get' hr]
    exact q _ ⟨_, List.getElem_mem hr, rfl⟩
def g__law_led : Sg := pr (fun x : Nat × List Pr × List Nat => [.sh (bookD x.1 x.2.1), .sh (lotD x.2.2)]) (fun x => Good x.1 x.2.1 ∧ Ren x.1 x.2.2) (fun x dv => dv = .sh (bookD x.1 (led x.1 x.2.1 x.2.2)))
def n__law_led : List Str := ["hill", "order", "a", "b"]
def t__law_led : DS := dRet (dTup (dCons (dOpR fIx (dVar 0) (dC (.int 0))) (dCons (dCB (on1 fTuple) (dCons (dCB (on1 fSorted) (dCons (dLc (dSeqQ (dOpR fIx (dVar 0) (dC (.int 1)))) (gT 2 (gsCons (gN 2) (gsCons (gN 3) (gsNil)))) (dYes) (dTup (dCons (dOpR fIx (dVar 1) (dVar 2)) (dCons (dOpR fIx (dVar 1) (dVar 3)) (dNil)))) [2, 3]) (dNil))) (dNil))) (dNil))))
theorem p__law_led (ds : List DV) (Q : DV → Prop) (h : g__law_led ds Q) : t__law_led { nx := fun _ => Q (.sh .none), rt := Q } (startD n__law_led ds) := by
  obtain ⟨⟨n, ps, xs⟩, rfl, ⟨G, r⟩, q⟩ := h
  have hl := book_len G
  simp at hl
  have hs : (100 : Nat) ≤ sizeLine := by decide
  simp [t__law_led, startD, n__law_led, bookD, lotD]
  intro _
  refine lcRun_map prD (fun p => DV.sh (prD (xs[p.1]?.getD 0, xs[p.2]?.getD 0))) ps (by omega) (fun p m P hP => ?_) ?_
  · obtain ⟨g1, g2, g3⟩ := G.ok p m
    obtain ⟨x, ex⟩ := r.at g1
    obtain ⟨y, ey⟩ := r.at g2
    simp only [ex, ey] at hP
    simp [prD, lotD_at ex, lotD_at ey] at hP ⊢
    exact hP
  · have e : ps.map (fun p => DV.sh (prD (xs[p.1]?.getD 0, xs[p.2]?.getD 0))) = ((ledL ps xs).map prD).map DV.sh := by unfold ledL; rw [List.map_map, List.map_map]; rfl
    rw [e]
    refine led_run G r ?_
    simp [-List.map_map]
    exact q _ rfl
def g__law_lot : Sg := pr (fun n : Nat => [.tok 0, .sh (.int n)]) (fun n => n ≤ 10) (fun n dv => ∃ xs, dv = .sh (lotD xs) ∧ Lot n xs)
def n__law_lot : List Str := ["deck", "n", "x"]
def t__law_lot : DS := dRet (dCB (on1 fTuple) (dCons (dLc (dRange1 (dVar 1)) (gN 2) (dTest (dOp (fRel sDep rEqv) (dCall g__law_draw (dCons (dVar 0) (dCons (dC (.int 2)) (dNil)))) (dC (.int 0)))) (dVar 2) [2]) (dNil)))
theorem lot_sub {n : Nat} : ∀ {xs : List Nat} {os : List (Option DV)}, Paired (fun (x : Nat) (o : Option DV) => o = some (.sh (.int (x : Nat))) ∨ o = none) xs os → xs.Pairwise (· < ·) → (∀ x ∈ xs, x < n) → ∃ ys : List Nat, os.filterMap id = (ys.map fun x : Nat => PyData.int x).map DV.sh ∧ Lot n ys ∧ ∀ y ∈ ys, y ∈ xs
  | _, _, .nil, _, _ => ⟨[], rfl, ⟨.nil, fun _ m => by cases m⟩, fun _ m => by cases m⟩
  | x :: xs, _, .cons r t, s, h => by
    have s' := List.pairwise_cons.mp s
    obtain ⟨ys, e, L, sub⟩ := lot_sub t s'.2 fun y m => h y (List.mem_cons_of_mem _ m)
    rcases r with rfl | rfl
    · refine ⟨x :: ys, by simp at e; simp [e], ⟨List.pairwise_cons.mpr ⟨fun y m => s'.1 y (sub y m), L.st⟩, fun y m => ?_⟩, fun y m => ?_⟩
      · rcases List.mem_cons.mp m with rfl | m
        · exact h _ List.mem_cons_self
        · exact L.ok y m
      · rcases List.mem_cons.mp m with rfl | m
        · exact List.mem_cons_self
        · exact List.mem_cons_of_mem _ (sub y m)
    · exact ⟨ys, by simpa using e, L, fun y m => List.mem_cons_of_mem _ (sub y m)⟩
theorem p__law_lot (ds : List DV) (Q : DV → Prop) (h : g__law_lot ds Q) : t__law_lot { nx := fun _ => Q (.sh .none), rt := Q } (startD n__law_lot ds) := by
  obtain ⟨n, rfl, hn, q⟩ := h
  have hs : (100 : Nat) ≤ sizeLine := by decide
  simp [t__law_lot, startD, n__law_lot]
  refine ⟨small_n (by omega), ?_⟩
  rw [rangeD_nat]
  refine lcRun_rel (fun i : Nat => PyData.int i) (fun (x : Nat) (o : Option DV) => o = some (.sh (.int (x : Nat))) ∨ o = none) _ _ (by simp; omega) (fun x m P hP => ?_) fun os p => ?_
  · simp
    refine draw_call rfl (by omega) fun r h0 h1 => ?_
    simp
    split
    · exact hP _ (.inl rfl)
    · exact hP _ (.inr rfl)
  · obtain ⟨ys, e, L, _⟩ := lot_sub (n := n) p (range_sorted n) fun x m => by simpa using m
    simp only [List.nil_append]
    rw [e, fTuple_o]
    exact q _ ⟨ys, rfl, L⟩
def g__law_order : Sg := pr (fun n : Nat => [.tok 0, .sh (.int n)]) (fun n => n ≤ 10) (fun n dv => ∃ xs : List Nat, dv = .kt (xs.map fun x : Nat => .int x) ∧ Ren n xs)
theorem eraseIdx_perm {α : Type} : ∀ {l : List α} {k : Nat} {x : α}, l[k]? = some x → l.Perm (x :: l.eraseIdx k)
  | [], _, _, h => by cases h
  | a :: l, 0, x, h => by
    cases h
    exact .refl _
  | a :: l, k + 1, x, h => by
    have := eraseIdx_perm (l := l) (k := k) (x := x) (by simpa using h)
    rw [List.eraseIdx_cons_succ]
    exact (List.Perm.cons a this).trans (List.Perm.swap x a _)
theorem map_erase {α β : Type} (f : α → β) : ∀ (l : List α) (k : Nat), (l.map f).eraseIdx k = (l.eraseIdx k).map f
  | [], _ => rfl
  | a :: l, 0 => rfl
  | a :: l, k + 1 => by
    rw [List.map_cons, List.eraseIdx_cons_succ, List.eraseIdx_cons_succ, List.map_cons, map_erase f l k]
theorem noLsts_natl (l : List Nat) : noLsts (l.map fun x : Nat => PyData.int x) = true := noLsts_all fun d m => by
  obtain ⟨i, _, rfl⟩ := List.mem_map.mp m
  exact noLst_int _
end HL
set_option Elab.async false
set_option linter.all false
set_option maxRecDepth 100000
set_option maxHeartbeats 1000000
namespace HL
open PySem PySem.Spec L2 DL
open PyProof.Rows hiding St
/-! ### what is reached from each name -/
/-- by one pair at least -/
def Rch1 (ps : List Pr) (a x : Nat) : Prop := ∃ c, (a, c) ∈ ps ∧ Rch ps c x
open Classical in
noncomputable def rch1 (ps : List Pr) (a x : Nat) : Bool := decide (Rch1 ps a x)
open Classical in
theorem rch1_iff {ps : List Pr} {a x : Nat} : rch1 ps a x = true ↔ Rch1 ps a x := by unfold rch1; exact decide_eq_true_iff
theorem rch_head {ps : List Pr} {a b : Nat} (r : Rch ps a b) : a = b ∨ Rch1 ps a b := by
  induction r with
  | refl => exact .inl rfl
  | @step b c r m ih =>
    rcases ih with rfl | ⟨d, h1, h2⟩
    · exact .inr ⟨c, m, .refl⟩
    · exact .inr ⟨d, h1, .step h2 m⟩
theorem Rch1.rch {ps : List Pr} {a b : Nat} (h : Rch1 ps a b) : Rch ps a b := by
  obtain ⟨c, h1, h2⟩ := h
  exact Rch.trans (.step .refl h1) h2
theorem rch1_reach {ps : List Pr} {a b : Nat} (ne : a ≠ b) : rch1 ps a b = reach ps a b := by
  rw [Bool.eq_iff_iff, rch1_iff, reach_iff]
  exact ⟨Rch1.rch, fun r => (rch_head r).resolve_left ne⟩
def stepsL (ps : List Pr) (a : Nat) : List Nat := (ps.filter fun p => decide (p.1 = a)).map (·.2)
theorem mem_steps {ps : List Pr} {a c : Nat} : c ∈ stepsL ps a ↔ (a, c) ∈ ps := by
  unfold stepsL
  rw [List.mem_map]
  constructor
  · rintro ⟨p, h, rfl⟩
    obtain ⟨h1, h2⟩ := List.mem_filter.mp h
    have : p.1 = a := of_decide_eq_true h2
    rw [← this]; exact h1
  · intro h
    exact ⟨(a, c), List.mem_filter.mpr ⟨h, by simp⟩, rfl⟩
/-- the search's state: what is met, what is to be done; t turns are done -/
structure DInv (n : Nat) (ps : List Pr) (a t : Nat) (met : Nat → Bool) (todo : List Nat) : Prop where
  ok : ∀ x ∈ todo, x < n
  sound : ∀ x, met x = true → Rch1 ps a x
  soundT : ∀ x ∈ todo, Rch1 ps a x
  first : ∀ c, (a, c) ∈ ps → met c = true ∨ c ∈ todo
  next : ∀ x c, met x = true → (x, c) ∈ ps → met c = true ∨ c ∈ todo
  pot : t + todo.length + (ps.filter fun p => !met p.1).length ≤ (stepsL ps a).length + ps.length
theorem DInv.start {n : Nat} {ps : List Pr} {a : Nat} (h : ∀ p ∈ ps, p.2 < n) : DInv n ps a 0 (fun _ => false) (stepsL ps a) :=
  ⟨fun x m => h _ (mem_steps.mp m), fun x h => (by cases h), fun x m => ⟨x, mem_steps.mp m, .refl⟩, fun c m => .inr (mem_steps.mpr m), fun x c h => (by cases h), by
    have := List.length_filter_le (fun p : Pr => !false) ps
    omega⟩
theorem DInv.done {n : Nat} {ps : List Pr} {a t : Nat} {met : Nat → Bool} (h : DInv n ps a t met []) (x : Nat) : met x = rch1 ps a x := by
  rw [Bool.eq_iff_iff, rch1_iff]
  refine ⟨h.sound x, fun ⟨c, h1, h2⟩ => ?_⟩
  have key : ∀ y, Rch ps c y → met y = true := fun y r => by
    induction r with
    | refl => exact (h.first c h1).resolve_right (by simp)
    | step _ m ih => exact (h.next _ _ ih m).resolve_right (by simp)
  exact key x h2
def boolsD (n : Nat) (m : Nat → Bool) : List D := (List.range n).map fun x => .bool (m x)
theorem boolsD_len (n : Nat) (m : Nat → Bool) : (boolsD n m).length = n := by unfold boolsD; simp
theorem boolsD_at {n : Nat} {m : Nat → Bool} {b : Nat} (h : b < n) : atI (boolsD n m) (b : Int) = some (.bool (m b)) := atI_nat (by unfold boolsD; simp [h])
def natL (l : List Nat) : List D := l.map fun x : Nat => .int x
theorem noLsts_natL (l : List Nat) : noLsts (natL l) = true := noLsts_natl l
theorem natL_len (l : List Nat) : (natL l).length = l.length := by unfold natL; simp
theorem natL_app (l m : List Nat) : natL (l ++ m) = natL l ++ natL m := by unfold natL; rw [List.map_append]
theorem fMul_rep {d : D} {n : Nat} (h : n ≤ 1000) {Q : R → Prop} (q : Q (.val (.own ((List.replicate n d).map DV.sh)))) : fMul (.val (.own [.sh d])) (.val (.sh (.int (n : Nat)))) Q := by
  have e : (R.val (.own [DV.sh d])).sup = some (.list [d]) := sup_own [d]
  unfold fMul
  rw [e]
  simp only [R.sup_sh]
  have hs : (1000 : Nat) ≤ sizeLine := by decide
  refine ⟨⟨by omega, by omega, by simp; omega⟩, ?_⟩
  have e2 : (List.replicate (n : Int).toNat [d]).flatten = List.replicate n d := by
    simp only [Int.toNat_natCast]
    clear q h e
    induction n with
    | zero => rfl
    | succ n ih => rw [List.replicate_succ, List.flatten_cons, ih]; rfl
  rw [e2]
  exact q
def reachD (n : Nat) (r : Nat → Nat → Bool) : List D := (List.range n).map fun a => .list (boolsD n (r a))
def g__law_reached : Sg := pr (fun x : Nat × Bool × List Pr => [.sh (.int x.1), .sh (if x.2.1 then .tuple (x.2.2.map prD) else .list (x.2.2.map prD))]) (fun x => x.1 ≤ 10 ∧ (∀ p ∈ x.2.2, p.1 < x.1 ∧ p.2 < x.1) ∧ ∀ a, (stepsL x.2.2 a).length + x.2.2.length < 120) (fun x dv => dv = ownL (reachD x.1 (rch1 x.2.2)))
def g__law_closed : Sg := pr (fun x : Nat × List Pr => [.sh (.int x.1), .sh (.list (x.2.map prD))]) (fun x => x.1 ≤ 10 ∧ (∀ p ∈ x.2, p.1 < x.1 ∧ p.2 < x.1) ∧ x.2.length < 60) (fun x dv => dv = .sh (bookD x.1 (clo x.1 x.2)))
def n__law_closed : List Str := ["n", "pairs", "met", "found", "a", "b"]
def t__law_closed : DS := dSeq2 (dUnp [2, 3] (dCons (dCall g__law_reached (dCons (dVar 0) (dCons (dVar 1) (dNil)))) (dCons (dLst (dNil)) (dNil)))) (dSeq2 (dFor (dRange1 (dVar 0)) (gN 4) (dExtend 3 (dLc (dRange1 (dVar 0)) (gN 5) (dAnd (dTest (dOp (fRel sDep fun d e => !rEqv d e) (dVar 5) (dVar 4))) (dTest (dOpR fIx (dOpR fIx (dVar 2) (dVar 4)) (dVar 5)))) (dTup (dCons (dVar 4) (dCons (dVar 5) (dNil)))) [5]))) (dRet (dTup (dCons (dVar 0) (dCons (dCB (on1 fTuple) (dCons (dVar 3) (dNil))) (dNil))))))
theorem reachD_at {n : Nat} {r : Nat → Nat → Bool} {a : Nat} (h : a < n) : atI (reachD n r) (a : Int) = some (.list (boolsD n (r a))) := atI_nat (by unfold reachD; simp [h])
theorem steps_len (ps : List Pr) (a : Nat) : (stepsL ps a).length ≤ ps.length := by
  unfold stepsL
  rw [List.length_map]
  exact List.length_filter_le _ _
theorem p__law_closed (ds : List DV) (Q : DV → Prop) (h : g__law_closed ds Q) : t__law_closed { nx := fun _ => Q (.sh .none), rt := Q } (startD n__law_closed ds) := by
  obtain ⟨⟨n, ps⟩, rfl, ⟨hn, hp, hl⟩, q⟩ := h
  simp at hn hp hl
  have hs : (1000 : Nat) ≤ sizeLine := by decide
  simp [t__law_closed, startD, n__law_closed]
  refine pr_call (n, false, ps) rfl ⟨hn, fun p m => hp p.1 p.2 m, fun a => ?_⟩ ?_
  · have := steps_len ps a
    simp
    omega
  · rintro dv rfl
    simp
    refine ⟨small_n (by omega), ?_⟩
    rw [rangeD_nat]
    have fin := q _ rfl
    refine forRun_nat n (fun i δ => ∃ x4 x5, δ = [some (DV.sh (PyData.int ↑n)), some (DV.sh (.list (ps.map prD))), some (ownL (reachD n (rch1 ps))), some (ownL (((List.range i).flatMap fun a => ((List.range n).filter fun b => decide (a ≠ b) && rch1 ps a b).map fun b => prD (a, b)))), x4, x5]) (fun a δ ha hI N hN => ?_) (fun δ hI => ?_) ⟨none, none, rfl⟩
    · obtain ⟨x4, x5, rfl⟩ := hI
      have hlen : (((List.range a).flatMap fun a => ((List.range n).filter fun b => decide (a ≠ b) && rch1 ps a b).map fun b => prD (a, b))).length ≤ a * 10 := by
        have := flatMap_len (k := 10) (f := fun a => ((List.range n).filter fun b => decide (a ≠ b) && rch1 ps a b).map fun b => prD (a, b)) (fun a => by
          rw [List.length_map]
          refine Nat.le_trans (List.length_filter_le _ _) ?_
          simpa using hn) (List.range a)
        simpa using this
      have hstep : ((List.range (a + 1)).flatMap fun a => ((List.range n).filter fun b => decide (a ≠ b) && rch1 ps a b).map fun b => prD (a, b)) = ((List.range a).flatMap fun a => ((List.range n).filter fun b => decide (a ≠ b) && rch1 ps a b).map fun b => prD (a, b)) ++ ((List.range n).filter fun b => decide (a ≠ b) && rch1 ps a b).map fun b => prD (a, b) := by
        rw [List.range_succ, List.flatMap_append]; simp
      generalize ((List.range a).flatMap fun a => ((List.range n).filter fun b => decide (a ≠ b) && rch1 ps a b).map fun b => prD (a, b)) = A at hlen hstep
      simp [-List.map_map]
      refine ⟨small_n (by omega), ?_⟩
      rw [rangeD_nat]
      refine lcRun_fn (fun i : Nat => PyData.int i) (fun b => if (decide (a ≠ b) && rch1 ps a b) = true then some (DV.sh (prD (a, b))) else none) _ [] (by simp; omega) (fun b mb P hP => ?_) ?_
      · simp at mb
        simp [reachD_at ha, boolsD_at mb]
        by_cases e : a = b
        · subst e
          simp at hP ⊢
          exact hP
        · have e' : ¬ ((b : Int) = a) := by omega
          by_cases c : rch1 ps a b = true
          · simp [e, c] at hP
            simp [e', c]
            simpa [prD] using hP
          · simp [e, c] at hP
            simp [e', c]
            exact hP
      · simp only [List.nil_append]
        rw [filterMap_if (fun b => decide (a ≠ b) && rch1 ps a b) (fun b => DV.sh (prD (a, b)))]
        refine ⟨?_, ?_⟩
        · rw [List.length_map]
          have h1 : ((List.range n).filter fun b => decide (a ≠ b) && rch1 ps a b).length ≤ n := by
            have := List.length_filter_le (fun b => decide (a ≠ b) && rch1 ps a b) (List.range n)
            simpa using this
          omega
        · have h := hN _ ⟨some (.sh (.int (a : Nat))), x5, rfl⟩
          rw [hstep] at h
          unfold ownL at h
          rw [List.map_append, List.map_map (f := fun b => prD (a, b))] at h
          exact h
    · obtain ⟨x4, x5, rfl⟩ := hI
      have e : ((List.range n).flatMap fun a => ((List.range n).filter fun b => decide (a ≠ b) && rch1 ps a b).map fun b => prD (a, b)) = (clo n ps).map prD := by
        unfold clo
        rw [← prs_congr (fun a b _ _ ne => rch1_reach ne)]
        unfold prs
        rw [List.map_flatMap]
        refine flatMap_eq fun a _ => ?_
        rw [List.map_map]; rfl
      rw [e]
      simp [-List.map_map]
      rw [fTuple_b (noLsts_prs _)]
      simp [-List.map_map]
      exact fin
end HL
set_option Elab.async false
set_option linter.all false
set_option maxRecDepth 100000
set_option maxHeartbeats 4000000
namespace HL
open PySem PySem.Spec L2 DL
open PyProof.Rows hiding St
/-! ### a drawn hill -/
theorem rel_prs {α : Type} {ok : Pr → Prop} {xs : List α} {os : List (Option DV)} (h : Paired (fun (_ : α) (o : Option DV) => (∃ p, ok p ∧ o = some (.sh (prD p))) ∨ o = none) xs os) : ∃ ps : List Pr, os.filterMap id = (ps.map prD).map DV.sh ∧ (∀ p ∈ ps, ok p) ∧ ps.length ≤ xs.length := by
  induction h with
  | nil => exact ⟨[], rfl, (fun _ m => by cases m), by simp⟩
  | @cons x o xs os r t ih =>
    obtain ⟨ps, e, hp, hl⟩ := ih
    rcases r with ⟨p, h, rfl⟩ | rfl
    · refine ⟨p :: ps, ?_, fun q m => ?_, by simp; omega⟩
      · rw [List.filterMap_cons]
        simp only [id]
        rw [e]; rfl
      · rcases List.mem_cons.mp m with rfl | m
        · exact h
        · exact hp q m
    · exact ⟨ps, by rw [List.filterMap_cons]; simp only [id]; exact e, hp, by simp; omega⟩
theorem lcP {α : Type} {pat : DP} {tst : DB} {elt : DT} {δ : DE} {Q : List DV → Prop} {ok : Pr → Prop} (f : α → D) (xs : List α) (hz : xs.length ≤ sizeLine)
    (st : ∀ x ∈ xs, ∀ P : Option DV → Prop, (∀ p, ok p → P (some (.sh (prD p)))) → P none → pat (f x) δ fun δ' => tst δ' fun k => if k = true then elt δ' fun r => (match r.fx with | some dv => P (some dv) | none => False) else P none)
    (h : ∀ ps : List Pr, (∀ p ∈ ps, ok p) → ps.length ≤ xs.length → Q ((ps.map prD).map DV.sh)) : lcRun pat tst elt δ (xs.map f) [] Q := by
  refine lcRun_rel f (fun _ o => (∃ p, ok p ∧ o = some (.sh (prD p))) ∨ o = none) xs [] (by simpa using hz) (fun x m P hP => st x m P (fun p hp => hP _ (.inl ⟨p, hp, rfl⟩)) (hP _ (.inr rfl))) fun os p => ?_
  obtain ⟨ps, e, hp, hl⟩ := rel_prs p
  simp only [List.nil_append]
  rw [e]
  exact h ps hp hl
theorem rangeD_sub (lo hi : Nat) : rangeD (lo : Int) (hi : Int) = (List.range (hi - lo)).map fun i : Nat => PyData.int ((lo + i : Nat) : Int) := by
  unfold rangeD
  have : ((hi : Int) - lo).toNat = hi - lo := by omega
  rw [this]
  refine List.map_congr_left fun i _ => ?_
  simp
theorem rangeD_any (hi : Int) : rangeD 0 hi = (List.range hi.toNat).map fun i : Nat => PyData.int i := by
  unfold rangeD
  simp
theorem mul25 : ∀ k, k ≤ 10 → ∀ j, j ≤ 10 → k + j ≤ 10 → k * j ≤ 25 := by decide
theorem rangeD_pred (n : Nat) (h : 1 ≤ n) : rangeD 0 ((n : Int) - 1) = (List.range (n - 1)).map fun i : Nat => PyData.int i := by
  have : (n : Int) - 1 = ((n - 1 : Nat) : Int) := by omega
  rw [this, rangeD_nat]
@[simp] theorem fMinT_2 (g : Int → List Int → Int) (a b : Int) {Q : R → Prop} : fMinT g (.val (.sh (.tuple [.int a, .int b]))) Q = Q (.val (.sh (.int (g a [b])))) := by
  unfold fMinT
  rw [R.rd_sh]
  rfl
def g__law_hill : Sg := pr (fun n : Nat => [.tok 0, .sh (.int n)]) (fun n => 1 ≤ n ∧ n ≤ 10) (fun n dv => ∃ ps, Hill n ps ∧ dv = .sh (bookD n ps))
def n__law_hill : List Str := ["deck", "n", "way", "pairs", "low", "a", "size", "wide", "part", "hill", "turn", "pair", "at", "b"]
def t__law_hill : DS := dSeq2 (dPar 2 3 (dCons (dCall g__law_draw (dCons (dVar 0) (dCons (dC (.int 9)) (dNil)))) (dCons (dLst (dNil)) (dNil)))) (dSeq2 (dIfS (dTest (dOp (fRel sLt rLtD) (dVar 2) (dC (.int 2)))) (dSeq2 (dSet 3 (dLc (dRange1 (dCall g__law_draw (dCons (dVar 0) (dCons (dOpR fMul (dC (.int 2)) (dVar 1)) (dNil))))) (gN 10) (dYes) (dTup (dCons (dCall g__law_draw (dCons (dVar 0) (dCons (dVar 1) (dNil)))) (dCons (dCall g__law_draw (dCons (dVar 0) (dCons (dVar 1) (dNil)))) (dNil)))) [10])) (dIfS (dTest (dOp (fRel sDep rEqv) (dVar 2) (dC (.int 1)))) (dSet 3 (dLc (dSeqQ (dVar 3)) (gN 11) (dYes) (dTup (dCons (dCB (on1 (fMinT fun n ns => ns.foldl min n)) (dCons (dVar 11) (dNil))) (dCons (dCB (on1 (fMinT fun n ns => ns.foldl max n)) (dCons (dVar 11) (dNil))) (dNil)))) [11])) (dNext))) (dIfS (dTest (dOp (fRel sDep rEqv) (dVar 2) (dC (.int 2)))) (dSet 3 (dLc (dRange1 (dOp fSub (dVar 1) (dC (.int 1)))) (gN 12) (dYes) (dTup (dCons (dVar 12) (dCons (dOpR fAdd (dVar 12) (dC (.int 1))) (dNil)))) [12])) (dIfS (dTest (dOp (fRel sDep rEqv) (dVar 2) (dC (.int 3)))) (dSet 3 (dLc (dRange1 (dOp fSub (dVar 1) (dC (.int 1)))) (gN 12) (dTest (dOp (fRel sLt fun d e => rLtD e d) (dCall g__law_draw (dCons (dVar 0) (dCons (dC (.int 4)) (dNil)))) (dC (.int 0)))) (dTup (dCons (dVar 12) (dCons (dOpR fAdd (dOpR fAdd (dVar 12) (dC (.int 1))) (dCall g__law_draw (dCons (dVar 0) (dCons (dOp fSub (dOp fSub (dVar 1) (dVar 12)) (dC (.int 1))) (dNil))))) (dNil)))) [12])) (dIfS (dTest (dOp (fRel sDep rEqv) (dVar 2) (dC (.int 4)))) (dSeq2 (dSet 4 (dOpR fAdd (dC (.int 1)) (dCall g__law_draw (dCons (dVar 0) (dCons (dVar 1) (dNil)))))) (dFor (dRange1 (dVar 4)) (gN 5) (dExtend 3 (dLc (dRange2 (dVar 4) (dVar 1)) (gN 13) (dTest (dOp (fRel sLt fun d e => rLtD e d) (dCall g__law_draw (dCons (dVar 0) (dCons (dC (.int 3)) (dNil)))) (dC (.int 0)))) (dTup (dCons (dVar 5) (dCons (dVar 13) (dNil)))) [13])))) (dIfS (dTest (dOp (fRel sDep rEqv) (dVar 2) (dC (.int 5)))) (dSeq2 (dSet 6 (dOpR fAdd (dC (.int 1)) (dCall g__law_draw (dCons (dVar 0) (dCons (dC (.int 3)) (dNil)))))) (dSeq2 (dSet 3 (dLc (dRange2 (dC (.int 1)) (dVar 1)) (gN 12) (dTest (dOp (fRel sLt fun d e => rLtD e d) (dOp fMod (dCB (on1 fInt) (dCons (dVar 12) (dNil))) (dOpR fAdd (dVar 6) (dC (.int 1)))) (dC (.int 0)))) (dTup (dCons (dVar 12) (dCons (dOp fSub (dVar 12) (dC (.int 1))) (dNil)))) [12])) (dExtend 3 (dLc (dRange2 (dC (.int 1)) (dVar 1)) (gN 12) (dTest (dOp (fRel sLt fun d e => rLtD e d) (dCall g__law_draw (dCons (dVar 0) (dCons (dC (.int 3)) (dNil)))) (dC (.int 0)))) (dTup (dCons (dOp fSub (dVar 12) (dC (.int 1))) (dCons (dVar 12) (dNil)))) [12])))) (dIfS (dTest (dOp (fRel sDep rEqv) (dVar 2) (dC (.int 6)))) (dSeq2 (dSet 7 (dOpR fAdd (dC (.int 2)) (dCall g__law_draw (dCons (dVar 0) (dCons (dC (.int 2)) (dNil)))))) (dSet 3 (dOpR fAdd (dLc (dRange1 (dOp fSub (dVar 1) (dC (.int 1)))) (gN 12) (dTest (dOp (fRel sLt fun d e => rLtD e d) (dOp fMod (dCB (on1 fInt) (dCons (dOpR fAdd (dVar 12) (dC (.int 1))) (dNil))) (dVar 7)) (dC (.int 0)))) (dTup (dCons (dVar 12) (dCons (dOpR fAdd (dVar 12) (dC (.int 1))) (dNil)))) [12]) (dLc (dRange1 (dOp fSub (dVar 1) (dVar 7))) (gN 12) (dYes) (dTup (dCons (dVar 12) (dCons (dOpR fAdd (dVar 12) (dVar 7)) (dNil)))) [12])))) (dIfS (dTest (dOp (fRel sDep rEqv) (dVar 2) (dC (.int 7)))) (dSeq2 (dSet 8 (dCall g__law_draw (dCons (dVar 0) (dCons (dOpR fAdd (dVar 1) (dC (.int 1))) (dNil))))) (dSet 3 (dLc (dRange1 (dOp fSub (dVar 1) (dC (.int 1)))) (gN 12) (dTest (dOp (fRel sDep fun d e => !rEqv d e) (dOpR fAdd (dVar 12) (dC (.int 1))) (dVar 8))) (dTup (dCons (dVar 12) (dCons (dOpR fAdd (dVar 12) (dC (.int 1))) (dNil)))) [12]))) (dNext)))))))) (dSeq2 (dSet 9 (dCall g__law_closed (dCons (dVar 1) (dCons (dLc (dSeqQ (dVar 3)) (gN 11) (dTest (dOp (fRel sDep fun d e => !rEqv d e) (dOpR fIx (dVar 11) (dC (.int 0))) (dOpR fIx (dVar 11) (dC (.int 1))))) (dVar 11) [11]) (dNil))))) (dRet (dIf (dTest (dOp (fRel sDep rEqv) (dCall g__law_draw (dCons (dVar 0) (dCons (dC (.int 3)) (dNil)))) (dC (.int 0)))) (dVar 9) (dCall g__law_led (dCons (dVar 9) (dCons (dCall g__law_order (dCons (dVar 0) (dCons (dVar 1) (dNil)))) (dNil))))))))
def rest_hill : DS := dSeq2 (dSet 9 (dCall g__law_closed (dCons (dVar 1) (dCons (dLc (dSeqQ (dVar 3)) (gN 11) (dTest (dOp (fRel sDep fun d e => !rEqv d e) (dOpR fIx (dVar 11) (dC (.int 0))) (dOpR fIx (dVar 11) (dC (.int 1))))) (dVar 11) [11]) (dNil))))) (dRet (dIf (dTest (dOp (fRel sDep rEqv) (dCall g__law_draw (dCons (dVar 0) (dCons (dC (.int 3)) (dNil)))) (dC (.int 0)))) (dVar 9) (dCall g__law_led (dCons (dVar 9) (dCons (dCall g__law_order (dCons (dVar 0) (dCons (dVar 1) (dNil)))) (dNil))))))
theorem led_hill_ok {n : Nat} {ps : List Pr} {xs : List Nat} (h : Hill n ps) (r : Ren n xs) : Hill n (led n ps xs) := by
  refine ⟨good_prs h.good.lo h.good.hi, fun a b c h1 h2 ne => ?_⟩
  unfold led at h1 h2 ⊢
  obtain ⟨x1, x2, x3, x4⟩ := mem_prs.mp h1
  obtain ⟨y1, y2, y3, y4⟩ := mem_prs.mp h2
  obtain ⟨p, hp, p1, p2⟩ := ledR_iff.mp x4
  obtain ⟨q, hq, q1, q2⟩ := ledR_iff.mp y4
  refine mem_prs.mpr ⟨x1, y2, ne, ledR_iff.mpr ⟨(p.1, q.2), ?_, p1, q2⟩⟩
  have e : p.2 = q.1 := r.inj p2 q1
  refine h.tr p.1 p.2 q.2 hp (by rw [e]; exact hq) fun e => ne ?_
  have : some a = some c := by rw [← p1, ← q2, e]
  exact Option.some.inj this
theorem p_rest_hill {n : Nat} (h1 : 1 ≤ n) (h2 : n ≤ 10) {Q : DV → Prop} {N : DE → Prop} (q : ∀ ps, Hill n ps → Q (.sh (bookD n ps))) (ps : List Pr) (hp : ∀ p ∈ ps, p.1 < n ∧ p.2 < n) (hl : ps.length < 60) (x2 x4 x5 x6 x7 x8 x9 : Option DV) :
    rest_hill { nx := N, rt := Q } [some (.tok 0), some (.sh (.int (n : Nat))), x2, some (ownL (ps.map prD)), x4, x5, x6, x7, x8, x9, none, none, none, none] := by
  have hs : (1000 : Nat) ≤ sizeLine := by decide
  simp [rest_hill, sup_br, noLsts_prs, -List.map_map]
  intro _
  refine lcRun_fn prD (fun p : Pr => if decide (p.1 ≠ p.2) = true then some (DV.sh (prD p)) else none) ps [] (by simp; omega) (fun p m P hP => ?_) ?_
  · simp [prD]
    by_cases e : p.1 = p.2
    · have e' : ((p.1 : Int) = p.2) := by omega
      simp [e] at hP ⊢
      exact hP
    · have e' : ¬ ((p.1 : Int) = p.2) := by omega
      simp [e] at hP
      simp [e']
      simpa [prD] using hP
  · simp only [List.nil_append]
    rw [filterMap_if (fun p : Pr => decide (p.1 ≠ p.2)) (fun p => DV.sh (prD p)), own_prs]
    simp [-List.map_map]
    refine pr_call (n, ps.filter fun p => decide (p.1 ≠ p.2)) (by simp) ⟨h2, fun p m => hp p (List.mem_filter.mp m).1, ?_⟩ ?_
    · have := List.length_filter_le (fun p : Pr => decide (p.1 ≠ p.2)) ps
      simp at this ⊢
      omega
    · rintro dv rfl
      have H : Hill n (clo n (ps.filter fun p => decide (p.1 ≠ p.2))) := hill_clo h1 h2
      generalize clo n (ps.filter fun p => decide (p.1 ≠ p.2)) = hs at H
      simp
      refine draw_call rfl (by omega) fun r _ _ => ?_
      simp
      split
      · exact q _ H
      · refine pr_call n rfl h2 ?_
        rintro dv ⟨xs, rfl, r⟩
        simp [-List.map_map]
        refine pr_call (n, hs, xs) rfl ⟨H.good, r⟩ ?_
        rintro dv rfl
        exact q _ (led_hill_ok H r)
theorem p__law_hill (ds : List DV) (Q : DV → Prop) (h : g__law_hill ds Q) : t__law_hill { nx := fun _ => Q (.sh .none), rt := Q } (startD n__law_hill ds) := by
  obtain ⟨n, rfl, ⟨h1, h2⟩, q⟩ := h
  have hs : (1000 : Nat) ≤ sizeLine := by decide
  have rest := p_rest_hill (N := fun _ => Q (.sh .none)) h1 h2 fun ps H => q _ ⟨ps, H, rfl⟩
  have e : t__law_hill = dSeq2 _ (dSeq2 _ rest_hill) := rfl
  rw [e]
  generalize rest_hill = RH at rest ⊢
  clear e
  simp [startD, n__law_hill]
  refine draw_nat (many := 9) rfl (by omega) fun w hw => ?_
  simp
  have okw : ∀ many : Nat, 0 < many → many ≤ 100 → (0 < many ∧ many < 1073741824) := fun many a b => ⟨a, by omega⟩
  split
  · refine ⟨.inl ⟨by decide, by decide⟩, draw_nat (many := 2 * n) (by simp) (okw _ (by omega) (by omega)) fun k hk => ?_⟩
    simp
    refine ⟨small_n (by omega), ?_⟩
    rw [rangeD_nat]
    refine lcP (ok := fun p => p.1 < n ∧ p.2 < n) (fun i : Nat => PyData.int i) _ (by simp; omega) (fun x m P hP hN => ?_) fun ps hp hl => ?_
    · simp
      refine draw_nat (many := n) rfl (okw _ (by omega) (by omega)) fun a ha => ?_
      simp
      refine draw_nat (many := n) rfl (okw _ (by omega) (by omega)) fun b hb => ?_
      simp
      exact hP (a, b) ⟨ha, hb⟩
    · simp at hl
      split
      · rw [onV_own]
        simp [sup_br, noLsts_prs, -List.map_map]
        intro _
        refine lcP (ok := fun p => p.1 < n ∧ p.2 < n) prD ps (by omega) (fun p m P hP hN => ?_) fun qs hq hl' => ?_
        · simp [prD]
          have := hP (min p.1 p.2, max p.1 p.2) (by have := hp p m; simp; omega)
          have e1 : min (p.1 : Int) p.2 = ((min p.1 p.2 : Nat) : Int) := by omega
          have e2 : max (p.1 : Int) p.2 = ((max p.1 p.2 : Nat) : Int) := by omega
          rw [e1, e2]
          exact this
        · exact rest qs hq (by omega) _ _ _ _ _ _ _
      · exact rest ps hp (by omega) _ _ _ _ _ _ _
  split
  · refine ⟨by unfold small; omega, ?_⟩
    rw [rangeD_pred n h1]
    refine lcP (ok := fun p => p.1 < n ∧ p.2 < n) (fun i : Nat => PyData.int i) _ (by simp; omega) (fun x m P hP hN => ?_) fun ps hp hl => ?_
    · simp at m
      simp
      exact hP (x, x + 1) (by simp; omega)
    · simp at hl
      exact rest ps hp (by omega) _ _ _ _ _ _ _
  split
  · refine ⟨by unfold small; omega, ?_⟩
    rw [rangeD_pred n h1]
    refine lcP (ok := fun p => p.1 < n ∧ p.2 < n) (fun i : Nat => PyData.int i) _ (by simp; omega) (fun x m P hP hN => ?_) fun ps hp hl => ?_
    · simp at m
      simp
      refine draw_nat (many := 4) rfl (by omega) fun r hr => ?_
      simp
      split
      · refine draw_nat (many := n - x - 1) (by simp; omega) (okw _ (by omega) (by omega)) fun b hb => ?_
        simp
        have := hP (x, x + 1 + b) (by simp; omega)
        simpa [prD] using this
      · exact hN
    · simp at hl
      exact rest ps hp (by omega) _ _ _ _ _ _ _
  split
  · refine draw_nat (many := n) rfl (okw _ (by omega) (by omega)) fun lo hlo => ?_
    simp
    refine ⟨by unfold small; omega, ?_⟩
    have e1 : (1 : Int) + lo = ((1 + lo : Nat) : Int) := by omega
    rw [e1, rangeD_nat]
    have m25 := mul25 (1 + lo) (by omega) (n - (1 + lo)) (by omega) (by omega)
    refine forRun_nat (1 + lo) (fun i δ => ∃ (ps : List Pr) (x5 : Option DV), δ = [some (.tok 0), some (.sh (.int (n : Nat))), some (.sh (.int (w : Nat))), some (ownL (ps.map prD)), some (.sh (.int ((1 + lo : Nat) : Int))), x5, none, none, none, none, none, none, none, none] ∧ (∀ p ∈ ps, p.1 < n ∧ p.2 < n) ∧ ps.length ≤ i * (n - (1 + lo))) (fun a δ ha hI N hN => ?_) (fun δ hI => ?_) ⟨[], none, rfl, by simp, by simp⟩
    · obtain ⟨ps, x5, rfl, hp, hl⟩ := hI
      have hb : a * (n - (1 + lo)) + (n - (1 + lo)) ≤ (1 + lo) * (n - (1 + lo)) := by
        have := Nat.mul_le_mul_right (n - (1 + lo)) (show a + 1 ≤ 1 + lo from ha)
        rw [Nat.add_mul, Nat.one_mul] at this
        exact this
      simp [-List.map_map, -Int.natCast_add]
      refine ⟨by unfold small; omega, small_n (by omega), ?_⟩
      rw [rangeD_sub]
      refine lcP (ok := fun p => p.1 < n ∧ p.2 < n) (fun i : Nat => PyData.int ((1 + lo + i : Nat) : Int)) _ (by simp; omega) (fun x m P hP hN' => ?_) fun qs hq hl' => ?_
      · simp at m
        simp [-Int.natCast_add]
        refine draw_nat (many := 3) rfl (by omega) fun r hr => ?_
        simp [-Int.natCast_add]
        split
        · exact hP (a, 1 + lo + x) (by simp; omega)
        · exact hN'
      · simp at hl'
        simp [-List.map_map, -Int.natCast_add]
        refine ⟨by omega, ?_⟩
        rw [app_owns, ← List.map_append]
        refine hN _ ⟨ps ++ qs, some (.sh (.int (a : Nat))), rfl, fun p m => ?_, ?_⟩
        · rcases List.mem_append.mp m with m | m
          · exact hp p m
          · exact hq p m
        · rw [List.length_append, Nat.add_mul, Nat.one_mul]
          omega
    · obtain ⟨ps, x5, rfl, hp, hl⟩ := hI
      exact rest ps hp (by omega) _ _ _ _ _ _ _
  split
  · refine draw_nat (many := 3) rfl (by omega) fun sz hsz => ?_
    simp
    refine ⟨by unfold small; omega, small_n (by omega), ?_⟩
    have er : rangeD 1 (n : Int) = (List.range (n - 1)).map fun i : Nat => PyData.int ((1 + i : Nat) : Int) := rangeD_sub 1 n
    rw [er]
    refine lcP (ok := fun p => p.1 < n ∧ p.2 < n) (fun i : Nat => PyData.int ((1 + i : Nat) : Int)) _ (by simp; omega) (fun x m P hP hN => ?_) fun ps hp hl => ?_
    · simp at m
      have e : ((1 + x : Nat) : Int) - 1 = (x : Int) := by omega
      simp [-Int.natCast_add, e]
      refine ⟨by omega, ?_⟩
      split
      · exact hP (1 + x, x) (by simp; omega)
      · exact hN
    · simp at hl
      refine ⟨by unfold small; omega, small_n (by omega), ?_⟩
      refine lcP (ok := fun p => p.1 < n ∧ p.2 < n) (fun i : Nat => PyData.int ((1 + i : Nat) : Int)) _ (by simp; omega) (fun x m P hP hN => ?_) fun qs hq hl' => ?_
      · simp at m
        have e : ((1 + x : Nat) : Int) - 1 = (x : Int) := by omega
        simp [-Int.natCast_add]
        refine draw_nat (many := 3) rfl (by omega) fun r hr => ?_
        simp [-Int.natCast_add, e]
        split
        · exact hP (x, 1 + x) (by simp; omega)
        · exact hN
      · simp at hl'
        refine ⟨by simp; omega, ?_⟩
        rw [app_owns, ← List.map_append]
        refine rest (ps ++ qs) (fun p m => ?_) (by rw [List.length_append]; omega) _ _ _ _ _ _ _
        rcases List.mem_append.mp m with m | m
        · exact hp p m
        · exact hq p m
  split
  · refine draw_nat (many := 2) rfl (by omega) fun wd hwd => ?_
    simp
    refine ⟨by unfold small; omega, ?_⟩
    rw [rangeD_pred n h1]
    refine lcP (ok := fun p => p.1 < n ∧ p.2 < n) (fun i : Nat => PyData.int i) _ (by simp; omega) (fun x m P hP hN => ?_) fun ps hp hl => ?_
    · simp at m
      simp
      refine ⟨by omega, ?_⟩
      split
      · exact hP (x, x + 1) (by simp; omega)
      · exact hN
    · simp at hl
      refine ⟨by unfold small; omega, ?_⟩
      rw [rangeD_any]
      refine lcP (ok := fun p => p.1 < n ∧ p.2 < n) (fun i : Nat => PyData.int i) _ (by simp; omega) (fun x m P hP hN => ?_) fun qs hq hl' => ?_
      · simp at m
        simp
        have := hP (x, x + (2 + wd)) (by simp; omega)
        simpa [prD] using this
      · simp at hl'
        rw [fAdd_owns]
        refine ⟨by simp; omega, ?_⟩
        simp only [R.fx_val]
        rw [← List.map_append]
        refine rest (ps ++ qs) (fun p m => ?_) (by rw [List.length_append]; omega) _ _ _ _ _ _ _
        rcases List.mem_append.mp m with m | m
        · exact hp p m
        · exact hq p m
  split
  · refine draw_nat (many := n + 1) (by simp) (okw _ (by omega) (by omega)) fun wd hwd => ?_
    refine ⟨by unfold small; omega, ?_⟩
    rw [rangeD_pred n h1]
    refine lcP (ok := fun p => p.1 < n ∧ p.2 < n) (fun i : Nat => PyData.int i) _ (by simp; omega) (fun x m P hP hN => ?_) fun ps hp hl => ?_
    · simp at m
      simp
      split
      · exact hN
      · exact hP (x, x + 1) (by simp; omega)
    · simp at hl
      exact rest ps hp (by omega) _ _ _ _ _ _ _
  · exact rest [] (by simp) (by simp) _ _ _ _ _ _ _
end HL
set_option Elab.async false
set_option linter.all false
set_option maxRecDepth 100000
set_option maxHeartbeats 1000000
set_option Elab.async false
set_option linter.all false
set_option maxRecDepth 100000
set_option maxHeartbeats 1000000
namespace HL
open PySem PySem.Spec L2 DL
open PyProof.Rows hiding St
/-! ### what can be shown -/
structure Sh (w k : Nat) (d : D) : Prop where
  ok : d.showable = true
  sh : d.leavesShort 16 = true
  wt : d.weight ≤ w
  dp : d.depth ≤ k
theorem Sh.show {w k : Nat} {d : D} (h : Sh w k d) (hw : w ≤ 900000 := by decide) (hk : k ≤ 60 := by decide) : sShow d := by
  refine ⟨h.ok, by have := h.dp; omega, ?_⟩
  have h1 := PyData.shown_le 16 (by decide) d h.sh
  have h2 := h.wt
  have e : sizeLine = 16777216 := by decide
  omega
theorem Sh.mono {w k w' k' : Nat} {d : D} (h : Sh w k d) (hw : w ≤ w') (hk : k ≤ k') : Sh w' k' d := ⟨h.ok, h.sh, Nat.le_trans h.wt hw, Nat.le_trans h.dp hk⟩
theorem sh_int (i : Nat) (h : i < 1024) : Sh 10 0 (.int i) := by
  have hb : ((i : Int).natAbs.log2 + 1) ≤ 10 := by
    rw [Int.natAbs_natCast]
    by_cases z : i = 0
    · subst z; decide
    · have := (Nat.log2_lt z).mpr (show i < 2 ^ 10 from h)
      omega
  refine ⟨?_, ?_, ?_, ?_⟩
  · rw [PyData.showable, decide_eq_true_iff]; omega
  · rw [PyData.leavesShort, decide_eq_true_iff]
    have := PyData.shown_int_le (i := (i : Int)) (by rw [Int.natAbs_natCast]; omega)
    omega
  · rw [PyData.weight]
    split <;> omega
  · rw [depth_int]; omega
theorem sh_all {w k : Nat} : ∀ {ds : List D}, (∀ d ∈ ds, Sh w k d) → PyData.showableAll ds = true ∧ PyData.leavesShortAll 16 ds = true ∧ PyData.weightAll ds ≤ ds.length * (w + 1)
  | [], _ => ⟨rfl, rfl, by rw [PyData.weightAll]; omega⟩
  | d :: ds, h => by
    have h1 := h d List.mem_cons_self
    obtain ⟨a, b, c⟩ := sh_all fun x m => h x (List.mem_cons_of_mem d m)
    refine ⟨by rw [PyData.showableAll, h1.ok, a]; rfl, by rw [PyData.leavesShortAll, h1.sh, b]; rfl, ?_⟩
    rw [PyData.weightAll, List.length_cons, Nat.add_mul]
    have := h1.wt
    omega
theorem sh_tup {w k n : Nat} {ds : List D} (h : ∀ d ∈ ds, Sh w k d) (hn : ds.length ≤ n) : Sh (n * (w + 1)) (k + 1) (.tuple ds) := by
  obtain ⟨a, b, c⟩ := sh_all h
  refine ⟨by rw [PyData.showable]; exact a, by rw [PyData.leavesShort]; exact b, ?_, depth_tup fun d m => (h d m).dp⟩
  rw [PyData.weight]
  exact Nat.le_trans c (Nat.mul_le_mul_right _ hn)
theorem sh_list {w k n : Nat} {ds : List D} (h : ∀ d ∈ ds, Sh w k d) (hn : ds.length ≤ n) : Sh (n * (w + 1)) (k + 1) (.list ds) := by
  obtain ⟨a, b, c⟩ := sh_all h
  refine ⟨by rw [PyData.showable]; exact a, by rw [PyData.leavesShort]; exact b, ?_, ?_⟩
  · rw [PyData.weight]
    exact Nat.le_trans c (Nat.mul_le_mul_right _ hn)
  · rw [PyData.depth]
    have := depthAll_le fun d m => (h d m).dp
    omega
theorem sh_pr (p : Pr) (h : p.1 < 1024 ∧ p.2 < 1024) : Sh 22 1 (prD p) := sh_tup (n := 2) (ds := [.int p.1, .int p.2]) (by
  intro d m
  simp at m
  rcases m with rfl | rfl
  · exact sh_int _ h.1
  · exact sh_int _ h.2) (by simp)
theorem sh_book {n : Nat} {ps : List Pr} (hn : n < 1024) (hp : ∀ p ∈ ps, p.1 < 1024 ∧ p.2 < 1024) (hl : ps.length ≤ 1000) : Sh 46002 3 (bookD n ps) := sh_tup (n := 2) (w := 23000) (k := 2) (ds := [.int n, .tuple (ps.map prD)]) (by
  intro d m
  simp at m
  rcases m with rfl | rfl
  · exact (sh_int _ hn).mono (by omega) (by omega)
  · exact sh_tup (n := 1000) (w := 22) (k := 1) (fun d m => by
      obtain ⟨p, q, rfl⟩ := List.mem_map.mp m
      exact sh_pr p (hp p q)) (by simpa using hl)) (by simp)
theorem Good.sh {n : Nat} {ps : List Pr} (G : Good n ps) : Sh 46002 3 (bookD n ps) := sh_book (by have := G.hi; omega) (fun p m => by
  have := G.ok p m
  have := G.hi
  omega) (by have := book_len G; omega)
theorem sh_lot {n : Nat} {xs : List Nat} (h : ∀ x ∈ xs, x < 1024) (hl : xs.length ≤ n) : Sh (n * 11) 1 (lotD xs) := sh_tup (w := 10) (k := 0) (fun d m => by
  obtain ⟨p, q, rfl⟩ := List.mem_map.mp m
  exact sh_int p (h p q)) (by simpa using hl)
/-! ### mirrors and led hills -/
end HL
set_option Elab.async false
set_option linter.all false
set_option maxRecDepth 100000
set_option maxHeartbeats 1000000
namespace HL
open PySem PySem.Spec L2 DL
open PyProof.Rows hiding St
/-! ### one hill alone -/
@[simp] theorem fIx_book0 {n : Nat} {ps : List Pr} {Q : R → Prop} : fIx (.val (.sh (bookD n ps))) (.val (.sh (.int 0))) Q = Q (.val (.sh (.int (n : Nat)))) := by unfold bookD; simp
@[simp] theorem fIx_book1 {n : Nat} {ps : List Pr} {Q : R → Prop} : fIx (.val (.sh (bookD n ps))) (.val (.sh (.int 1))) Q = Q (.val (.sh (.tuple (ps.map prD)))) := by unfold bookD; simp
theorem sh_2 {w k : Nat} {a b : D} (ha : Sh w k a) (hb : Sh w k b) : Sh (2 * (w + 1)) (k + 1) (.tuple [a, b]) := sh_tup (by simp; exact ⟨ha, hb⟩) (by simp)
end HL
set_option Elab.async false
set_option linter.all false
set_option maxRecDepth 100000
set_option maxHeartbeats 1000000
set_option Elab.async false
set_option linter.all false
set_option maxRecDepth 100000
set_option maxHeartbeats 1000000
set_option Elab.async false
set_option linter.all false
set_option maxRecDepth 100000
set_option maxHeartbeats 1000000
namespace HL
open PySem PySem.Spec L2 DL
open PyProof.Rows hiding St
/-! ### products: plain laws -/
theorem Hill.le_trans {n : Nat} {ps : List Pr} (h : Hill n ps) {a b c : Nat} (h1 : le ps a b = true) (h2 : le ps b c = true) : le ps a c = true := by
  rw [le_iff] at h1 h2 ⊢
  rcases h1 with rfl | h1
  · exact h2
  · rcases h2 with rfl | h2
    · exact .inr h1
    · by_cases e : a = c
      · exact .inl e
      · exact .inr (h.tr a b c h1 h2 e)
theorem le_self (ps : List Pr) (a : Nat) : le ps a a = true := le_iff.mpr (.inl rfl)
/-! ponds of a product -/
theorem mem_pond {n : Nat} {ps : List Pr} {x y : Nat} : y ∈ pondL n ps x ↔ y < n ∧ le ps y x = true ∧ le ps x y = true := by
  unfold pondL
  rw [List.mem_filter, List.mem_range, Bool.and_eq_true]
theorem pond_st (n : Nat) (ps : List Pr) (x : Nat) : (pondL n ps x).Pairwise (· < ·) := (range_sorted n).filter _
end HL
set_option Elab.async false
set_option linter.all false
set_option maxRecDepth 100000
set_option maxHeartbeats 1000000
namespace HL
open PySem PySem.Spec L2 DL
open PyProof.Rows hiding St
/-! ### products: the rows of ponds -/
theorem pond_self {n : Nat} {ps : List Pr} {x : Nat} (hx : x < n) : x ∈ pondL n ps x := mem_pond.mpr ⟨hx, le_self _ _, le_self _ _⟩
theorem IsPonds.of {n : Nat} {ps : List Pr} {L : List (List Nat)} (h : IsPonds n ps L) {l : List Nat} (m : l ∈ L) : l ≠ [] ∧ l.Pairwise (· < ·) ∧ (∀ x ∈ l, x < n) ∧ l.length ≤ n := by
  obtain ⟨x, hx, rfl⟩ := (h.2 l).mp m
  have L : Lot n (pondL n ps x) := ⟨pond_st _ _ _, fun y hy => (mem_pond.mp hy).1⟩
  refine ⟨fun e => ?_, L.st, L.ok, L.len⟩
  have := pond_self (ps := ps) hx
  rw [e] at this
  cases this
/-! ### products: the check -/
end HL
set_option Elab.async false
set_option linter.all false
set_option maxRecDepth 100000
set_option maxHeartbeats 2000000
namespace DL
open PySem PySem.Spec L2
open PyProof.Rows hiding St
/-! ### enumerate and zip over lists and tuples alike: the flag t tells a tuple -/
def SqB (K : PySem.W.Frag) (H : Hp) (t : Bool) (a : Addr) (xs : List V) : Prop := match t with
  | true => SqT K H a xs
  | false => SqL K H a xs
def itB (h : Heap) (t : Bool) (it a : Addr) (i : Nat) : Prop := match t with
  | true => h.IsTupleIter it a i
  | false => h.IsListIter it a i
def isB (h : Heap) (t : Bool) (a : Addr) (its : Array Value) : Prop := match t with
  | true => h.IsTuple a its
  | false => h.IsList a its
theorem drawsB {prog : Program} {w : World} {A : Around} (hh : A.handled = none) (t : Bool) (it l : Addr) (hne : l ≠ it) (its : Array Value) : Draws prog w A it [it, l] its.size (fun i v => its[i]? = some v) (fun i h => itB h t it l i ∧ isB h t l its) := by
  cases t
  · exact Draws.list hh it l hne its
  · exact Draws.tuple hh it l hne its
theorem itB_at {h h' : Heap} {t : Bool} {it a : Addr} {i : Nat} (x : itB h t it a i) (k : ∀ o, h.get? it = some o → h'.get? it = some o) : itB h' t it a i := by
  cases t
  · exact Heap.IsListIter.at x k
  · exact Heap.IsTupleIter.at x k
theorem itB_ob {h : Heap} {t : Bool} {it a : Addr} {i : Nat} (x : itB h t it a i) : ∃ o, h.get? it = some o ∧ ∀ v, o.data ≠ .cell v := by
  cases t
  · obtain ⟨o, e, _, d⟩ := x
    exact ⟨o, e, fun v q => by rw [d] at q; cases q⟩
  · obtain ⟨o, e, _, d⟩ := x
    exact ⟨o, e, fun v q => by rw [d] at q; cases q⟩
theorem isB_lt {h : Heap} {t : Bool} {a : Addr} {its : Array Value} (x : isB h t a its) : a < h.objs.size := by
  cases t
  · obtain ⟨o, e, _⟩ := x
    exact Heap.lt_size e
  · obtain ⟨o, e, _⟩ := x
    exact Heap.lt_size e
theorem _root_.L2.Inv.sqB {X : Cx} {pins : List (Addr × Obj)} {σ : L2.St} {H : Hp} {s : Shared} {t : Bool} {a : Addr} {xs : List V} (I : Inv X pins σ H s) (h : SqB X.K H t a xs) : ∃ its : List Value, Vals xs its ∧ isB s.heap t a its.toArray := by
  cases t
  · obtain ⟨its, rv, p, _⟩ := I.list h
    exact ⟨its, rv, p.isList⟩
  · obtain ⟨its, rv, p, _⟩ := I.tuple h
    exact ⟨its, rv, p⟩
theorem _root_.L2.Inv.sqB_inj {X : Cx} {pins : List (Addr × Obj)} {σ : L2.St} {H : Hp} {s : Shared} {t : Bool} {a : Addr} {xs ys : List V} (I : Inv X pins σ H s) (h : SqB X.K H t a xs) (h' : SqB X.K H t a ys) : xs = ys := by
  cases t
  · exact I.list_inj h h'
  · exact I.tuple_inj h h'
/-- each item behind its number -/
def IteB (K : PySem.W.Frag) (t : Bool) (a : Addr) : It :=
  ⟨fun i H => ∃ (xs : List V) (x : V), SqB K H t a xs ∧ xs[i]? = some x,
   fun i H v H' => ∃ T x, v = .ref T ∧ H T = none ∧ H' = upd H T (.tup [.int (i : Nat), x]) ∧ ∀ xs, SqB K H t a xs → xs[i]? = some x,
   fun i H => ∃ xs : List V, SqB K H t a xs ∧ xs.length = i⟩
theorem turn_enumB {P : Program} {w : World} {K : PySem.W.Frag} {elts : List Expr} {kk : Nat} {tpos : Pos} (t : Bool) (a e it : Addr) (ha : a ≠ e) (hai : a ≠ it) :
    Turn P w K (.Tuple elts kk tpos) (IteB K t a) [e, it] e (fun i h => (∃ old, IsEnum h e it ((i : Nat) : Int) old) ∧ itB h t it a i ∧ e ≠ it) where
  mem := by simp
  obj := fun i h st b hb => by
    obtain ⟨⟨old, he⟩, h1, _⟩ := st
    rcases (by simpa using hb : b = e ∨ b = it) with rfl | rfl
    · exact ⟨_, he, fun v q => nomatch q⟩
    · exact itB_ob h1
  keep := fun i h h' st k => by
    obtain ⟨⟨old, he⟩, h1, h2⟩ := st
    exact ⟨⟨old, k e (by simp) _ he⟩, itB_at h1 (fun o q => k it (by simp) o q), h2⟩
  item := by
    rintro X rfl rfl rfl hc i pins s σ H E I hf ⟨⟨old, he⟩, hit, hne⟩ ⟨xs, x, hq, hx⟩
    obtain ⟨its, rv, p⟩ := I.sqB hq
    obtain ⟨u, hu, ru⟩ := rv.get hx
    have lt : i < its.toArray.size := by simpa using (List.getElem?_eq_some_iff.mp hu).1
    have sE : e < s.heap.objs.size := Heap.lt_size he
    have sI : it < s.heap.objs.size := by
      obtain ⟨o, z, _⟩ := itB_ob hit
      exact Heap.lt_size z
    have D := drawsB (prog := X.prog) (w := X.w) (A := X.A.in1) (by simp [I.ok.hd hc]) t it a hai its.toArray
    refine wpAny_pyNext_enum_itemD D he ⟨hit, p⟩ lt hne (by simp [hne, Ne.symm ha]) fun y h' tk py out st' hT hsz hk => ?_
    have ey : y = u := by simpa [hu] using py.symm
    subst ey
    refine ⟨_, rfl, wpAny_letOwnedTupleGo_enum (s := { s with heap := h', toks := tk + 1 }) out fun h2 he2 sb => ?_⟩
    have T2 : h2.get? s.heap.objs.size = some { cls := .type "tuple", data := .seq #[.int i tk, y] } := (sb.2 _ (Nat.ne_of_gt sE)).trans hT
    have I1 : Inv X pins σ (upd H s.heap.objs.size (.tup [.int (i : Nat), x])) { s with heap := h2, toks := tk + 1 } :=
      I.turnedNew (ch := [e, it]) (fun b ob hb q => (sb.2 b (by simp at hb; exact hb.1)).trans (hk b ob (by simp at hb; exact hb.1) (by simp at hb; exact hb.2) q)) hf (Nat.le_refl _) ⟨(by decide : 2 ≤ sizeLine), [.int i tk, y], .cons ⟨_, rfl⟩ (.cons ru .nil), _, T2, rfl, _, rfl⟩
    refine ⟨.ref s.heap.objs.size, _, I1, rfl, ⟨_, x, rfl, I.hok.fresh (Nat.le_refl _), rfl, fun zs hz => by rw [I.sqB_inj hz hq]; exact hx⟩, ⟨⟨y, by simpa using he2⟩, itB_at st'.1 (fun o q => (sb.2 it (Ne.symm hne)).trans q), hne⟩, fun b hb => ?_⟩
    have : b < s.heap.objs.size := by
      rcases (by simpa using hb : b = e ∨ b = it) with rfl | rfl
      · exact sE
      · exact sI
    rw [upd_ne (Nat.ne_of_lt this)]
    exact (hf b hb).1
  done := by
    rintro X rfl rfl rfl hc i pins s σ H E I hf ⟨⟨old, he⟩, hit, hne⟩ ⟨xs, hq, hx⟩
    obtain ⟨its, rv, p⟩ := I.sqB hq
    obtain ⟨f0, f1, f2, f3, f4, f5⟩ := hf it (by simp)
    have D := drawsB (prog := X.prog) (w := X.w) (A := X.A.in1) (by simp [I.ok.hd hc]) t it a hai its.toArray
    have ei : its.toArray.size = i := by simp [← hx, rv.length]
    refine wpAny_pyNext_enum_endD D he (by rw [ei]; exact ⟨hit, p⟩) fun h' eb => ⟨rfl, I.turned (t' := s.toks) (fun b o hb q => eb b o hb q) f0 f1 f3 f4 f5⟩
  self := fun A i s Q E st h => by
    obtain ⟨⟨old, he⟩, _⟩ := st
    exact wpAny_pyIter_enum he h
/-! ### enumerate(tuple): its making -/
theorem enumT_new (l : Addr) (items : Array Value) (n : Nat) (dct : Option Addr) (sl : Array (Option Value)) : Meets (Builtin.«enumerate.__new__» ⟨[.type "enumerate", .ref l], []⟩) (fun _ R s => s.heap.get? l = some { cls := .type "tuple", dict := dct, data := .seq items n, slots := sl } ∧ R (.ok (.ret (.ref (s.heap.push { cls := .type "tuple_iterator", data := .fields #[.ref l, .int 0 0] }).objs.size))) { s with heap := (s.heap.push { cls := .type "tuple_iterator", data := .fields #[.ref l, .int 0 0] }).push { cls := .type "enumerate", data := .fields #[.none, .bool false, .ref s.heap.objs.size, rawInt 0, .none, .none] } }) :=
  .of_wp fun prog w A R s h => by
    obtain ⟨hp, g, d, tk, os⟩ := s; obtain ⟨ho, h⟩ := h; have sub0 := sub_enumerate
    have tup : Heap.IsTuple (Shared.heap ⟨hp, g, d, tk, os⟩) l items := ⟨_, ho, rfl, n, rfl⟩
    wp_walk using AutoSeq1.wpAny_loadPart' ho
    refine wpAny_stack_any fun st => wpAny_pure ?_
    split
    · rename_i c _ _ _ _ _
      cases (c == Value.type "enumerate")
      · wp_walk using AutoSeq1.wpAny_loadPart' ho, wpAny_pyIter_tuple tup
        exact ⟨_, rfl, h⟩
      · wp_walk using AutoSeq1.wpAny_loadPart' ho, wpAny_pyIter_tuple tup
        exact ⟨_, rfl, h⟩
    · wp_walk using AutoSeq1.wpAny_loadPart' ho, wpAny_pyIter_tuple tup
      exact ⟨_, rfl, h⟩
theorem call_enumT {prog : Program} {w : World} {A : Around} {E : Value → Shared → Prop} {s : Shared} {l : Addr} {items : Array Value} {Q : Value → Shared → Prop} (ht : s.heap.IsTuple l items)
    (h : ∀ h', IsEnum h' (s.heap.objs.size + 1) s.heap.objs.size 0 .none → h'.IsTupleIter s.heap.objs.size l 0 → (∀ b o, s.heap.get? b = some o → h'.get? b = some o) → Q (.ref (s.heap.objs.size + 1)) { s with heap := h' }) : wpAny (model prog w) A (call (.type "enumerate") [.ref l]) Q E s := by
  obtain ⟨⟨c, dct, dt, sl⟩, ho, hc, n, hd⟩ := ht
  obtain rfl : c = .type "tuple" := hc
  obtain rfl : dt = .seq items n := hd
  refine callType_new F.called_enumerate (by decide) (F.typeCall_enumerate_1 _) (F.newCall_enumerate_1 _) (fun obj => F.args_object_init_2 obj _) F.entry_enumerate_new (enumT_new l items n dct sl) ⟨ho, ?_⟩
  have z : (s.heap.push { cls := .type "tuple_iterator", data := .fields #[.ref l, .int 0 0] }).objs.size = s.heap.objs.size + 1 := Heap.size_push ..
  show _ ∧ _; rw [z]
  have g1 := Heap.get?_push_size (s.heap.push { cls := .type "tuple_iterator", data := .fields #[.ref l, .int 0 0] }) (o := { cls := .type "enumerate", data := .fields #[.none, .bool false, .ref s.heap.objs.size, rawInt 0, .none, .none] }) rfl
  rw [z] at g1
  exact ⟨⟨_, g1, rfl⟩, h _ g1 ⟨_, Heap.get?_push_of_some _ (Heap.get?_push_size _ rfl), rfl, rfl⟩ fun b o x => Heap.get?_push_of_some _ (Heap.get?_push_of_some _ x)⟩
def iEnumB (K : PySem.W.Frag) (ta : TA) : TI := fun σ H R => ta σ H fun vs H1 => ∃ t a xs, vs = [.ref a] ∧ SqB K H1 t a xs ∧ R (IteB K t a) H1
theorem pi_enumB {X : Cx} {e : Expr} {ta : TA} {p pos tpos : Pos} {elts : List Expr} {kk : Nat} (hg : Gl X "enumerate") (hm : X.mg "enumerate" = none) (ha : PA X [e] ta) (hs : starEach [e] X.env = [(false, eval e X.env)] := by rfl) : PI X (.Tuple elts kk tpos) (.Call (.Name "enumerate" p) [e] [] pos) (iEnumB X.K ta) := by
  constructor
  intro pins s σ H R I h
  refine Call_ (ld_blt I hg hm boot_enumerate (PyProof.Rows.callWith_type1 (thn (ha.run pos pins s σ H _ I h) fun us s1 ⟨vs, H1, I1, r1, t, a, xs, ex, hq, q⟩ => ?_) hs rfl))
  subst ex
  obtain ⟨its, rv, pt⟩ := I1.sqB hq
  have al := isB_lt pt
  have fp : ∀ b ∈ [s1.heap.objs.size + 1, s1.heap.objs.size], FpOk X pins H1 b := fun b hb => by
    have : s1.heap.objs.size ≤ b := by
      rcases (by simpa using hb : b = s1.heap.objs.size + 1 ∨ b = s1.heap.objs.size) with rfl | rfl <;> omega
    exact I1.fpOk this (I1.hok.fresh this)
  rw [Vals.ref1 r1]
  have tr := turn_enumB (P := X.prog) (w := X.w) (K := X.K) (elts := elts) (kk := kk) (tpos := tpos) t a (s1.heap.objs.size + 1) s1.heap.objs.size (Nat.ne_of_lt (Nat.lt_succ_of_lt al)) (Nat.ne_of_lt al)
  cases t with
  | false =>
    refine call_enumerate_list pt fun h' he hi hz hk => wpAny_pyIter_enum he ?_
    exact ⟨_, _, _, _, H1, rfl, I1.kept (t' := s1.toks) hk, tr, ⟨⟨.none, he⟩, hi, Nat.succ_ne_self _⟩, fp, q⟩
  | true =>
    refine call_enumT pt fun h' he hi hk => wpAny_pyIter_enum he ?_
    exact ⟨_, _, _, _, H1, rfl, I1.kept (t' := s1.toks) hk, tr, ⟨⟨.none, he⟩, hi, Nat.succ_ne_self _⟩, fp, q⟩
end DL
set_option Elab.async false
set_option linter.all false
set_option maxRecDepth 100000
set_option maxHeartbeats 2000000
namespace DL
open PySem PySem.Spec L2
open PyProof.Rows hiding St
/-! ### zip of a tuple and a list -/
def ItzB (K : PySem.W.Frag) (t u : Bool) (a b : Addr) : It :=
  ⟨fun i H => ∃ (xs ys : List V) (x y : V), SqB K H t a xs ∧ SqB K H u b ys ∧ xs[i]? = some x ∧ ys[i]? = some y,
   fun i H v H' => ∃ T x y, v = .ref T ∧ H T = none ∧ H' = upd H T (.tup [x, y]) ∧ (∀ xs, SqB K H t a xs → xs[i]? = some x) ∧ ∀ ys, SqB K H u b ys → ys[i]? = some y,
   fun i H => ∃ xs ys : List V, SqB K H t a xs ∧ SqB K H u b ys ∧ i = min xs.length ys.length⟩
theorem turn_zipB {P : Program} {w : World} {K : PySem.W.Frag} {elts : List Expr} {kk : Nat} {tpos : Pos} {t u : Bool} {a b z TI TO i1 i2 : Addr} (D : ZipApart z TI TO i1 i2 a b) (a1 : i1 ≠ b) (a2 : i2 ≠ a) :
    Turn P w K (.Tuple elts kk tpos) (ItzB K t u a b) [z, TI, TO, i1, i2] z (fun i h => IsZip h z TI TO .none ∧ IsPair h TI (.ref i1) (.ref i2) ∧ (∃ x y, IsPair h TO x y) ∧ itB h t i1 a i ∧ itB h u i2 b i) where
  mem := List.mem_cons_self
  obj := fun i h st c hc => by
    obtain ⟨hz, hTI, ⟨x, y, hTO⟩, h1, h2⟩ := st
    rcases (by simpa using hc : c = z ∨ c = TI ∨ c = TO ∨ c = i1 ∨ c = i2) with rfl | rfl | rfl | rfl | rfl
    · exact ⟨_, hz, fun v q => nomatch q⟩
    · exact ⟨_, hTI, fun v q => nomatch q⟩
    · exact ⟨_, hTO, fun v q => nomatch q⟩
    · exact itB_ob h1
    · exact itB_ob h2
  keep := fun i h h' st k => by
    obtain ⟨hz, hTI, ⟨x, y, hTO⟩, h1, h2⟩ := st
    exact ⟨k z (by simp) _ hz, k TI (by simp) _ hTI, ⟨x, y, k TO (by simp) _ hTO⟩, itB_at h1 (fun o q => k i1 (by simp) o q), itB_at h2 (fun o q => k i2 (by simp) o q)⟩
  item := by
    rintro X rfl rfl rfl hc i pins s σ H E I hf ⟨hz, hTI, ⟨x0, y0, hTO⟩, h1, h2⟩ ⟨xs, ys, x, y, qx, qy, ex, ey⟩
    obtain ⟨its, rv, p⟩ := I.sqB qx
    obtain ⟨its2, rv2, p2⟩ := I.sqB qy
    obtain ⟨v1, hv1, rv1⟩ := rv.get ex
    obtain ⟨v2, hv2, rv2'⟩ := rv2.get ey
    have hA : X.A.in1.handled = none := by simp [I.ok.hd hc]
    have D1 := drawsB (prog := X.prog) (w := X.w) (A := X.A.in1) hA t i1 a D.l1i1 its.toArray
    have D2 := drawsB (prog := X.prog) (w := X.w) (A := X.A.in1) hA u i2 b D.l2i2 its2.toArray
    have S : ZipSep2 z TI TO i1 i2 [i1, a] [i2, b] := ⟨D.TIz, D.TOz, D.TITO, D.TIi1, by simp, by simp [Ne.symm D.i1z, Ne.symm D.l1z], by simp [D.TOi1, Ne.symm D.l1TO], D.TIi2, by simp, by simp [Ne.symm D.i2z, Ne.symm D.l2z], by simp [D.TOi2, Ne.symm D.l2TO], by simp [D.i12, a1], by simp [Ne.symm D.i12, a2]⟩
    have sz := Heap.lt_size hz
    refine wpAny_pyNext_zipD2_item S D1 D2 hz hTI hTO ⟨h1, p⟩ ⟨h2, p2⟩ (by simpa using (List.getElem?_eq_some_iff.mp hv1).1) (by simpa using (List.getElem?_eq_some_iff.mp hv2).1) fun y1 y2 h' tk py1 py2 z' TO' st1 st2 hT hsz hk => ?_
    obtain rfl : y1 = v1 := by simpa [hv1] using py1.symm
    obtain rfl : y2 = v2 := by simpa [hv2] using py2.symm
    refine ⟨_, rfl, wpAny_letOwnedTupleGo_zip (s := { s with heap := h', toks := tk }) z' fun h2' z2 sb => ?_⟩
    have T2 : h2'.get? s.heap.objs.size = some { cls := .type "tuple", data := .seq #[y1, y2] } := (sb.2 _ (Nat.ne_of_gt sz)).trans hT
    have I1 : Inv X pins σ (upd H s.heap.objs.size (.tup [x, y])) { s with heap := h2', toks := tk } :=
      I.turnedNew (ch := [z, TI, TO, i1, i2]) (fun c o hb q => by
        simp only [List.mem_cons, List.not_mem_nil, or_false, not_or] at hb
        exact (sb.2 c hb.1).trans (hk c o hb.1 hb.2.2.1 hb.2.2.2.1 hb.2.2.2.2 q)) hf (Nat.le_refl _) ⟨(by decide : 2 ≤ sizeLine), [y1, y2], .cons rv1 (.cons rv2' .nil), _, T2, rfl, _, rfl⟩
    refine ⟨.ref s.heap.objs.size, _, I1, rfl, ⟨_, x, y, rfl, I.hok.fresh (Nat.le_refl _), rfl, fun l hl => by rw [I.sqB_inj hl qx]; exact ex, fun l hl => by rw [I.sqB_inj hl qy]; exact ey⟩, ⟨z2, ?_, ⟨y1, y2, ?_⟩, ?_, ?_⟩, fun c hcm => ?_⟩
    · exact (sb.2 _ D.TIz).trans (hk _ _ D.TIz D.TITO D.TIi1 D.TIi2 hTI)
    · exact (sb.2 _ D.TOz).trans TO'
    · exact itB_at st1.1 fun o q => (sb.2 _ D.i1z).trans q
    · exact itB_at st2.1 fun o q => (sb.2 _ D.i2z).trans q
    · have : c < s.heap.objs.size := by
        rcases (by simpa using hcm : c = z ∨ c = TI ∨ c = TO ∨ c = i1 ∨ c = i2) with rfl | rfl | rfl | rfl | rfl
        · exact sz
        · exact Heap.lt_size hTI
        · exact Heap.lt_size hTO
        · obtain ⟨o, q, _⟩ := itB_ob h1; exact Heap.lt_size q
        · obtain ⟨o, q, _⟩ := itB_ob h2; exact Heap.lt_size q
      rw [upd_ne (Nat.ne_of_lt this)]
      exact (hf c hcm).1
  done := by
    rintro X rfl rfl rfl hc i pins s σ H E I hf ⟨hz, hTI, ⟨x0, y0, hTO⟩, h1, h2⟩ ⟨xs, ys, qx, qy, en⟩
    obtain ⟨its, rv, p⟩ := I.sqB qx
    obtain ⟨its2, rv2, p2⟩ := I.sqB qy
    have l1 := rv.length
    have l2 := rv2.length
    have hA : X.A.in1.handled = none := by simp [I.ok.hd hc]
    have D1 := drawsB (prog := X.prog) (w := X.w) (A := X.A.in1) hA t i1 a D.l1i1 its.toArray
    have D2 := drawsB (prog := X.prog) (w := X.w) (A := X.A.in1) hA u i2 b D.l2i2 its2.toArray
    have S : ZipSep2 z TI TO i1 i2 [i1, a] [i2, b] := ⟨D.TIz, D.TOz, D.TITO, D.TIi1, by simp, by simp [Ne.symm D.i1z, Ne.symm D.l1z], by simp [D.TOi1, Ne.symm D.l1TO], D.TIi2, by simp, by simp [Ne.symm D.i2z, Ne.symm D.l2z], by simp [D.TOi2, Ne.symm D.l2TO], by simp [D.i12, a1], by simp [Ne.symm D.i12, a2]⟩
    refine wpAny_pyNext_zipD2_end S D1 D2 hz hTI hTO ⟨h1, p⟩ ⟨h2, p2⟩ (by simp; omega) (by simp; omega) (by simp; omega) fun h' tk hk => ⟨rfl, I.turnedL (t' := tk) (ch := [z, TI, TO, i1, i2]) (fun c o hb q => ?_) hf⟩
    simp only [List.mem_cons, List.not_mem_nil, or_false, not_or] at hb
    exact hk c o hb.1 hb.2.2.1 hb.2.2.2.1 hb.2.2.2.2 q
  self := fun A i s Q E st h => wpAny_pyIter_zip st.1 h
abbrev zM1 (h : Heap) (a : Addr) : Heap := h.push { cls := .type "tuple_iterator", data := .fields #[.ref a, .int 0 0] }
abbrev zM2 (h : Heap) (a b : Addr) : Heap := (zM1 h a).push { cls := .type "list_iterator", data := .fields #[.ref b, .int 0 0] }
abbrev zM3 (h : Heap) (a b : Addr) : Heap := (zM2 h a b).push { cls := .type "tuple", data := .seq #[.ref h.objs.size, .ref (zM1 h a).objs.size] }
abbrev zM4 (h : Heap) (a b : Addr) : Heap := (zM3 h a b).push { cls := .type "tuple", data := .seq #[.none, .none] }
abbrev zM5 (h : Heap) (a b : Addr) : Heap := (zM4 h a b).push { cls := .type "zip", data := .fields #[.none, .bool false, .bool false, .ref (zM2 h a b).objs.size, .ref (zM3 h a b).objs.size] }
theorem zipM_new (a b : Addr) (xs ys : Array Value) : Meets (Builtin.«zip.__new__» ⟨[.type "zip", .ref a, .ref b], []⟩) (fun _ R s => s.heap.IsTuple a xs ∧ s.heap.IsList b ys ∧ R (.ok (.ret (.ref (zM4 s.heap a b).objs.size))) { s with heap := zM5 s.heap a b }) :=
  .of_wp fun prog w A R s h => by
    obtain ⟨hp, g, d, tk, os⟩ := s; obtain ⟨ha, hb, h⟩ := h; have sub0 := sub_zip
    have TA : Heap.IsTuple (Shared.heap ⟨hp, g, d, tk, os⟩) a xs := ha
    have LB : Heap.IsList (Shared.heap ⟨hp.push { cls := .type "tuple_iterator", data := .fields #[.ref a, .int 0 0] }, g, d, tk, os⟩) b ys := Heap.IsList.push hb _
    wp_walk using wpAny_pyIter_tuple TA, wpAny_pyIter_list LB
    exact ⟨_, rfl, h⟩
theorem call_zipM {prog : Program} {w : World} {A : Around} {E : Value → Shared → Prop} {s : Shared} {a b : Addr} {xs ys : Array Value} {Q : Value → Shared → Prop} (ha : s.heap.IsTuple a xs) (hb : s.heap.IsList b ys)
    (h : ∀ h', IsZip h' (s.heap.objs.size + 4) (s.heap.objs.size + 2) (s.heap.objs.size + 3) .none → IsPair h' (s.heap.objs.size + 2) (.ref s.heap.objs.size) (.ref (s.heap.objs.size + 1)) → IsPair h' (s.heap.objs.size + 3) .none .none → h'.IsTupleIter s.heap.objs.size a 0 → h'.IsListIter (s.heap.objs.size + 1) b 0 → (∀ c o, s.heap.get? c = some o → h'.get? c = some o) → Q (.ref (s.heap.objs.size + 4)) { s with heap := h' }) : wpAny (model prog w) A (call (.type "zip") [.ref a, .ref b]) Q E s := by
  refine callType_new F.called_zip (by decide) (F.typeCall_zip_2 _ _) (F.newCall_zip_2 _ _) (fun obj => F.args_object_init_3 obj _ _) F.entry_zip_new (zipM_new a b xs ys) ⟨ha, hb, ?_⟩
  have z1 : (zM1 s.heap a).objs.size = s.heap.objs.size + 1 := Heap.size_push ..
  have z2 : (zM2 s.heap a b).objs.size = s.heap.objs.size + 2 := by rw [Heap.size_push, z1]
  have z3 : (zM3 s.heap a b).objs.size = s.heap.objs.size + 3 := by rw [Heap.size_push, z2]
  have z4 : (zM4 s.heap a b).objs.size = s.heap.objs.size + 4 := by rw [Heap.size_push, z3]
  have up {o} (h : Heap) (c : Addr) (v : Obj) (e : h.get? c = some v) : (h.push o).get? c = some v := Heap.get?_push_of_some _ e
  have g5 : (zM5 s.heap a b).get? (zM4 s.heap a b).objs.size = some _ := Heap.get?_push_size _ rfl
  have g4 : (zM5 s.heap a b).get? (zM3 s.heap a b).objs.size = some _ := up _ _ _ (Heap.get?_push_size _ rfl)
  have g3 : (zM5 s.heap a b).get? (zM2 s.heap a b).objs.size = some _ := up _ _ _ (up _ _ _ (Heap.get?_push_size _ rfl))
  have g2 : (zM5 s.heap a b).get? (zM1 s.heap a).objs.size = some _ := up _ _ _ (up _ _ _ (up _ _ _ (Heap.get?_push_size _ rfl)))
  have g1 : (zM5 s.heap a b).get? s.heap.objs.size = some _ := up _ _ _ (up _ _ _ (up _ _ _ (up _ _ _ (Heap.get?_push_size _ rfl))))
  show _ ∧ _
  rw [z2, z3, z4] at g5; rw [z1, z2] at g3; rw [z3] at g4; rw [z1] at g2; rw [z4]
  exact ⟨⟨_, g5, rfl⟩, h _ g5 g3 g4 ⟨_, g1, rfl, rfl⟩ ⟨_, g2, rfl, rfl⟩ fun c o x => up _ _ _ (up _ _ _ (up _ _ _ (up _ _ _ (up _ _ _ x))))⟩
def iZipM (K : PySem.W.Frag) (ta : TA) : TI := fun σ H R => ta σ H fun vs H1 => ∃ a b xs ys, vs = [.ref a, .ref b] ∧ SqT K H1 a xs ∧ SqL K H1 b ys ∧ R (ItzB K true false a b) H1
theorem pi_zipM {X : Cx} {e e2 : Expr} {ta : TA} {p pos tpos : Pos} {elts : List Expr} {kk : Nat} (hg : Gl X "zip") (hm : X.mg "zip" = none) (ha : PA X [e, e2] ta) (hs : starEach [e, e2] X.env = (false, eval e X.env) :: starEach [e2] X.env := by rfl) (hpl : (backTo pos (starEach [e2] X.env)).any (·.1) = false := by rfl) :
    PI X (.Tuple elts kk tpos) (.Call (.Name "zip" p) [e, e2] [] pos) (iZipM X.K ta) := by
  constructor
  intro pins s σ H R I h
  refine Call_ (ld_blt I hg hm PyProof.Rows.boot_zip (PyProof.Rows.callWith_type1 (thn (ha.run pos pins s σ H _ I h) fun us s1 ⟨vs, H1, I1, r1, a, b, xs, ys, ex, qx, qy, q⟩ => ?_) hs hpl))
  subst ex
  obtain ⟨its, rv, p1⟩ := I1.sqB (t := true) qx
  obtain ⟨its2, rv2, p2⟩ := I1.sqB (t := false) qy
  have la := isB_lt p1
  have lb := isB_lt p2
  have fp : ∀ c ∈ [s1.heap.objs.size + 4, s1.heap.objs.size + 2, s1.heap.objs.size + 3, s1.heap.objs.size, s1.heap.objs.size + 1], FpOk X pins H1 c := fun c hc => by
    have : s1.heap.objs.size ≤ c := by
      simp only [List.mem_cons, List.not_mem_nil, or_false] at hc
      rcases hc with rfl | rfl | rfl | rfl | rfl <;> first | exact Nat.le_refl _ | exact Nat.le_add_right _ _
    exact I1.fpOk this (I1.hok.fresh this)
  cases r1 with
  | cons r rr => cases rr with
    | cons r' rr =>
      cases rr
      cases r
      cases r'
      refine call_zipM p1 p2 fun h' hz hTI hTO h1 h2 hk => wpAny_pyIter_zip hz ?_
      exact ⟨_, _, _, _, H1, rfl, I1.kept (t' := s1.toks) hk, turn_zipB (t := true) (u := false) (PySem.W.ktu_apart s1.heap.objs.size a b la lb) (Nat.ne_of_gt lb) (fun z => by
        have : s1.heap.objs.size + 1 = a := z
        exact absurd la (by rw [← this]; exact Nat.not_lt.mpr (Nat.le_succ _))), ⟨hz, hTI, ⟨_, _, hTO⟩, h1, h2⟩, fp, q⟩
section
variable {C : Zn} {X : Cx} {tg : Expr} {e a b c : Expr} {es : List Expr} {pos p tpos : Pos} {t : DL'} {te ta tb : DT}
theorem ir_zipM {K : PySem.W.Frag} {P : (Addr → Prop) → Hp → Prop} {a b : Addr} {ds es : List D} (h1 : ∀ F H, Bs C F H → P F H → ∃ vs, SqT K H a vs ∧ DqAll K F H vs ds) (h2 : ∀ F H, Bs C F H → P F H → ∃ vs, SqL K H b vs ∧ DqAll K F H vs es) : IR C K P (ItzB K true false a b) (zipD ds es) := by
  refine ⟨fun F H bs pp i d e => ?_, fun F H bs pp => ?_⟩
  · obtain ⟨vs, u1, u2⟩ := h1 F H bs pp
    obtain ⟨ws, w1, w2⟩ := h2 F H bs pp
    obtain ⟨x, y, e1, e2, rfl⟩ := zipD_get _ _ _ _ e
    obtain ⟨v, z1, z2⟩ := u2.get e1
    obtain ⟨w, z3, z4⟩ := w2.get e2
    refine ⟨⟨vs, ws, v, w, u1, w1, z1, z3⟩, fun x' H' yy => ?_⟩
    obtain ⟨T, x0, y0, rfl, hT, rfl, q1, q2⟩ := yy
    have := q1 vs u1
    rw [z1] at this; cases this
    have := q2 ws w1
    rw [z3] at this; cases this
    have g := Go.laid (o := .tup [v, w]) bs hT
    exact ⟨F, g, .tup (.inl (.inl upd_same)) (DqAll.mono (g.keep bs) _ _ (.cons z2 (.cons z4 .nil)))⟩
  · obtain ⟨vs, u1, u2⟩ := h1 F H bs pp
    obtain ⟨ws, w1, w2⟩ := h2 F H bs pp
    exact ⟨vs, ws, u1, w1, by rw [u2.length, w2.length, zipD_len]⟩
/-- for .. in zip(tuple, list) -/
def dZipM (t : DL') : DI := fun δ Q => t δ fun rs => match rs with
  | [x, y] => (match x.fd, y.fd with
    | some (.tuple ds), some (.list es) => Q (zipD ds es)
    | _, _ => False)
  | _ => False
theorem i_zipM {k : Bool} {elts : List Expr} {kk : Nat} (ha : PDL C X [a, b] t) (hm : X.mg "zip" = none) (hg : Gl X "zip" := by rfl)
    (hs : starEach [a, b] X.env = (false, eval a X.env) :: starEach [b] X.env := by rfl) (hpl : (backTo pos (starEach [b] X.env)).any (·.1) = false := by rfl) :
    PDI C X true (.Tuple elts kk tpos) (.Call (.Name "zip" p) [a, b] [] pos) (dZipM t) := by
  refine ⟨fun δ Q Q' m q => ha.mono δ _ _ (fun rs q => ?_) q, (pi_zipM hg hm ha.run hs hpl).imp fun σ H R q => ?_⟩
  · split at q
    · split at q
      · exact m _ q
      · exact q
    · exact q
  · obtain ⟨δ, F, x, q⟩ := q
    refine ⟨δ, F, x, ha.mono δ _ _ (fun rs q F1 H1 vs g rrs => ?_) q⟩
    split at q
    · rename_i r1 r2
      have hl := rrs.length
      match vs, hl with
      | [v, w], _ =>
        obtain ⟨v', e1, q1⟩ := rrs.at (i := 0) rfl
        obtain ⟨w', e2, q2⟩ := rrs.at (i := 1) rfl
        cases e1
        cases e2
        split at q
        · rename_i ds es e1 e2
          obtain ⟨F2, g2, s1, s2⟩ := Sup.ofFd (F' := F1) x.bs g q1 q2 e1 e2
          cases s1 with
          | tup a1 a2 => cases s2 with
            | lst b1 b2 => exact ⟨_, _, _, _, rfl, a1, b1.sq, q F2 H1 _ g2 (ir_zipM (fun F H b p => ⟨_, Keep.sqT p a1, DqAll.mono p _ _ a2⟩) fun F H b p => ⟨_, (Keep.lstAt p b1).sq, DqAll.mono p _ _ b2⟩)⟩
        · exact q.elim
    · exact q.elim
/-! ### enumerate -/
def enumD (ds : List D) : List D := ds.mapIdx fun i d => .tuple [.int (i : Nat), d]
theorem enumD_get {ds : List D} {i : Nat} {d : D} (h : (enumD ds)[i]? = some d) : ∃ x, ds[i]? = some x ∧ d = .tuple [.int (i : Nat), x] := by
  unfold enumD at h
  rw [List.getElem?_mapIdx] at h
  obtain ⟨x, q1, q2⟩ := Option.map_eq_some_iff.mp h
  exact ⟨x, q1, q2.symm⟩
theorem enumD_len (ds : List D) : (enumD ds).length = ds.length := by unfold enumD; rw [List.length_mapIdx]
theorem ir_enum {K : PySem.W.Frag} {P : (Addr → Prop) → Hp → Prop} {t : Bool} {a : Addr} {ds : List D} (h1 : ∀ F H, Bs C F H → P F H → ∃ vs, SqB K H t a vs ∧ DqAll K F H vs ds) : IR C K P (IteB K t a) (enumD ds) := by
  refine ⟨fun F H bs pp i d e => ?_, fun F H bs pp => ?_⟩
  · obtain ⟨vs, u1, u2⟩ := h1 F H bs pp
    obtain ⟨x, e1, rfl⟩ := enumD_get e
    obtain ⟨v, z1, z2⟩ := u2.get e1
    refine ⟨⟨vs, v, u1, z1⟩, fun x' H' yy => ?_⟩
    obtain ⟨T, x0, rfl, hT, rfl, q1⟩ := yy
    have := q1 vs u1
    rw [z1] at this; cases this
    have g := Go.laid (o := .tup [.int (i : Nat), v]) bs hT
    exact ⟨F, g, .tup (.inl (.inl upd_same)) (DqAll.mono (g.keep bs) _ _ (.cons (.int _) (.cons z2 .nil)))⟩
  · obtain ⟨vs, u1, u2⟩ := h1 F H bs pp
    exact ⟨vs, u1, by rw [u2.length, enumD_len]⟩
/-- .. in enumerate(e): k as with PDI -/
def dEnum (k : Bool) (te : DT) : DI := fun δ Q => te δ fun x => match (if k then x.fd else x.sup) with
  | some (.tuple ds) => Q (enumD ds)
  | some (.list ds) => Q (enumD ds)
  | _ => False
theorem i_enum {k : Bool} {elts : List Expr} {kk : Nat} (ha : PD C X a te) (hm : X.mg "enumerate" = none) (hg : Gl X "enumerate" := by rfl)
    (hs : starEach [a] X.env = [(false, eval a X.env)] := by rfl) : PDI C X k (.Tuple elts kk tpos) (.Call (.Name "enumerate" p) [a] [] pos) (dEnum k te) := by
  refine ⟨fun δ Q Q' m q => ha.mono δ _ _ (fun rs q => ?_) q, (pi_enumB hg hm (pa_cons ha.run pa_nil hs) hs).imp fun σ H R q => ?_⟩
  · split at q
    · exact m _ q
    · exact m _ q
    · exact q
  · obtain ⟨δ, F, x, q⟩ := q
    refine ⟨δ, F, x, ha.mono δ _ _ (fun r q F1 H1 v g rr => ?_) q⟩
    cases k with
    | true =>
      simp only [if_true] at q
      split at q
      · rename_i ds e1
        obtain ⟨F2, g2, _, dq⟩ := RR.fd x.bs g rr e1
        cases dq with
        | tup a1 a2 => exact ⟨true, _, _, rfl, a1, q F2 H1 _ g2 (ir_enum fun F H b p => ⟨_, Keep.sqT p a1, DqAll.mono p _ _ a2⟩)⟩
      · rename_i ds e1
        obtain ⟨F2, g2, _, dq⟩ := RR.fd x.bs g rr e1
        cases dq with
        | lst a1 a2 => exact ⟨false, _, _, rfl, a1.sq, q F2 H1 _ g2 (ir_enum fun F H b p => ⟨_, (Keep.lstAt p a1).sq, DqAll.mono p _ _ a2⟩)⟩
      · exact q.elim
    | false =>
      simp only [Bool.false_eq_true, if_false] at q
      split at q
      · rename_i ds e1
        obtain ⟨F2, g2, _, dq⟩ := RR.sup x.bs g rr e1
        obtain ⟨c, vs, rfl, a1, a2⟩ := dq.tup
        refine ⟨true, _, _, rfl, a1, q F2 H1 _ g2 (ir_enum fun F H b p => ?_)⟩
        have p : Go C F2 H1 F H := p
        exact ⟨_, Keep.sqT (p.keep g2.ok) a1, DqAll.mono (p.keep g2.ok) _ _ a2⟩
      · rename_i ds e1
        obtain ⟨F2, g2, _, dq⟩ := RR.sup x.bs g rr e1
        obtain ⟨c, vs, rfl, a1, a2⟩ := dq.lst
        refine ⟨false, _, _, rfl, a1.sq, q F2 H1 _ g2 (ir_enum fun F H b p => ?_)⟩
        have p : Go C F2 H1 F H := p
        exact ⟨_, (Keep.lstAt (p.keepZ g2.ok) a1).sq, DqAll.mono (p.keep g2.ok) _ _ a2⟩
      · exact q.elim
/-! ### range downwards -/
def rangeDn (lo hi : Int) : List D := (List.range (lo - hi).toNat).map fun i : Nat => PyData.int (lo - i)
/-- range(a, b, -1) -/
def dRangeDn (ta tb : DT) : DI := fun δ Q => ta δ fun x => onI x fun i => tb δ fun y => onI y fun j => small i ∧ small j ∧ Q (rangeDn i j)
end
end DL
set_option Elab.async false
set_option linter.all false
set_option maxRecDepth 100000
set_option maxHeartbeats 2000000
namespace DL
open PySem PySem.Spec L2
open PyProof.Rows hiding St
/-! ### dicts whose keys are whole numbers and texts, with shared data within -/
section
variable {κ α : Type} [DecidableEq κ]
def valD (ds : List (κ × α)) (k : κ) : Option α := match ds with
  | [] => none
  | p :: r => if p.1 = k then some p.2 else valD r k
def setKD (ds : List (κ × α)) (k : κ) (v : α) : List (κ × α) := ds.map fun p => if p.1 = k then (p.1, v) else p
def hasD (ds : List (κ × α)) (k : κ) : Bool := ds.any fun p => decide (p.1 = k)
def putD (ds : List (κ × α)) (k : κ) (v : α) : List (κ × α) := if hasD ds k = true then setKD ds k v else ds ++ [(k, v)]
theorem valD_none {ds : List (κ × α)} {k : κ} : hasD ds k = false ↔ valD ds k = none := by
  induction ds with
  | nil => simp [hasD, valD]
  | cons p r ih =>
    unfold valD
    by_cases e : p.1 = k
    · simp [hasD, e]
    · rw [if_neg e, ← ih]
      simp [hasD, e]
theorem setKD_keys (ds : List (κ × α)) (k : κ) (v : α) : (setKD ds k v).map (·.1) = ds.map (·.1) := by
  unfold setKD
  rw [List.map_map]
  refine List.map_congr_left fun p _ => ?_
  show (if p.1 = k then (p.1, v) else p).1 = p.1
  split <;> rfl
theorem putD_keys (ds : List (κ × α)) (k : κ) (v : α) : (putD ds k v).map (·.1) = if hasD ds k = true then ds.map (·.1) else ds.map (·.1) ++ [k] := by
  unfold putD
  split
  · exact setKD_keys ds k v
  · rw [List.map_append]; rfl
theorem hasD_mem {ds : List (κ × α)} {k : κ} : hasD ds k = true ↔ k ∈ ds.map (·.1) := by
  unfold hasD
  simp [List.any_eq_true]
theorem valD_set (ds : List (κ × α)) (k j : κ) (v : α) : valD (setKD ds k v) j = if j = k ∧ hasD ds k = true then some v else valD ds j := by
  induction ds with
  | nil => simp [setKD, valD, hasD]
  | cons p r ih =>
    have e : setKD (p :: r) k v = (if p.1 = k then (p.1, v) else p) :: setKD r k v := rfl
    rw [e]
    unfold valD
    by_cases h1 : p.1 = k
    · rw [if_pos h1]
      by_cases h2 : p.1 = j
      · have : j = k := h2.symm.trans h1
        simp [h2, this, hasD]
      · have : ¬ j = k := fun z => h2 (h1.trans z.symm)
        simp [h2, ih, this]
    · rw [if_neg h1]
      by_cases h2 : p.1 = j
      · have : ¬ j = k := fun z => h1 (h2.trans z)
        simp [h2, this]
      · have e2 : hasD (p :: r) k = hasD r k := by simp [hasD, h1]
        simp only [h2, if_false, e2, ih]
theorem valD_snoc (ds : List (κ × α)) (k j : κ) (v : α) : valD (ds ++ [(k, v)]) j = (valD ds j).orElse fun _ => if k = j then some v else none := by
  induction ds with
  | nil => simp [valD]
  | cons p r ih =>
    rw [List.cons_append]
    unfold valD
    split
    · rfl
    · exact ih
theorem valD_put (ds : List (κ × α)) (k j : κ) (v : α) : valD (putD ds k v) j = if j = k then some v else valD ds j := by
  unfold putD
  by_cases h : hasD ds k = true
  · rw [if_pos h, valD_set]
    simp [h]
  · rw [if_neg h, valD_snoc]
    have n : valD ds k = none := valD_none.mp (by simpa using h)
    by_cases e : j = k
    · subst e; simp [n]
    · rw [if_neg e, if_neg (Ne.symm e)]; simp
def mergeD (ds more : List (κ × α)) : List (κ × α) := more.foldl (fun acc p => putD acc p.1 p.2) ds
end
def shs (ds : List (Key × D)) : List (Key × DV) := ds.map fun p => (p.1, .sh p.2)
theorem shs_keys (ds : List (Key × D)) : (shs ds).map (·.1) = ds.map (·.1) := by unfold shs; rw [List.map_map]; rfl
theorem shs_vals (ds : List (Key × D)) : (shs ds).map (·.2) = (ds.map (·.2)).map DV.sh := by unfold shs; rw [List.map_map, List.map_map]; rfl
/-- the dict's entries, key by key -/
inductive KD (K : PySem.W.Frag) (F : Addr → Prop) (H : Hp) : List (Key × V) → List (Key × D) → Prop
  | nil : KD K F H [] []
  | cons {k : Key} {v : V} {d : D} {kvs : List (Key × V)} {ds : List (Key × D)} : Dq K F H v d → KD K F H kvs ds → KD K F H ((k, v) :: kvs) ((k, d) :: ds)
section
variable {K : PySem.W.Frag} {C : Zn} {F F' : Addr → Prop} {H H' : Hp}
theorem KD.mono (k : Keep F H F' H') : ∀ {kvs : List (Key × V)} {ds : List (Key × D)}, KD K F H kvs ds → KD K F' H' kvs ds
  | _, _, .nil => .nil
  | _, _, .cons r t => .cons (Dq.mono k _ _ r) (KD.mono k t)
theorem KD.len : ∀ {kvs : List (Key × V)} {ds : List (Key × D)}, KD K F H kvs ds → kvs.length = ds.length
  | _, _, .nil => rfl
  | _, _, .cons _ t => congrArg (· + 1) (KD.len t)
theorem KD.has (k : Key) : ∀ {kvs : List (Key × V)} {ds : List (Key × D)}, KD K F H kvs ds → (kvs.any fun p => decide (p.1 = k)) = hasD ds k
  | _, _, .nil => rfl
  | _, _, .cons _ t => by
    have := KD.has k t
    unfold hasD at this ⊢
    rw [List.any_cons, List.any_cons, this]
theorem KD.set (k : Key) {v : V} {d : D} (q : Dq K F H v d) : ∀ {kvs : List (Key × V)} {ds : List (Key × D)}, KD K F H kvs ds → KD K F H (kvs.map fun p => if p.1 = k then (p.1, v) else p) (setKD ds k d)
  | _, _, .nil => .nil
  | _, _, .cons (k := j) r t => by
    unfold setKD
    rw [List.map_cons, List.map_cons]
    have t' := KD.set k q t
    by_cases e : j = k
    · simp only [e, if_true]
      exact .cons q t'
    · simp only [e, if_false]
      exact .cons r t'
theorem KD.snoc {k : Key} {v : V} {d : D} (q : Dq K F H v d) : ∀ {kvs : List (Key × V)} {ds : List (Key × D)}, KD K F H kvs ds → KD K F H (kvs ++ [(k, v)]) (ds ++ [(k, d)])
  | _, _, .nil => .cons q .nil
  | _, _, .cons r t => .cons r (KD.snoc q t)
theorem KD.put {k : Key} {v : V} {d : D} {kvs : List (Key × V)} {ds : List (Key × D)} (q : Dq K F H v d) (h : KD K F H kvs ds) : KD K F H (putK kvs k v) (putD ds k d) := by
  unfold putK putD
  rw [KD.has k h]
  split
  · exact h.set k q
  · exact h.snoc q
theorem KD.val (k : Key) : ∀ {kvs : List (Key × V)} {ds : List (Key × D)}, KD K F H kvs ds → (valV kvs k = none ∧ valD ds k = none) ∨ ∃ v d, valV kvs k = some v ∧ valD ds k = some d ∧ Dq K F H v d
  | _, _, .nil => .inl ⟨rfl, rfl⟩
  | _, _, .cons (k := j) r t => by
    unfold valD
    by_cases e : j = k
    · exact .inr ⟨_, _, valV_pos e, by rw [if_pos e], r⟩
    · rw [valV_neg e]
      simp only [if_neg e]
      exact KD.val k t
theorem KD.of : ∀ {kvs : List (Key × V)} {ds : List (Key × D)} {as : List Addr}, kvs.map (·.1) = ds.map (·.1) → Reps K C F H (kvs.map (·.2)) ((ds.map (·.2)).map DV.sh) as → as = [] ∧ KD K F H kvs ds
  | [], [], _, _, h => by cases h; exact ⟨rfl, .nil⟩
  | [], _ :: _, _, e, _ => by cases e
  | _ :: _, [], _, e, _ => by cases e
  | (k, v) :: kvs, (j, d) :: ds, _, e, h => by
    injection e with e1 e2
    cases h with
    | cons r t =>
      cases r with
      | sh r =>
        obtain ⟨e3, t'⟩ := KD.of e2 t
        have e1 : k = j := e1
        subst e1
        exact ⟨by rw [e3]; rfl, .cons r t'⟩
theorem KD.reps : ∀ {kvs : List (Key × V)} {ds : List (Key × D)}, KD K F H kvs ds → Reps K C F H (kvs.map (·.2)) ((ds.map (·.2)).map DV.sh) []
  | _, _, .nil => .nil
  | _, _, .cons r t => .cons (as := []) (.sh r) (KD.reps t)
theorem Rep.dicOf {v : V} {ds : List (Key × D)} {as : List Addr} (h : Rep K C F H v (.dic (shs ds)) as) : ∃ a kvs, v = .ref a ∧ as = [a] ∧ H a = some (.dK kvs) ∧ KD K F H kvs ds := by
  cases h with
  | dic e1 e2 r =>
    rw [shs_keys] at e2
    rw [shs_vals] at r
    obtain ⟨z, q⟩ := KD.of e2 r
    exact ⟨_, _, rfl, by rw [z], e1, q⟩
end
/-! ### the dict in a slot -/
def onDic (δ : DE) (i : Nat) (k : List (Key × D) → Prop) : Prop := ∃ ds, δ[i]? = some (some (.dic (shs ds))) ∧ k ds
section
variable {K : PySem.W.Frag} {C : Zn} {F0 F F1 F' : Addr → Prop} {H0 H H1 H' : Hp} {σ : L2.St} {δ : DE}
theorem At0.dic (x : At0 K C F H σ δ) {i : Nat} {ds : List (Key × D)} (e : δ[i]? = some (some (.dic (shs ds)))) : ∃ a kvs, σ[i]? = some (some (.ref a)) ∧ H a = some (.dK kvs) ∧ KD K F H kvs ds := by
  obtain ⟨as, E, nd, o, b⟩ := x
  obtain ⟨v, bs, e1, r, _⟩ := E.get e
  obtain ⟨a, kvs, rfl, _, q1, q2⟩ := Rep.dicOf r
  exact ⟨a, kvs, e1, q1, q2⟩
end
def onKey1 (y : R) (Q : Key → Prop) : Prop := match y with
  | .val (.sh (.int i)) => Q (.inl i)
  | .val (.sh (.str x)) => Q (.inr x)
  | _ => False
section
variable {C : Zn} {F0 : Addr → Prop} {H0 : Hp} {X : Cx} {e f : Expr} {te tx tf : DT} {pos : Pos}
/-- {} -/
def dDic0 : DT := fun _ Q => Q (.val (.dic (shs [])))
/-- x[k] = e, x a dict -/
def dSetK (i : Nat) (tx te : DT) : DS := fun D δ => te δ fun r => match r.fd with
  | some d => onDic δ i fun ds => ds.length < sizeLine ∧ tx δ fun y => onKey1 y fun k => D.nx (δ.set i (some (.dic (shs (putD ds k d)))))
  | none => False
/-- sorted(x), x a dict of whole numbers -/
def dSortK (i : Nat) : DT := fun δ Q => onDic δ i fun ds => ∃ ks : List Int, ds.map (·.1) = ks.map Sum.inl ∧ ks.length < 64 ∧ ∀ ys : List Int, ys.Perm ks → ys.Pairwise (· ≤ ·) → Q (.val (.own (ys.map fun n => .sh (.int n))))
/-- x.get(e, f) -/
def dGetK (i : Nat) (te tf : DT) : DT := fun δ Q => onDic δ i fun ds => te δ fun y => onKey1 y fun k => tf δ fun z => match z.fd with
  | some d => Q (.val (.sh ((valD ds k).getD d)))
  | none => False
/-- e in x, x a dict -/
def dInK (i : Nat) (te : DT) (b : Bool) : DT := fun δ Q => onDic δ i fun ds => te δ fun y => onKey1 y fun k => Q (.val (.sh (.bool (hasD ds k == b))))
/-- dict([..]) of pairs -/
def pairOf : D → Option (Key × D)
  | .tuple [.int i, d] => some (.inl i, d)
  | .tuple [.str x, d] => some (.inr x, d)
  | _ => none
def pairsOf : List D → Option (List (Key × D))
  | [] => some []
  | d :: ds => match pairOf d, pairsOf ds with
    | some p, some ps => some (p :: ps)
    | _, _ => none
def fDict (r : R) (Q : R → Prop) : Prop := match r.fd with
  | some (.list es) => (match pairsOf es with
    | some ds => Q (.val (.dic (shs (mergeD [] ds))))
    | none => False)
  | _ => False
end
end DL
set_option Elab.async false
set_option linter.all false
set_option maxRecDepth 100000
set_option maxHeartbeats 2000000
namespace DL
open PySem PySem.Spec L2
open PyProof.Rows hiding St
/-! ### sorted(set(..)) -/
theorem ints_vals : ∀ {ns : List Int} {us : List Value}, Vals (ns.map V.int) us → IntsAre us ns
  | [], _, .nil => .nil
  | n :: ns, _, .cons r t => by
    obtain ⟨u, rfl⟩ := r
    exact .cons n u (ints_vals t)
section
variable {C : Zn} {X : Cx} {e : Expr} {te : DT} {pos p p1 pos1 : Pos}
/-- sorted(set(e)), e a tuple of whole numbers -/
def dSortSetI (te : DT) : DT := fun δ Q => te δ fun r => match r.sup with
  | some (.tuple ds) => (match numsOf ds with
    | some ns => ns.length ≤ 60 ∧ ∀ ms : List Int, ms.Pairwise (· < ·) → (∀ k, k ∈ ms ↔ k ∈ ns) → Q (.val (.own ((ms.map PyData.int).map DV.sh)))
    | none => False)
  | _ => False
/-! pairs -/
abbrev Pi := Int × Int
def piD (p : Pi) : D := .tuple [.int p.1, .int p.2]
def pisOf : List D → Option (List Pi)
  | [] => some []
  | .tuple [.int i, .int j] :: ds => (pisOf ds).map ((i, j) :: ·)
  | _ => none
def PiLt (p q : Pi) : Prop := p.1 < q.1 ∨ (p.1 = q.1 ∧ p.2 < q.2)
/-- sorted(set(e)), e a list of pairs of whole numbers from 0 to 63 -/
def dSortSetP (te : DT) : DT := fun δ Q => te δ fun r => match r.fd with
  | some (.list ds) => (match pisOf ds with
    | some ps => (ps.length < 64 ∧ ∀ p ∈ ps, (0 ≤ p.1 ∧ p.1 < 64) ∧ 0 ≤ p.2 ∧ p.2 < 64) ∧ ∀ qs : List Pi, qs.Pairwise PiLt → (∀ k, k ∈ qs ↔ k ∈ ps) → Q (.val (.own ((qs.map piD).map DV.sh)))
    | none => False)
  | _ => False
end
/-! ### a, b, .. = a list -/
section
variable {C : Zn} {X : Cx} {pos : Pos}
def gTL (n : Nat) (gs : List D → DE → (DE → Prop) → Prop) : DP := fun d δ Q => match d with
  | .list ds => ds.length = n ∧ gs ds δ Q
  | _ => False
end
end DL
set_option Elab.async false
set_option linter.all false
set_option maxRecDepth 100000
set_option maxHeartbeats 1000000
namespace DL
open PySem PySem.Spec L2
open PyProof.Rows hiding St
/-! ### the newer readings, computed -/
theorem shs_inj : ∀ {a b : List (Key × D)}, shs a = shs b → a = b
  | [], [], _ => rfl
  | [], _ :: _, h => by cases h
  | _ :: _, [], h => by cases h
  | (k, d) :: a, (j, e) :: b, h => by
    have h' : (k, DV.sh d) :: shs a = (j, DV.sh e) :: shs b := h
    injection h' with h1 h2
    injection h1 with h3 h4
    injection h4 with h5
    rw [h3, h5, shs_inj h2]
def onDO (o : Option (Option DV)) (k : List (Key × D) → Prop) : Prop := ∃ ds, o = some (some (.dic (shs ds))) ∧ k ds
section
variable {δ : DE} {E : DEnds} {Q : R → Prop}
@[simp] theorem onDic_e (i : Nat) (k : List (Key × D) → Prop) : onDic δ i k = onDO δ[i]? k := rfl
@[simp] theorem onDO_e (ds : List (Key × D)) (k : List (Key × D) → Prop) : onDO (some (some (.dic (shs ds)))) k = k ds := by
  apply propext
  constructor
  · rintro ⟨es, e, q⟩
    injection e with e
    injection e with e
    injection e with e
    rw [shs_inj e]; exact q
  · exact fun q => ⟨ds, rfl, q⟩
@[simp] theorem dDic0_e : dDic0 δ Q = Q (.val (.dic (shs []))) := rfl
@[simp] theorem dSetK_e (i : Nat) (tx te : DT) : dSetK i tx te E δ = te δ fun r => match r.fd with
  | some d => onDic δ i fun ds => ds.length < sizeLine ∧ tx δ fun y => onKey1 y fun k => E.nx (δ.set i (some (.dic (shs (putD ds k d)))))
  | none => False := rfl
@[simp] theorem dAsg_e (te : DT) (g : DP) : dAsg te g E δ = te δ fun r => match r.fd with
  | some d => g d δ E.nx
  | none => False := rfl
@[simp] theorem gTL_e {Q : DE → Prop} (n : Nat) (gs : List D → DE → (DE → Prop) → Prop) (ds : List D) : gTL n gs (.list ds) δ Q = (ds.length = n ∧ gs ds δ Q) := rfl
@[simp] theorem fMul_rep {d : D} {k : Nat} (h : 2 ≤ k ∧ k ≤ 1000 := by decide) : fMul (.val (.sh (.tuple [d]))) (.val (.sh (.int (k : Nat)))) Q = Q (.val (.sh (.tuple (List.replicate k d)))) := by
  unfold fMul
  simp
  all_goals exact fun _ => ⟨by omega, by omega⟩
@[simp] theorem onKey1_i (i : Int) (k : Key → Prop) : onKey1 (.val (.sh (.int i))) k = k (.inl i) := rfl
@[simp] theorem onKey1_s (i : Str) (k : Key → Prop) : onKey1 (.val (.sh (.str i))) k = k (.inr i) := rfl
@[simp] theorem dSortK_e (i : Nat) : dSortK i δ Q = onDic δ i fun ds => ∃ ks : List Int, ds.map (·.1) = ks.map Sum.inl ∧ ks.length < 64 ∧ ∀ ys : List Int, ys.Perm ks → ys.Pairwise (· ≤ ·) → Q (.val (.own (ys.map fun n => .sh (.int n)))) := rfl
@[simp] theorem dGetK_e (i : Nat) (te tf : DT) : dGetK i te tf δ Q = onDic δ i fun ds => te δ fun y => onKey1 y fun k => tf δ fun z => match z.fd with
  | some d => Q (.val (.sh ((valD ds k).getD d)))
  | none => False := rfl
@[simp] theorem dInK_e (i : Nat) (te : DT) (b : Bool) : dInK i te b δ Q = onDic δ i fun ds => te δ fun y => onKey1 y fun k => Q (.val (.sh (.bool (hasD ds k == b)))) := rfl
@[simp] theorem fDict_o (es : List D) : fDict (.val (.own (es.map DV.sh))) Q = match pairsOf es with
  | some ds => Q (.val (.dic (shs (mergeD [] ds))))
  | none => False := by unfold fDict; rw [fd_own]; all_goals (dsimp only; generalize pairsOf es = o; cases o <;> rfl)
@[simp] theorem dSortSetI_e (te : DT) : dSortSetI te δ Q = te δ fun r => match r.sup with
  | some (.tuple ds) => (match numsOf ds with
    | some ns => ns.length ≤ 60 ∧ ∀ ms : List Int, ms.Pairwise (· < ·) → (∀ k, k ∈ ms ↔ k ∈ ns) → Q (.val (.own ((ms.map PyData.int).map DV.sh)))
    | none => False)
  | _ => False := rfl
@[simp] theorem dSortSetP_e (te : DT) : dSortSetP te δ Q = te δ fun r => match r.fd with
  | some (.list ds) => (match pisOf ds with
    | some ps => (ps.length < 64 ∧ ∀ p ∈ ps, (0 ≤ p.1 ∧ p.1 < 64) ∧ 0 ≤ p.2 ∧ p.2 < 64) ∧ ∀ qs : List Pi, qs.Pairwise PiLt → (∀ k, k ∈ qs ↔ k ∈ ps) → Q (.val (.own ((qs.map piD).map DV.sh)))
    | none => False)
  | _ => False := rfl
@[simp] theorem dEnum_t {Q : List D → Prop} (k : Bool) (te : DT) : dEnum k te δ Q = te δ fun x => match (if k then x.fd else x.sup) with
  | some (.tuple ds) => Q (enumD ds)
  | some (.list ds) => Q (enumD ds)
  | _ => False := rfl
@[simp] theorem dZipM_e {Q : List D → Prop} (t : DL') : dZipM t δ Q = t δ fun rs => match rs with
  | [x, y] => (match x.fd, y.fd with
    | some (.tuple ds), some (.list es) => Q (zipD ds es)
    | _, _ => False)
  | _ => False := rfl
@[simp] theorem dRangeDn_e {Q : List D → Prop} (ta tb : DT) : dRangeDn ta tb δ Q = ta δ fun x => onI x fun i => tb δ fun y => onI y fun j => small i ∧ small j ∧ Q (rangeDn i j) := rfl
end
end DL
set_option Elab.async false
set_option linter.all false
set_option maxRecDepth 100000
set_option maxHeartbeats 1000000
namespace HL
open PySem PySem.Spec L2 DL
open PyProof.Rows hiding St
/-! ### lots by what they hold -/
def fl (n : Nat) (p : Nat → Bool) : List Nat := (List.range n).filter p
theorem mem_fl {n : Nat} {p : Nat → Bool} {x : Nat} : x ∈ fl n p ↔ x < n ∧ p x = true := by unfold fl; rw [List.mem_filter, List.mem_range]
theorem lot_fl (n : Nat) (p : Nat → Bool) : Lot n (fl n p) := ⟨(range_sorted n).filter _, fun x m => (mem_fl.mp m).1⟩
theorem fl_congr {n : Nat} {p q : Nat → Bool} (h : ∀ x, x < n → p x = q x) : fl n p = fl n q := by
  unfold fl
  exact List.filter_congr fun x m => h x (List.mem_range.mp m)
theorem fl_of {n : Nat} {xs : List Nat} {p : Nat → Bool} (s : xs.Pairwise (· < ·)) (h : ∀ x, x ∈ xs ↔ x < n ∧ p x = true) : xs = fl n p := nat_strict s (lot_fl n p).st fun x => by rw [h, mem_fl]
theorem fl_len (n : Nat) (p : Nat → Bool) : (fl n p).length ≤ n := (lot_fl n p).len
theorem fl_inj {n : Nat} {p q : Nat → Bool} (h : fl n p = fl n q) : ∀ x, x < n → p x = q x := fun x hx => by
  have : x ∈ fl n p ↔ x ∈ fl n q := by rw [h]
  rw [mem_fl, mem_fl] at this
  cases e1 : p x <;> cases e2 : q x <;> simp [hx, e1, e2] at this ⊢
/-- masks told bit by bit -/
theorem fl_bits {n m : Nat} {p : Nat → Bool} (h : m < 1024) (b : ∀ i, m.testBit i = true ↔ i < n ∧ p i = true) : bitsOf m = fl n p := fl_of (bits_sorted m) fun x => by rw [mem_bits h, b]
/-! ### deeds -/
abbrev Deed := Bool × Nat
def wordD (b : Bool) : D := .str (if b = true then "pour" else "open")
def deedD (d : Deed) : D := .tuple [wordD d.1, .int d.2]
def scriptD (s : List Deed) : D := .tuple (s.map deedD)
def SOk (n : Nat) (s : List Deed) : Prop := (∀ d ∈ s, d.2 < n) ∧ s.length ≤ 1000
theorem word_ne : ¬ (("open" : Str) = "pour") := by decide
theorem word_ne' : ¬ (("pour" : Str) = "open") := by decide
@[simp] theorem word_pour (b : Bool) : rEqv (wordD b) (.str "pour") = b := by cases b <;> simp [wordD, word_ne]
@[simp] theorem word_open (b : Bool) : rEqv (wordD b) (.str "open") = !b := by cases b <;> simp [wordD, word_ne']
@[simp] theorem word_dep (b : Bool) (x : Str) : sDep (wordD b) (.str x) ↔ True := by unfold wordD; simp
@[simp] theorem word_ty (b : Bool) : tyIs "str" (wordD b) = true := rfl
@[simp] theorem word_nl (b : Bool) : noLst (wordD b) = true := by unfold wordD; rw [noLst]; all_goals simp
@[simp] theorem noLst_deed (d : Deed) : noLst (deedD d) = true := by unfold deedD; simp
theorem noLsts_deeds (s : List Deed) : noLsts (s.map deedD) = true := noLsts_all fun d m => by
  obtain ⟨x, _, rfl⟩ := List.mem_map.mp m
  exact noLst_deed x
@[simp] theorem noLst_lotD (xs : List Nat) : noLst (lotD xs) = true := by
  unfold lotD
  rw [noLst_tuple]
  exact noLsts_all fun d m => by
    obtain ⟨i, _, rfl⟩ := List.mem_map.mp m
    exact noLst_int _
@[simp] theorem noLst_script (s : List Deed) : noLst (scriptD s) = true := by unfold scriptD; rw [noLst_tuple]; exact noLsts_deeds s
/-! ### what a script does -/
def hits (ps : List Pr) (d : Deed) (y : Nat) : Bool := if d.1 = true then le ps y d.2 else le ps d.2 y
def lastD (ps : List Pr) (s : List Deed) (y : Nat) : Option Bool := s.foldl (fun o d => if hits ps d y = true then some d.1 else o) none
def ranP (ps : List Pr) (p : Nat → Bool) (s : List Deed) (y : Nat) : Bool := s.foldl (fun o d => if hits ps d y = true then d.1 else o) (p y)
theorem lastD_snoc (ps : List Pr) (s : List Deed) (d : Deed) (y : Nat) : lastD ps (s ++ [d]) y = if hits ps d y = true then some d.1 else lastD ps s y := by unfold lastD; rw [List.foldl_append]; rfl
theorem ranP_snoc (ps : List Pr) (p : Nat → Bool) (s : List Deed) (d : Deed) (y : Nat) : ranP ps p (s ++ [d]) y = if hits ps d y = true then d.1 else ranP ps p s y := by unfold ranP; rw [List.foldl_append]; rfl
theorem snoc_ind {α : Type} {P : List α → Prop} (h0 : P []) (h1 : ∀ s d, P s → P (s ++ [d])) (s : List α) : P s := by
  have : ∀ r : List α, P r.reverse := fun r => by
    induction r with
    | nil => exact h0
    | cons d r ih => rw [List.reverse_cons]; exact h1 _ _ ih
  have := this s.reverse
  rwa [List.reverse_reverse] at this
theorem ran_last (ps : List Pr) (p : Nat → Bool) (s : List Deed) (y : Nat) : ranP ps p s y = (lastD ps s y).getD (p y) := by
  induction s using snoc_ind with
  | h0 => rfl
  | h1 s d ih =>
    rw [ranP_snoc, lastD_snoc, ih]
    split <;> rfl
/-- p holds with a terrace all below it; .. all above it -/
def Dn (n : Nat) (ps : List Pr) (p : Nat → Bool) : Prop := ∀ a b, a < n → b < n → le ps a b = true → p b = true → p a = true
def Up (n : Nat) (ps : List Pr) (p : Nat → Bool) : Prop := ∀ a b, a < n → b < n → le ps a b = true → p a = true → p b = true
theorem le_refl' (ps : List Pr) (a : Nat) : le ps a a = true := by unfold le; simp
theorem Hill.letr {n : Nat} {ps : List Pr} (h : Hill n ps) {a b c : Nat} (h1 : le ps a b = true) (h2 : le ps b c = true) : le ps a c = true := by
  rw [le_iff] at h1 h2 ⊢
  rcases h1 with rfl | h1
  · exact h2
  · rcases h2 with rfl | h2
    · exact .inr h1
    · by_cases e : a = c
      · exact .inl e
      · exact .inr (h.tr a b c h1 h2 e)
theorem last_dn {n : Nat} {ps : List Pr} (h : Hill n ps) (s : List Deed) : Dn n ps fun y => lastD ps s y == some true := by
  intro a b ha hb l
  induction s using snoc_ind with
  | h0 => simp [lastD]
  | h1 s d ih =>
    simp only [lastD_snoc]
    obtain ⟨w, x⟩ := d
    cases w with
    | true =>
      by_cases hb' : hits ps (true, x) b = true
      · have : hits ps (true, x) a = true := by
          unfold hits at hb' ⊢
          simp at hb' ⊢
          exact h.letr l hb'
        simp [this]
      · simp only [hb']
        intro z
        split
        · simp
        · exact ih z
    | false =>
      by_cases hb' : hits ps (false, x) b = true
      · simp [hb']
      · simp only [hb']
        intro z
        have : ¬ hits ps (false, x) a = true := fun q => by
          unfold hits at q hb'
          simp at q hb'
          exact absurd (h.letr q l) (by simp [hb'])
        simp only [this]
        exact ih z
theorem last_up {n : Nat} {ps : List Pr} (h : Hill n ps) (s : List Deed) : Up n ps fun y => lastD ps s y == some false := by
  intro a b ha hb l
  induction s using snoc_ind with
  | h0 => simp [lastD]
  | h1 s d ih =>
    simp only [lastD_snoc]
    obtain ⟨w, x⟩ := d
    cases w with
    | false =>
      by_cases hb' : hits ps (false, x) a = true
      · have : hits ps (false, x) b = true := by
          unfold hits at hb' ⊢
          simp at hb' ⊢
          exact h.letr hb' l
        simp [this]
      · simp only [hb']
        intro z
        split
        · simp
        · exact ih z
    | true =>
      by_cases hb' : hits ps (true, x) a = true
      · simp [hb']
      · simp only [hb']
        intro z
        have : ¬ hits ps (true, x) b = true := fun q => by
          unfold hits at q hb'
          simp at q hb'
          exact absurd (h.letr l q) (by simp [hb'])
        simp only [this]
        exact ih z
theorem ran_dn {n : Nat} {ps : List Pr} (h : Hill n ps) {p : Nat → Bool} (hp : Dn n ps p) (s : List Deed) : Dn n ps (ranP ps p s) := by
  intro a b ha hb l z
  rw [ran_last] at z ⊢
  cases e : lastD ps s b with
  | some w =>
    rw [e] at z
    have z : w = true := z
    subst z
    have := last_dn h s a b ha hb l (by simp [e])
    have : lastD ps s a = some true := by simpa using this
    rw [this]; rfl
  | none =>
    rw [e] at z
    have z : p b = true := z
    cases e2 : lastD ps s a with
    | none => exact hp a b ha hb l z
    | some w =>
      cases w with
      | true => rfl
      | false =>
        have := last_up h s a b ha hb l (by simp [e2])
        simp [e] at this
/-- a couple, by what is wet and dry -/
structure Cpl where
  wet : Nat → Bool
  dry : Nat → Bool
def coupD (n : Nat) (c : Cpl) : D := .tuple [lotD (fl n c.wet), lotD (fl n c.dry)]
def cplOf (ps : List Pr) (s : List Deed) : Cpl := ⟨fun y => lastD ps s y == some true, fun y => lastD ps s y == some false⟩
@[simp] theorem noLst_coup (n : Nat) (c : Cpl) : noLst (coupD n c) = true := by unfold coupD; simp
end HL
set_option Elab.async false
set_option linter.all false
set_option maxRecDepth 100000
set_option maxHeartbeats 1000000
namespace HL
open PySem PySem.Spec L2 DL
open PyProof.Rows hiding St
/-! ### masks without others -/
theorem sub_and : ∀ (m a b : Nat), a ≤ m → a - (a &&& b) = a ^^^ (a &&& b) ∧ (a &&& b) ≤ a
  | 0, a, b, h => by
    obtain rfl : a = 0 := by omega
    simp
  | m + 1, a, b, h => by
    by_cases z : a = 0
    · subst z; simp
    · obtain ⟨i1, i2⟩ := sub_and m (a / 2) (b / 2) (by omega)
      have d1 : (a &&& b) / 2 = a / 2 &&& b / 2 := Nat.and_div_two
      have d2 : (a ^^^ (a &&& b)) / 2 = a / 2 ^^^ (a &&& b) / 2 := Nat.xor_div_two
      have m1 : (a &&& b) % 2 = 1 ↔ a % 2 = 1 ∧ b % 2 = 1 := Nat.and_mod_two_eq_one
      have m2 : (a ^^^ (a &&& b)) % 2 = 1 ↔ ¬ (a % 2 = 1 ↔ (a &&& b) % 2 = 1) := Nat.xor_mod_two_eq_one
      rw [d1] at d2
      generalize a &&& b = c at *
      generalize a ^^^ c = d at *
      by_cases e1 : a % 2 = 1 <;> by_cases e2 : c % 2 = 1 <;> simp [e1, e2] at m1 m2 <;> omega
theorem bandnot_nat (a b : Nat) : Builtin.bitAnd (a : Int) (Builtin.bitNot (b : Int)) = ((a ^^^ (a &&& b) : Nat) : Int) := by
  rw [bitAnd_not, band_nat]
  obtain ⟨h1, h2⟩ := sub_and a a b (Nat.le_refl _)
  rw [← h1]
  omega
/-- the mask of the lot that p tells -/
def Msk (n : Nat) (p : Nat → Bool) (m : Nat) : Prop := m < 1024 ∧ ∀ y, m.testBit y = true ↔ y < n ∧ p y = true
theorem Msk.or {n a b : Nat} {p q : Nat → Bool} (h : Msk n p a) (k : Msk n q b) : Msk n (fun y => p y || q y) (a ||| b) := ⟨or_lt h.1 k.1, fun y => by
  rw [Nat.testBit_or, Bool.or_eq_true, h.2, k.2, Bool.or_eq_true]
  constructor
  · rintro (⟨z, w⟩ | ⟨z, w⟩)
    · exact ⟨z, .inl w⟩
    · exact ⟨z, .inr w⟩
  · rintro ⟨z, w | w⟩
    · exact .inl ⟨z, w⟩
    · exact .inr ⟨z, w⟩⟩
theorem Msk.less {n a b : Nat} {p q : Nat → Bool} (h : Msk n p a) (k : Msk n q b) : Msk n (fun y => p y && !q y) (a ^^^ (a &&& b)) := by
  refine ⟨?_, fun y => ?_⟩
  · obtain ⟨h1, h2⟩ := sub_and a a b (Nat.le_refl _)
    have := h.1
    omega
  · have e : (a ^^^ (a &&& b)).testBit y = (a.testBit y && !b.testBit y) := by
      rw [Nat.testBit_xor, Nat.testBit_and]
      cases a.testBit y <;> cases b.testBit y <;> rfl
    rw [e, Bool.and_eq_true, Bool.and_eq_true, h.2]
    have k2 := k.2 y
    cases e2 : b.testBit y with
    | true =>
      have := k2.mp e2
      simp [this.2]
    | false =>
      simp
      intro z w
      cases e3 : q y with
      | false => rfl
      | true => rw [k2.mpr ⟨z, e3⟩] at e2; cases e2
theorem Msk.and {n a b : Nat} {p q : Nat → Bool} (h : Msk n p a) (k : Msk n q b) : Msk n (fun y => p y && q y) (a &&& b) := ⟨Nat.lt_of_le_of_lt Nat.and_le_left h.1, fun y => by
  rw [Nat.testBit_and, Bool.and_eq_true, h.2, k.2, Bool.and_eq_true]
  constructor
  · rintro ⟨⟨z, w⟩, _, v⟩; exact ⟨z, w, v⟩
  · rintro ⟨z, w, v⟩; exact ⟨⟨z, w⟩, z, v⟩⟩
theorem Msk.congr {n a : Nat} {p q : Nat → Bool} (h : Msk n p a) (e : ∀ x, x < n → p x = q x) : Msk n q a := ⟨h.1, fun y => by
  rw [h.2]
  constructor
  · rintro ⟨z, w⟩; exact ⟨z, e y z ▸ w⟩
  · rintro ⟨z, w⟩; exact ⟨z, (e y z).symm ▸ w⟩⟩
theorem Msk.bits {n a : Nat} {p : Nat → Bool} (h : Msk n p a) : bitsOf a = fl n p := fl_bits h.1 h.2
theorem Msk.uniq {n a b : Nat} {p q : Nat → Bool} (h : Msk n p a) (k : Msk n q b) : a = b ↔ ∀ x, x < n → p x = q x := by
  constructor
  · rintro rfl x hx
    have := (h.2 x).symm.trans (k.2 x)
    cases e1 : p x <;> cases e2 : q x <;> simp [hx, e1, e2] at this ⊢
  · intro e
    refine Nat.eq_of_testBit_eq fun i => ?_
    have h' := h.congr e
    rw [Bool.eq_iff_iff, h'.2, k.2]
/-! ### deeds and scripts of the program -/
theorem word_in (b : Bool) : rInD (wordD b) (.tuple [.str "pour", .str "open"]) = true := by cases b <;> decide
theorem word_sin (b : Bool) : sIn (wordD b) (.tuple [.str "pour", .str "open"]) := by
  cases b <;> (unfold wordD sIn; simp; try decide)
def g_is_deed_value : Sg := pr (fun x : Nat × Deed => [.sh (.int x.1), .sh (deedD x.2)]) (fun x => x.2.2 < x.1) (fun _ dv => dv = .sh (.bool true))
def n_is_deed_value : List Str := ["n", "thing"]
def t_is_deed_value : DS := dSeq2 (dIfS (dOr (dNot (dTest (dUn (fIsi "tuple") (dVar 1)))) (dOr (dTest (dOp (fRel sDep fun d e => !rEqv d e) (dCB (on1 fLen) (dCons (dVar 1) (dNil))) (dC (.int 2)))) (dNot (dTest (dUn (fIsi "str") (dOpR fIx (dVar 1) (dC (.int 0)))))))) (dRet (dC (.bool false))) (dNext)) (dRet (dAndV (dOp (fRel sIn rInD) (dOpR fIx (dVar 1) (dC (.int 0))) (dC (.tuple [.str "pour", .str "open"]))) (dCall g_is_between (dCons (dOpR fIx (dVar 1) (dC (.int 1))) (dCons (dC (.int 0)) (dCons (dOp fSub (dVar 0) (dC (.int 1))) (dNil)))))))
theorem p_is_deed_value (ds : List DV) (Q : DV → Prop) (h : g_is_deed_value ds Q) : t_is_deed_value { nx := fun _ => Q (.sh .none), rt := Q } (startD n_is_deed_value ds) := by
  obtain ⟨⟨n, w, x⟩, rfl, hx, q⟩ := h
  simp at hx
  simp [t_is_deed_value, startD, n_is_deed_value, tyIs, PyData.isTuple, deedD]
  refine ⟨word_sin w, ?_⟩
  rw [word_in]
  simp
  refine pr_call ((x : Int), 0, (n : Int) - 1) rfl trivial ?_
  rintro dv rfl
  have e : decide ((0 : Int) ≤ x ∧ (x : Int) ≤ n - 1) = true := by simp; omega
  simp only [e]
  exact q _ rfl
end HL
set_option Elab.async false
set_option linter.all false
set_option maxRecDepth 100000
set_option maxHeartbeats 1000000
namespace HL
open PySem PySem.Spec L2 DL
open PyProof.Rows hiding St
def g_is_script_value : Sg := pr (fun x : Nat × List Deed => [.sh (.int x.1), .sh (scriptD x.2)]) (fun x => SOk x.1 x.2) (fun _ dv => dv = .sh (.bool true))
def n_is_script_value : List Str := ["n", "thing", "deed"]
def t_is_script_value : DS := dRet (dAndV (dUn (fIsi "tuple") (dVar 1)) (dCB (on1 (fBools fun bs => bs.all id)) (dCons (dLc (dSeqQ (dVar 1)) (gN 2) (dYes) (dCall g_is_deed_value (dCons (dVar 0) (dCons (dVar 2) (dNil)))) [2]) (dNil))))
theorem p_is_script_value (ds : List DV) (Q : DV → Prop) (h : g_is_script_value ds Q) : t_is_script_value { nx := fun _ => Q (.sh .none), rt := Q } (startD n_is_script_value ds) := by
  obtain ⟨⟨n, s⟩, rfl, ⟨hs, hl⟩, q⟩ := h
  have hs : ∀ d ∈ s, d.2 < n := hs
  have hl : s.length ≤ 1000 := hl
  have hz : (1000 : Nat) ≤ sizeLine := by decide
  simp [t_is_script_value, startD, n_is_script_value, tyIs, PyData.isTuple, scriptD]
  intro _
  refine lcRun_same (.sh (.bool true)) _ (by simp; omega) (fun x m P hP => ?_) (all_true _ (q _ rfl))
  obtain ⟨d, hd, rfl⟩ := List.mem_map.mp m
  simp
  refine pr_call (n, d) rfl (hs d hd) ?_
  rintro dv rfl
  exact hP
def g_need_script : Sg := pr (fun x : Nat × List Deed => [.sh (.int x.1), .sh (scriptD x.2)]) (fun x => SOk x.1 x.2) (fun _ dv => dv = .sh .none)
def n_need_script : List Str := ["n", "script"]
def t_need_script : DS := dIfS (dNot (dTest (dCall g_is_script_value (dCons (dVar 0) (dCons (dVar 1) (dNil)))))) (dNever) (dNext)
theorem p_need_script (ds : List DV) (Q : DV → Prop) (h : g_need_script ds Q) : t_need_script { nx := fun _ => Q (.sh .none), rt := Q } (startD n_need_script ds) := by
  obtain ⟨⟨n, s⟩, rfl, hs, q⟩ := h
  simp [t_need_script, startD, n_need_script]
  refine pr_call (n, s) rfl hs ?_
  rintro dv rfl
  simp
  exact q _ rfl
def g_reaches : Sg := pr (fun x : Nat × List Pr × List Deed => [.sh (bookD x.1 x.2.1), .sh (scriptD x.2.2)]) (fun x => Good x.1 x.2.1 ∧ SOk x.1 x.2.2) (fun x dv => ∃ mk : Deed → Nat, dv = ownL (x.2.2.map fun d => .int (mk d : Nat)) ∧ ∀ d ∈ x.2.2, Msk x.1 (hits x.2.1 d) (mk d))
def n_reaches : List Str := ["hill", "script", "below", "above", "word", "x"]
def t_reaches : DS := dSeq2 (dUnp [2, 3] (dCons (dCall g_lows (dCons (dVar 0) (dNil))) (dCons (dCall g_highs (dCons (dVar 0) (dNil))) (dNil)))) (dRet (dLc (dSeqQ (dVar 1)) (gT 2 (gsCons (gN 4) (gsCons (gN 5) (gsNil)))) (dYes) (dIf (dTest (dOp (fRel sDep rEqv) (dVar 4) (dC (.str "pour")))) (dOpR fIx (dVar 2) (dVar 5)) (dOpR fIx (dVar 3) (dVar 5))) [4, 5]))
theorem msk_low {n m x : Nat} {ps : List Pr} (G : Good n ps) (hx : x < n) (h : ∀ a, m.testBit a = true ↔ a = x ∨ (a, x) ∈ ps) : Msk n (fun y => le ps y x) m := by
  have key : ∀ y, m.testBit y = true ↔ y < n ∧ le ps y x = true := fun y => by
    rw [h, le_iff]
    constructor
    · rintro (rfl | z)
      · exact ⟨hx, .inl rfl⟩
      · exact ⟨(G.ok _ z).1, .inr z⟩
    · exact fun z => z.2
  refine ⟨Nat.lt_of_lt_of_le (Nat.lt_pow_two_of_testBit m (n := 10) fun i hi => ?_) (by decide), key⟩
  cases e : m.testBit i with
  | false => rfl
  | true =>
    have := ((key i).mp e).1
    have := G.hi
    omega
theorem msk_high {n m x : Nat} {ps : List Pr} (G : Good n ps) (hx : x < n) (h : ∀ a, m.testBit a = true ↔ a = x ∨ (x, a) ∈ ps) : Msk n (fun y => le ps x y) m := by
  have key : ∀ y, m.testBit y = true ↔ y < n ∧ le ps x y = true := fun y => by
    rw [h, le_iff]
    constructor
    · rintro (rfl | z)
      · exact ⟨hx, .inl rfl⟩
      · exact ⟨(G.ok _ z).2.1, .inr z⟩
    · rintro ⟨_, z | z⟩
      · exact .inl z.symm
      · exact .inr z
  refine ⟨Nat.lt_of_lt_of_le (Nat.lt_pow_two_of_testBit m (n := 10) fun i hi => ?_) (by decide), key⟩
  cases e : m.testBit i with
  | false => rfl
  | true =>
    have := ((key i).mp e).1
    have := G.hi
    omega
theorem p_reaches (ds : List DV) (Q : DV → Prop) (h : g_reaches ds Q) : t_reaches { nx := fun _ => Q (.sh .none), rt := Q } (startD n_reaches ds) := by
  obtain ⟨⟨n, ps, s⟩, rfl, ⟨G, hs, hl⟩, q⟩ := h
  have hs : ∀ d ∈ s, d.2 < n := hs
  have hl : s.length ≤ 1000 := hl
  have hz : (1000 : Nat) ≤ sizeLine := by decide
  simp [t_reaches, startD, n_reaches]
  refine pr_call (n, ps) rfl G ?_
  rintro dv ⟨f, rfl, hf⟩
  simp
  refine pr_call (n, ps) rfl G ?_
  rintro dv ⟨g, rfl, hg⟩
  simp [scriptD]
  intro _
  refine lcRun_map deedD (fun d => .sh (.int ((if d.1 = true then f d.2 else g d.2 : Nat)))) _ (by omega) (fun d m P hP => ?_) ?_
  · obtain ⟨w, x⟩ := d
    have hx : x < n := hs (w, x) m
    simp [deedD]
    cases w with
    | true =>
      simp [natsD_at hx] at hP ⊢
      exact hP
    | false =>
      simp [natsD_at hx] at hP ⊢
      exact hP
  · refine q _ ⟨fun d => if d.1 = true then f d.2 else g d.2, by unfold ownL; rw [List.map_map]; rfl, fun d m => ?_⟩
    obtain ⟨w, x⟩ := d
    have hx : x < n := hs (w, x) m
    cases w with
    | true => exact msk_low G hx fun a => hf x a hx
    | false => exact msk_high G hx fun a => hg x a hx
end HL
set_option Elab.async false
set_option linter.all false
set_option maxRecDepth 100000
set_option maxHeartbeats 1000000
namespace HL
open PySem PySem.Spec L2 DL
open PyProof.Rows hiding St
theorem zipD_map {α : Type} (f g : α → D) : ∀ xs : List α, zipD (xs.map f) (xs.map g) = xs.map fun x => .tuple [f x, g x]
  | [] => rfl
  | x :: xs => by rw [List.map_cons, List.map_cons, zipD, zipD_map f g xs]; rfl
theorem take_one {α : Type} {s : List α} {i : Nat} {d : α} (e : s[i]? = some d) : s.take (i + 1) = s.take i ++ [d] := by rw [List.take_add_one, e]; rfl
def g_done : Sg := pr (fun x : Nat × List Pr × (Nat → Bool) × Nat × List Deed => [.sh (bookD x.1 x.2.1), .sh (.int x.2.2.2.1), .sh (scriptD x.2.2.2.2)]) (fun x => Good x.1 x.2.1 ∧ Msk x.1 x.2.2.1 x.2.2.2.1 ∧ SOk x.1 x.2.2.2.2) (fun x dv => ∃ m : Nat, dv = .sh (.int m) ∧ Msk x.1 (ranP x.2.1 x.2.2.1 x.2.2.2.2) m)
def n_done : List Str := ["hill", "mask", "script", "deed", "reach"]
def t_done : DS := dSeq2 (dFor (dZipM (dCons (dVar 2) (dCons (dCall g_reaches (dCons (dVar 0) (dCons (dVar 2) (dNil)))) (dNil)))) (gT 2 (gsCons (gN 3) (gsCons (gN 4) (gsNil)))) (dSet 1 (dIf (dTest (dOp (fRel sDep rEqv) (dOpR fIx (dVar 3) (dC (.int 0))) (dC (.str "pour")))) (dOp fOr (dVar 1) (dVar 4)) (dOp fAnd (dVar 1) (dUn (fU Builtin.bitNot) (dVar 4)))))) (dRetV 1)
theorem p_done (ds : List DV) (Q : DV → Prop) (h : g_done ds Q) : t_done { nx := fun _ => Q (.sh .none), rt := Q } (startD n_done ds) := by
  obtain ⟨⟨n, ps, p, m, s⟩, rfl, ⟨G, hm, hs⟩, q⟩ := h
  simp [t_done, startD, n_done]
  refine pr_call (n, ps, s) rfl ⟨G, hs⟩ ?_
  rintro dv ⟨mk, rfl, hk⟩
  have hk : ∀ d ∈ s, Msk n (hits ps d) (mk d) := hk
  simp [scriptD, ownL, -List.map_map]
  rw [zipD_map]
  refine forRun_ix (fun d => .tuple [deedD d, .int (mk d : Nat)]) s (fun i δ => ∃ (a : Nat) (x y : Option DV), δ = [some (.sh (bookD n ps)), some (.sh (.int a)), some (.sh (.tuple (s.map deedD))), x, y] ∧ Msk n (ranP ps p (s.take i)) a) (fun i d δ e hI N hN => ?_) (fun δ hI => ?_) ⟨m, _, _, rfl, hm⟩
  · obtain ⟨a, x, y, rfl, ha⟩ := hI
    have hd := hk d (List.mem_of_getElem? e)
    obtain ⟨w, z⟩ := d
    simp [deedD]
    cases w with
    | true =>
      simp
      rw [bor_nat]
      refine hN _ ⟨_, _, _, rfl, ?_⟩
      rw [take_one e]
      refine (ha.or hd).congr fun v hv => ?_
      rw [ranP_snoc]
      cases hits ps (true, z) v <;> simp
    | false =>
      simp
      rw [bandnot_nat]
      refine hN _ ⟨_, _, _, rfl, ?_⟩
      rw [take_one e]
      refine (ha.less hd).congr fun v hv => ?_
      rw [ranP_snoc]
      cases hits ps (false, z) v <;> simp
  · obtain ⟨a, x, y, rfl, ha⟩ := hI
    rw [List.take_length] at ha
    simp
    exact q _ ⟨a, rfl, ha⟩
def g_couple_masks : Sg := pr (fun x : Nat × List Pr × List Deed => [.sh (bookD x.1 x.2.1), .sh (scriptD x.2.2)]) (fun x => Good x.1 x.2.1 ∧ SOk x.1 x.2.2) (fun x dv => ∃ a b : Nat, dv = .sh (.tuple [.int a, .int b]) ∧ Msk x.1 (cplOf x.2.1 x.2.2).wet a ∧ Msk x.1 (cplOf x.2.1 x.2.2).dry b)
def n_couple_masks : List Str := ["hill", "script", "wet", "dry", "deed", "reach"]
def t_couple_masks : DS := dSeq2 (dAsg (dTup (dCons (dC (.int 0)) (dCons (dC (.int 0)) (dNil)))) (gT 2 (gsCons (gN 2) (gsCons (gN 3) (gsNil))))) (dSeq2 (dFor (dZipM (dCons (dVar 1) (dCons (dCall g_reaches (dCons (dVar 0) (dCons (dVar 1) (dNil)))) (dNil)))) (gT 2 (gsCons (gN 4) (gsCons (gN 5) (gsNil)))) (dIfS (dTest (dOp (fRel sDep rEqv) (dOpR fIx (dVar 4) (dC (.int 0))) (dC (.str "pour")))) (dPar 2 3 (dCons (dOp fOr (dVar 2) (dVar 5)) (dCons (dOp fAnd (dVar 3) (dUn (fU Builtin.bitNot) (dVar 5))) (dNil)))) (dPar 2 3 (dCons (dOp fAnd (dVar 2) (dUn (fU Builtin.bitNot) (dVar 5))) (dCons (dOp fOr (dVar 3) (dVar 5)) (dNil)))))) (dRet (dTup (dCons (dVar 2) (dCons (dVar 3) (dNil))))))
theorem p_couple_masks (ds : List DV) (Q : DV → Prop) (h : g_couple_masks ds Q) : t_couple_masks { nx := fun _ => Q (.sh .none), rt := Q } (startD n_couple_masks ds) := by
  obtain ⟨⟨n, ps, s⟩, rfl, ⟨G, hs⟩, q⟩ := h
  simp [t_couple_masks, startD, n_couple_masks]
  refine pr_call (n, ps, s) rfl ⟨G, hs⟩ ?_
  rintro dv ⟨mk, rfl, hk⟩
  have hk : ∀ d ∈ s, Msk n (hits ps d) (mk d) := hk
  simp [scriptD, ownL, -List.map_map]
  rw [zipD_map]
  refine forRun_ix (fun d => .tuple [deedD d, .int (mk d : Nat)]) s (fun i δ => ∃ (a b : Nat) (x y : Option DV), δ = [some (.sh (bookD n ps)), some (.sh (.tuple (s.map deedD))), some (.sh (.int a)), some (.sh (.int b)), x, y] ∧ Msk n (cplOf ps (s.take i)).wet a ∧ Msk n (cplOf ps (s.take i)).dry b) (fun i d δ e hI N hN => ?_) (fun δ hI => ?_) ⟨0, 0, none, none, rfl, ⟨by omega, fun y => by simp [cplOf, lastD]⟩, ⟨by omega, fun y => by simp [cplOf, lastD]⟩⟩
  · obtain ⟨a, b, x, y, rfl, ha, hb⟩ := hI
    have hd := hk d (List.mem_of_getElem? e)
    obtain ⟨w, z⟩ := d
    simp [deedD]
    cases w with
    | true =>
      simp
      rw [bor_nat, bandnot_nat]
      refine hN _ ⟨_, _, _, _, rfl, ?_, ?_⟩
      · rw [take_one e]
        refine (ha.or hd).congr fun v hv => ?_
        simp only [cplOf]
        rw [lastD_snoc]
        cases hits ps (true, z) v <;> simp
      · rw [take_one e]
        refine (hb.less hd).congr fun v hv => ?_
        simp only [cplOf]
        rw [lastD_snoc]
        cases hits ps (true, z) v <;> simp
    | false =>
      simp
      rw [bor_nat, bandnot_nat]
      refine hN _ ⟨_, _, _, _, rfl, ?_, ?_⟩
      · rw [take_one e]
        refine (ha.less hd).congr fun v hv => ?_
        simp only [cplOf]
        rw [lastD_snoc]
        cases hits ps (false, z) v <;> simp
      · rw [take_one e]
        refine (hb.or hd).congr fun v hv => ?_
        simp only [cplOf]
        rw [lastD_snoc]
        cases hits ps (false, z) v <;> simp
  · obtain ⟨a, b, x, y, rfl, ha, hb⟩ := hI
    rw [List.take_length] at ha hb
    simp
    exact q _ ⟨a, b, rfl, ha, hb⟩
def g_raw_couple : Sg := pr (fun x : Nat × List Pr × List Deed => [.sh (bookD x.1 x.2.1), .sh (scriptD x.2.2)]) (fun x => Good x.1 x.2.1 ∧ SOk x.1 x.2.2) (fun x dv => dv = .sh (coupD x.1 (cplOf x.2.1 x.2.2)))
def n_raw_couple : List Str := ["hill", "script", "wet", "dry"]
def t_raw_couple : DS := dSeq2 (dAsg (dCall g_couple_masks (dCons (dVar 0) (dCons (dVar 1) (dNil)))) (gT 2 (gsCons (gN 2) (gsCons (gN 3) (gsNil))))) (dRet (dTup (dCons (dCall g_lot_of (dCons (dVar 2) (dNil))) (dCons (dCall g_lot_of (dCons (dVar 3) (dNil))) (dNil)))))
theorem p_raw_couple (ds : List DV) (Q : DV → Prop) (h : g_raw_couple ds Q) : t_raw_couple { nx := fun _ => Q (.sh .none), rt := Q } (startD n_raw_couple ds) := by
  obtain ⟨⟨n, ps, s⟩, rfl, ⟨G, hs⟩, q⟩ := h
  simp [t_raw_couple, startD, n_raw_couple]
  refine pr_call (n, ps, s) rfl ⟨G, hs⟩ ?_
  rintro dv ⟨a, b, rfl, ha, hb⟩
  simp
  refine pr_call a rfl ha.1 ?_
  rintro dv rfl
  refine pr_call b rfl hb.1 ?_
  rintro dv rfl
  simp
  refine q _ ?_
  rw [ha.bits, hb.bits]
  rfl
def g_couple_of : Sg := pr (fun x : Nat × List Pr × List Deed => [.sh (bookD x.1 x.2.1), .sh (scriptD x.2.2)]) (fun x => Hill x.1 x.2.1 ∧ SOk x.1 x.2.2) (fun x dv => dv = .sh (coupD x.1 (cplOf x.2.1 x.2.2)))
def n_couple_of : List Str := ["hill", "script"]
def t_couple_of : DS := dSeq2 (dExpr (dCall g_need_hill (dCons (dVar 0) (dNil)))) (dSeq2 (dExpr (dCall g_need_script (dCons (dOpR fIx (dVar 0) (dC (.int 0))) (dCons (dVar 1) (dNil))))) (dRet (dCall g_raw_couple (dCons (dVar 0) (dCons (dVar 1) (dNil))))))
theorem p_couple_of (ds : List DV) (Q : DV → Prop) (h : g_couple_of ds Q) : t_couple_of { nx := fun _ => Q (.sh .none), rt := Q } (startD n_couple_of ds) := by
  obtain ⟨⟨n, ps, s⟩, rfl, ⟨G, hs⟩, q⟩ := h
  simp [t_couple_of, startD, n_couple_of]
  refine pr_call (n, ps) rfl G ?_
  rintro dv rfl
  simp [bookD]
  refine pr_call (n, s) rfl hs ?_
  rintro dv rfl
  refine pr_call (n, ps, s) rfl ⟨G.good, hs⟩ ?_
  rintro dv rfl
  exact q _ rfl
def g_reach_mask : Sg := pr (fun x : Nat × List Pr × Deed => [.sh (bookD x.1 x.2.1), .sh (deedD x.2.2)]) (fun x => Good x.1 x.2.1 ∧ x.2.2.2 < x.1) (fun x dv => ∃ m : Nat, dv = .sh (.int m) ∧ Msk x.1 (hits x.2.1 x.2.2) m)
def n_reach_mask : List Str := ["hill", "deed"]
def t_reach_mask : DS := dRet (dOpR fIx (dCall g_reaches (dCons (dVar 0) (dCons (dTup (dCons (dVar 1) (dNil))) (dNil)))) (dC (.int 0)))
theorem p_reach_mask (ds : List DV) (Q : DV → Prop) (h : g_reach_mask ds Q) : t_reach_mask { nx := fun _ => Q (.sh .none), rt := Q } (startD n_reach_mask ds) := by
  obtain ⟨⟨n, ps, d⟩, rfl, ⟨G, hd⟩, q⟩ := h
  have hd : d.2 < n := hd
  simp [t_reach_mask, startD, n_reach_mask]
  refine pr_call (n, ps, [d]) rfl ⟨G, by simpa using hd, by simp⟩ ?_
  rintro dv ⟨mk, rfl, hk⟩
  simp [ownL]
  exact q _ ⟨_, rfl, hk d (by simp)⟩
def g_reach : Sg := pr (fun x : Nat × List Pr × Deed => [.sh (bookD x.1 x.2.1), .sh (deedD x.2.2)]) (fun x => Hill x.1 x.2.1 ∧ x.2.2.2 < x.1) (fun x dv => dv = .sh (lotD (fl x.1 (hits x.2.1 x.2.2))))
def n_reach : List Str := ["hill", "deed"]
def t_reach : DS := dSeq2 (dExpr (dCall g_need_hill (dCons (dVar 0) (dNil)))) (dSeq2 (dIfS (dNot (dTest (dCall g_is_deed_value (dCons (dOpR fIx (dVar 0) (dC (.int 0))) (dCons (dVar 1) (dNil)))))) (dNever) (dNext)) (dRet (dCall g_lot_of (dCons (dCall g_reach_mask (dCons (dVar 0) (dCons (dVar 1) (dNil)))) (dNil)))))
theorem p_reach (ds : List DV) (Q : DV → Prop) (h : g_reach ds Q) : t_reach { nx := fun _ => Q (.sh .none), rt := Q } (startD n_reach ds) := by
  obtain ⟨⟨n, ps, d⟩, rfl, ⟨G, hd⟩, q⟩ := h
  simp [t_reach, startD, n_reach]
  refine pr_call (n, ps) rfl G ?_
  rintro dv rfl
  simp [bookD]
  refine pr_call (n, d) rfl hd ?_
  rintro dv rfl
  simp
  refine pr_call (n, ps, d) rfl ⟨G.good, hd⟩ ?_
  rintro dv ⟨m, rfl, hm⟩
  refine pr_call m rfl hm.1 ?_
  rintro dv rfl
  exact q _ (by rw [hm.bits])
end HL
set_option Elab.async false
set_option linter.all false
set_option maxRecDepth 100000
set_option maxHeartbeats 1000000
namespace HL
open PySem PySem.Spec L2 DL
open PyProof.Rows hiding St
theorem mask_call {n : Nat} {p : Nat → Bool} (hn : n ≤ 10) {Q : DV → Prop} (q : ∀ m : Nat, Msk n p m → Q (.sh (.int m))) : g_mask_of [.sh (lotD (fl n p))] Q :=
  pr_call (fl n p, false) rfl (fun x m => Nat.lt_of_lt_of_le (mem_fl.mp m).1 hn) fun dv ⟨m, e, h1, h2⟩ => by
    subst e
    exact q m ⟨h1, fun y => by rw [h2, mem_fl]⟩
theorem lot_call {n m : Nat} {p : Nat → Bool} (h : Msk n p m) {Q : DV → Prop} (q : Q (.sh (lotD (fl n p)))) : g_lot_of [.sh (.int m)] Q :=
  pr_call m rfl h.1 fun dv e => by
    subst e
    rw [h.bits]; exact q
/-! ### lower and upper lots -/
def lowP (n : Nat) (ps : List Pr) (p : Nat → Bool) (y : Nat) : Bool := (List.range n).any fun x => p x && le ps y x
theorem lowP_iff {n : Nat} {ps : List Pr} {p : Nat → Bool} {y : Nat} : lowP n ps p y = true ↔ ∃ x, x < n ∧ p x = true ∧ le ps y x = true := by
  unfold lowP
  simp [List.any_eq_true]
def isDn (n : Nat) (ps : List Pr) (p : Nat → Bool) : Bool := (List.range n).all fun y => p y == lowP n ps p y
theorem isDn_iff {n : Nat} {ps : List Pr} {p : Nat → Bool} : isDn n ps p = true ↔ Dn n ps p := by
  unfold isDn
  rw [List.all_eq_true]
  constructor
  · intro h a b ha hb l z
    have := h a (List.mem_range.mpr ha)
    have e : p a = lowP n ps p a := by simpa using this
    rw [e]
    exact lowP_iff.mpr ⟨b, hb, z, l⟩
  · intro h y hy
    have hy := List.mem_range.mp hy
    cases e : p y with
    | true =>
      have : lowP n ps p y = true := lowP_iff.mpr ⟨y, hy, e, le_refl' ps y⟩
      simp [this]
    | false =>
      cases e2 : lowP n ps p y with
      | false => rfl
      | true =>
        obtain ⟨x, hx, z, l⟩ := lowP_iff.mp e2
        have := h y x hy hx l z
        rw [e] at this; cases this
theorem msk_eq {n a b : Nat} {p q : Nat → Bool} (h : Msk n p a) (k : Msk n q b) : decide ((b : Int) = (a : Int)) = (List.range n).all fun y => p y == q y := by
  rw [Bool.eq_iff_iff, decide_eq_true_eq, List.all_eq_true]
  have := h.uniq k
  constructor
  · intro e x hx
    have e : b = a := by omega
    have := this.mp e.symm x (List.mem_range.mp hx)
    simp [this]
  · intro e
    have := this.mpr fun x hx => by
      have := e x (List.mem_range.mpr hx)
      simpa using this
    omega
def g_is_lower_value : Sg := pr (fun x : Nat × List Pr × (Nat → Bool) => [.sh (bookD x.1 x.2.1), .sh (lotD (fl x.1 x.2.2))]) (fun x => Good x.1 x.2.1) (fun x dv => dv = .sh (.bool (isDn x.1 x.2.1 x.2.2)))
def n_is_lower_value : List Str := ["hill", "thing"]
def t_is_lower_value : DS := dRet (dAndV (dCall g_is_lot_value (dCons (dVar 0) (dCons (dVar 1) (dNil)))) (dOp (fRel sDep rEqv) (dCall g_lower_mask (dCons (dVar 0) (dCons (dCall g_mask_of (dCons (dVar 1) (dNil))) (dNil)))) (dCall g_mask_of (dCons (dVar 1) (dNil)))))
theorem p_is_lower_value (ds : List DV) (Q : DV → Prop) (h : g_is_lower_value ds Q) : t_is_lower_value { nx := fun _ => Q (.sh .none), rt := Q } (startD n_is_lower_value ds) := by
  obtain ⟨⟨n, ps, p⟩, rfl, G, q⟩ := h
  have G : Good n ps := G
  simp [t_is_lower_value, startD, n_is_lower_value]
  refine pr_call (n, ps, fl n p) rfl ⟨G.hi, lot_fl n p⟩ ?_
  rintro dv rfl
  simp
  refine mask_call G.hi fun m hm => ?_
  refine pr_call (n, ps, m) rfl ⟨G, hm.1, fun i z => ((hm.2 i).mp z).1⟩ ?_
  rintro dv ⟨k, rfl, k1, k2⟩
  have hk : Msk n (lowP n ps p) k := ⟨k1, fun y => by
    rw [k2, lowP_iff]
    constructor
    · rintro ⟨j, z, w⟩
      have z := (hm.2 j).mp z
      refine ⟨?_, j, z.1, z.2, le_iff.mpr w⟩
      rcases w with rfl | w
      · exact z.1
      · exact (G.ok _ w).1
    · rintro ⟨_, x, hx, z, w⟩
      exact ⟨x, (hm.2 x).mpr ⟨hx, z⟩, le_iff.mp w⟩⟩
  refine mask_call G.hi fun m' hm' => ?_
  simp
  rw [msk_eq hm' hk]
  exact q _ rfl
/-! ### water, couples -/
def g_need_water : Sg := pr (fun x : Nat × List Pr × (Nat → Bool) => [.sh (bookD x.1 x.2.1), .sh (lotD (fl x.1 x.2.2))]) (fun x => Hill x.1 x.2.1 ∧ Dn x.1 x.2.1 x.2.2) (fun _ dv => dv = .sh .none)
def g_run : Sg := pr (fun x : Nat × List Pr × (Nat → Bool) × List Deed => [.sh (bookD x.1 x.2.1), .sh (lotD (fl x.1 x.2.2.1)), .sh (scriptD x.2.2.2)]) (fun x => Hill x.1 x.2.1 ∧ Dn x.1 x.2.1 x.2.2.1 ∧ SOk x.1 x.2.2.2) (fun x dv => dv = .sh (lotD (fl x.1 (ranP x.2.1 x.2.2.1 x.2.2.2))))
def n_run : List Str := ["hill", "water", "script"]
def t_run : DS := dSeq2 (dExpr (dCall g_need_water (dCons (dVar 0) (dCons (dVar 1) (dNil))))) (dSeq2 (dExpr (dCall g_need_script (dCons (dOpR fIx (dVar 0) (dC (.int 0))) (dCons (dVar 2) (dNil))))) (dRet (dCall g_lot_of (dCons (dCall g_done (dCons (dVar 0) (dCons (dCall g_mask_of (dCons (dVar 1) (dNil))) (dCons (dVar 2) (dNil))))) (dNil)))))
theorem p_run (ds : List DV) (Q : DV → Prop) (h : g_run ds Q) : t_run { nx := fun _ => Q (.sh .none), rt := Q } (startD n_run ds) := by
  obtain ⟨⟨n, ps, p, s⟩, rfl, ⟨G, hp, hs⟩, q⟩ := h
  have G : Hill n ps := G
  simp [t_run, startD, n_run]
  refine pr_call (n, ps, p) rfl ⟨G, hp⟩ ?_
  rintro dv rfl
  simp [bookD]
  refine pr_call (n, s) rfl hs ?_
  rintro dv rfl
  refine mask_call G.good.hi fun m hm => ?_
  refine pr_call (n, ps, p, m, s) rfl ⟨G.good, hm, hs⟩ ?_
  rintro dv ⟨k, rfl, hk⟩
  refine lot_call hk ?_
  exact q _ rfl
end HL
set_option Elab.async false
set_option linter.all false
set_option maxRecDepth 100000
set_option maxHeartbeats 1000000
namespace HL
open PySem PySem.Spec L2 DL
open PyProof.Rows hiding St
/-! ### the last deed that reaches a terrace -/
def lastR (ps : List Pr) (y : Nat) : List Deed → Option Nat
  | [] => none
  | d :: r => if hits ps d y = true then some r.length else lastR ps y r
def lastAt (ps : List Pr) (s : List Deed) (y : Nat) : Option Nat := lastR ps y s.reverse
theorem lastAt_snoc (ps : List Pr) (s : List Deed) (d : Deed) (y : Nat) : lastAt ps (s ++ [d]) y = if hits ps d y = true then some s.length else lastAt ps s y := by
  unfold lastAt
  rw [List.reverse_append]
  simp [lastR]
theorem lastAt_at {ps : List Pr} {s : List Deed} {y i : Nat} (h : lastAt ps s y = some i) : ∃ d, s[i]? = some d ∧ hits ps d y = true ∧ ∀ j e, i < j → s[j]? = some e → hits ps e y = false := by
  induction s using snoc_ind with
  | h0 => cases h
  | h1 s d ih =>
    rw [lastAt_snoc] at h
    split at h
    · rename_i hd
      cases h
      refine ⟨d, by simp, hd, fun j e hj he => ?_⟩
      have := (List.getElem?_eq_some_iff.mp he).1
      simp at this
      omega
    · rename_i hd
      obtain ⟨e, h1, h2, h3⟩ := ih h
      have hi := (List.getElem?_eq_some_iff.mp h1).1
      refine ⟨e, by rw [List.getElem?_append_left hi]; exact h1, h2, fun j e' hj he => ?_⟩
      by_cases l : j < s.length
      · rw [List.getElem?_append_left l] at he
        exact h3 j e' hj he
      · have hj2 := (List.getElem?_eq_some_iff.mp he).1
        simp at hj2
        have : j = s.length := by omega
        subst this
        simp at he
        subst he
        simpa using hd
theorem last_at (ps : List Pr) (s : List Deed) (y : Nat) : lastD ps s y = (lastAt ps s y).bind fun i => s[i]?.map (·.1) := by
  induction s using snoc_ind with
  | h0 => rfl
  | h1 s d ih =>
    rw [lastD_snoc, lastAt_snoc]
    split
    · simp
    · rw [ih]
      cases e : lastAt ps s y with
      | none => rfl
      | some i =>
        obtain ⟨e', h1, _⟩ := lastAt_at e
        have hi := (List.getElem?_eq_some_iff.mp h1).1
        simp [List.getElem?_append_left hi]
def optD (o : Option Nat) : D := match o with
  | none => .none
  | some i => .int i
theorem enumD_map {α : Type} (g : α → D) (xs : List α) : enumD (xs.map g) = xs.zipIdx.map fun p : α × Nat => .tuple [.int p.2, g p.1] := by
  unfold enumD
  refine List.ext_getElem? fun i => ?_
  rw [List.getElem?_mapIdx, List.getElem?_map, List.getElem?_map, List.getElem?_zipIdx]
  cases xs[i]? <;> simp
theorem zipIdx_at {α : Type} {xs : List α} {i : Nat} {p : α × Nat} (e : xs.zipIdx[i]? = some p) : xs[i]? = some p.1 ∧ p.2 = i := by
  rw [List.getElem?_zipIdx] at e
  cases h : xs[i]? with
  | none => rw [h] at e; cases e
  | some x =>
    rw [h] at e
    have : (x, 0 + i) = p := by simpa using e
    rw [← this]
    exact ⟨rfl, by simp⟩
theorem msk_bit {n m x : Nat} {p : Nat → Bool} (h : Msk n p m) (hx : x < n) : Builtin.bitAnd ((m : Int) / 2 ^ x) 1 = 1 ↔ p x = true := by
  rw [bit_iff, h.2]
  exact ⟨fun z => z.2, fun z => ⟨hx, z⟩⟩
end HL
set_option Elab.async false
set_option linter.all false
set_option maxRecDepth 100000
set_option maxHeartbeats 1000000
namespace HL
open PySem PySem.Spec L2 DL
open PyProof.Rows hiding St
theorem own_nats (xs : List Nat) : xs.map (fun x : Nat => DV.sh (.int (x : Nat))) = (xs.map fun x : Nat => PyData.int x).map DV.sh := by rw [List.map_map]; rfl
end HL
set_option Elab.async false
set_option linter.all false
set_option maxRecDepth 100000
set_option maxHeartbeats 1000000
namespace HL
open PySem PySem.Spec L2 DL
open PyProof.Rows hiding St
/-! ### sets of terraces in a dict -/
def KN (n : Nat) (ds : List (Key × D)) (S : Nat → Prop) : Prop := ∃ kn : List Nat, ds.map (·.1) = kn.map (fun k : Nat => Sum.inl (k : Int)) ∧ kn.Nodup ∧ (∀ k ∈ kn, k < n) ∧ ∀ y, y ∈ kn ↔ S y
theorem KN.nil (n : Nat) : KN n [] fun _ => False := ⟨[], rfl, List.nodup_nil, fun _ m => (by cases m), fun y => by simp⟩
theorem KN.congr {n : Nat} {ds : List (Key × D)} {S T : Nat → Prop} (h : KN n ds S) (e : ∀ y, S y ↔ T y) : KN n ds T := by
  obtain ⟨kn, h1, h2, h3, h4⟩ := h
  exact ⟨kn, h1, h2, h3, fun y => (h4 y).trans (e y)⟩
theorem KN.put {n x : Nat} {ds : List (Key × D)} {S : Nat → Prop} {d : D} (h : KN n ds S) (hx : x < n) : KN n (putD ds (.inl (x : Int)) d) fun y => y = x ∨ S y := by
  obtain ⟨kn, h1, h2, h3, h4⟩ := h
  have hk : hasD ds (.inl (x : Int)) = true ↔ x ∈ kn := by
    rw [hasD_mem, h1]
    constructor
    · intro m
      obtain ⟨k, m, e⟩ := List.mem_map.mp m
      injection e with e
      have : k = x := by omega
      rw [← this]; exact m
    · exact fun m => List.mem_map.mpr ⟨x, m, rfl⟩
  by_cases m : x ∈ kn
  · refine ⟨kn, by rw [putD_keys, if_pos (hk.mpr m), h1], h2, h3, fun y => ?_⟩
    rw [h4]
    constructor
    · exact .inr
    · rintro (rfl | z)
      · exact (h4 _).mp m
      · exact z
  · refine ⟨kn ++ [x], by rw [putD_keys, if_neg (mt hk.mp m), h1, List.map_append]; rfl, ?_, fun k mk => ?_, fun y => ?_⟩
    · rw [List.nodup_append]
      exact ⟨h2, by simp, fun a ma b mb e => m (by rw [List.mem_singleton] at mb; rw [← mb, ← e]; exact ma)⟩
    · rcases List.mem_append.mp mk with mk | mk
      · exact h3 k mk
      · rw [List.mem_singleton.mp mk]; exact hx
    · rw [List.mem_append, List.mem_singleton, h4]
      exact or_comm
theorem nodup_len {n : Nat} {l : List Nat} (nd : l.Nodup) (h : ∀ k ∈ l, k < n) : l.length ≤ n := by
  have := nat_nodup_len l (List.range n) nd fun x m => List.mem_range.mpr (h x m)
  rwa [List.length_range] at this
theorem KN.len {n : Nat} {ds : List (Key × D)} {S : Nat → Prop} (h : KN n ds S) : ds.length ≤ n := by
  obtain ⟨kn, h1, h2, h3, _⟩ := h
  have := congrArg List.length h1
  rw [List.length_map, List.length_map] at this
  rw [this]
  exact nodup_len h2 h3
end HL
set_option Elab.async false
set_option linter.all false
set_option maxRecDepth 100000
set_option maxHeartbeats 1000000
namespace HL
open PySem PySem.Spec L2 DL
open PyProof.Rows hiding St
def g__law_script : Sg := pr (fun x : Nat × Nat => [.tok 0, .sh (.int x.1), .sh (.int x.2)]) (fun x => 1 ≤ x.1 ∧ x.1 ≤ 10 ∧ x.2 ≤ 100) (fun x dv => ∃ s : List Deed, (∀ d ∈ s, d.2 < x.1) ∧ s.length ≤ x.2 ∧ dv = .sh (scriptD s))
def n__law_script : List Str := ["deck", "n", "most", "turn"]
def t__law_script : DS := dRet (dCB (on1 fTuple) (dCons (dLc (dRange1 (dCall g__law_draw (dCons (dVar 0) (dCons (dOpR fAdd (dVar 2) (dC (.int 1))) (dNil))))) (gN 3) (dYes) (dTup (dCons (dCall g__law_pick (dCons (dVar 0) (dCons (dTup (dCons (dC (.str "pour")) (dCons (dC (.str "open")) (dNil)))) (dNil)))) (dCons (dCall g__law_draw (dCons (dVar 0) (dCons (dVar 1) (dNil)))) (dNil)))) [3]) (dNil)))
theorem p__law_script (ds : List DV) (Q : DV → Prop) (h : g__law_script ds Q) : t__law_script { nx := fun _ => Q (.sh .none), rt := Q } (startD n__law_script ds) := by
  obtain ⟨⟨n, most⟩, rfl, ⟨h1, h2, h3⟩, q⟩ := h
  have h1 : 1 ≤ n := h1
  have h2 : n ≤ 10 := h2
  have h3 : most ≤ 100 := h3
  have hs : (1000 : Nat) ≤ sizeLine := by decide
  simp [t__law_script, startD, n__law_script]
  refine draw_nat (many := most + 1) rfl (by omega) fun k hk => ?_
  simp
  refine ⟨small_n (by omega), ?_⟩
  rw [rangeD_nat]
  refine lcRun_rel (fun i : Nat => PyData.int i) (fun (x : Nat) (o : Option DV) => ∃ d : Deed, d.2 < n ∧ o = some (.sh (deedD d))) _ _ (by simp; omega) (fun x m P hP => ?_) fun os p => ?_
  · simp
    refine pr_call (false, [.str "pour", .str "open"]) rfl ⟨by simp, by simp⟩ ?_
    rintro dv ⟨d, hd, rfl⟩
    have : ∃ w : Bool, d = wordD w := by
      simp at hd
      rcases hd with rfl | rfl
      · exact ⟨true, rfl⟩
      · exact ⟨false, rfl⟩
    obtain ⟨w, rfl⟩ := this
    simp
    refine draw_nat (many := n) rfl (by omega) fun y hy => ?_
    simp
    exact hP _ ⟨(w, y), hy, rfl⟩
  · have : ∀ {xs : List Nat} {os : List (Option DV)}, Paired (fun (x : Nat) (o : Option DV) => ∃ d : Deed, d.2 < n ∧ o = some (.sh (deedD d))) xs os → ∃ s : List Deed, (∀ d ∈ s, d.2 < n) ∧ s.length = xs.length ∧ os.filterMap id = (s.map deedD).map DV.sh := by
      intro xs os p
      induction p with
      | nil => exact ⟨[], fun _ m => (by cases m), rfl, rfl⟩
      | cons r t ih =>
        obtain ⟨d, hd, rfl⟩ := r
        obtain ⟨s, a1, a2, a3⟩ := ih
        refine ⟨d :: s, fun e m => ?_, by simp [a2], by rw [List.filterMap_cons]; simp [a3]⟩
        rcases List.mem_cons.mp m with rfl | m
        · exact hd
        · exact a1 e m
    obtain ⟨s, a1, a2, a3⟩ := this p
    simp only [List.nil_append]
    rw [a3, fTuple_o]
    exact q _ ⟨s, a1, by rw [a2]; simp; omega, rfl⟩
theorem rInD_lot (x : Nat) (xs : List Nat) : rInD (.int x) (lotD xs) = decide (x ∈ xs) := by
  unfold rInD lotD
  show (xs.map _).any _ = _
  rw [List.any_map, Bool.eq_iff_iff, List.any_eq_true, decide_eq_true_iff]
  constructor
  · rintro ⟨y, m, e⟩
    have e : decide ((y : Int) = x) = true := e
    have e : y = x := by have := of_decide_eq_true e; omega
    rw [← e]; exact m
  · exact fun m => ⟨x, m, by show decide ((x : Int) = x) = true; simp⟩
theorem sIn_lot (x : Nat) (xs : List Nat) : sIn (.int x) (lotD xs) := by
  unfold sIn lotD
  show min _ _ ≤ 60
  rw [depth_int]
  omega
theorem in_fl {n x : Nat} {p : Nat → Bool} (hx : x < n) : rInD (.int x) (lotD (fl n p)) = p x := by
  rw [rInD_lot, Bool.eq_iff_iff, decide_eq_true_iff, mem_fl]
  exact ⟨fun z => z.2, fun z => ⟨hx, z⟩⟩
end HL
set_option Elab.async false
set_option linter.all false
set_option maxRecDepth 100000
set_option maxHeartbeats 1000000
namespace HL
open PySem PySem.Spec L2 DL
open PyProof.Rows hiding St
def lastI (o : Option Nat) : Int := match o with
  | none => -1
  | some i => i
def g__law_last : Sg := pr (fun x : Nat × List Pr × List Deed × Nat => [.sh (bookD x.1 x.2.1), .sh (scriptD x.2.2.1), .sh (.int x.2.2.2)]) (fun x => Good x.1 x.2.1 ∧ SOk x.1 x.2.2.1 ∧ x.2.2.2 < x.1) (fun x dv => dv = .sh (.int (lastI (lastAt x.2.1 x.2.2.1 x.2.2.2))))
def g__law_couple : Sg := pr (fun x : Nat × List Pr × List Deed => [.sh (bookD x.1 x.2.1), .sh (scriptD x.2.2)]) (fun x => Good x.1 x.2.1 ∧ SOk x.1 x.2.2) (fun x dv => dv = .sh (coupD x.1 (cplOf x.2.1 x.2.2)))
def n__law_couple : List Str := ["hill", "script", "lasts", "wet", "x", "at"]
def t__law_couple : DS := dSeq2 (dSet 2 (dLc (dRange1 (dOpR fIx (dVar 0) (dC (.int 0)))) (gN 4) (dYes) (dCall g__law_last (dCons (dVar 0) (dCons (dVar 1) (dCons (dVar 4) (dNil))))) [4])) (dSeq2 (dSet 3 (dCB (on1 fTuple) (dCons (dLc (dEnum false (dVar 2)) (gT 2 (gsCons (gN 4) (gsCons (gN 5) (gsNil)))) (dAnd (dTest (dOp (fRel sLt fun d e => rLeD e d) (dVar 5) (dC (.int 0)))) (dTest (dOp (fRel sDep rEqv) (dOpR fIx (dOpR fIx (dVar 1) (dVar 5)) (dC (.int 0))) (dC (.str "pour"))))) (dVar 4) [4, 5]) (dNil)))) (dRet (dTup (dCons (dVar 3) (dCons (dCB (on1 fTuple) (dCons (dLc (dEnum false (dVar 2)) (gT 2 (gsCons (gN 4) (gsCons (gN 5) (gsNil)))) (dAnd (dTest (dOp (fRel sLt fun d e => rLeD e d) (dVar 5) (dC (.int 0)))) (dTest (dOp (fRel sDep rEqv) (dOpR fIx (dOpR fIx (dVar 1) (dVar 5)) (dC (.int 0))) (dC (.str "open"))))) (dVar 4) [4, 5]) (dNil))) (dNil))))))
theorem enum_range (n : Nat) (g : Nat → D) : enumD ((List.range n).map g) = (List.range n).map fun y => .tuple [.int (y : Nat), g y] := by
  unfold enumD
  refine List.ext_getElem? fun i => ?_
  rw [List.getElem?_mapIdx, List.getElem?_map, List.getElem?_map]
  by_cases h : i < n
  · rw [List.getElem?_range h]; rfl
  · rw [List.getElem?_eq_none (by simpa using Nat.le_of_not_lt h)]; rfl
theorem last_word {ps : List Pr} {s : List Deed} {y i : Nat} (h : lastAt ps s y = some i) : ∃ d : Deed, s[i]? = some d ∧ lastD ps s y = some d.1 := by
  obtain ⟨d, h1, _⟩ := lastAt_at h
  refine ⟨d, h1, ?_⟩
  rw [last_at, h]
  simp [h1]
theorem p__law_couple (ds : List DV) (Q : DV → Prop) (h : g__law_couple ds Q) : t__law_couple { nx := fun _ => Q (.sh .none), rt := Q } (startD n__law_couple ds) := by
  obtain ⟨⟨n, ps, s⟩, rfl, ⟨G, hs⟩, q⟩ := h
  have G : Good n ps := G
  have hn := G.hi
  have hz : (1000 : Nat) ≤ sizeLine := by decide
  have q : Q (.sh (coupD n (cplOf ps s))) := q _ rfl
  simp [t__law_couple, startD, n__law_couple, bookD]
  refine ⟨small_n (by omega), ?_⟩
  rw [rangeD_nat]
  refine lcRun_map (fun i : Nat => PyData.int i) (fun y => .sh (.int (lastI (lastAt ps s y)))) _ (by rw [List.length_range]; omega) (fun y m P hP => ?_) ?_
  · simp at m
    simp
    refine pr_call (n, ps, s, y) rfl ⟨G, hs, m⟩ ?_
    rintro dv rfl
    exact hP
  · have e : (List.range n).map (fun y => DV.sh (.int (lastI (lastAt ps s y)))) = ((List.range n).map fun y => PyData.int (lastI (lastAt ps s y))).map DV.sh := by rw [List.map_map]; rfl
    rw [e]
    have nl : noLsts ((List.range n).map fun y => PyData.int (lastI (lastAt ps s y))) = true := noLsts_all fun d m => by
      obtain ⟨y, _, rfl⟩ := List.mem_map.mp m
      exact noLst_int _
    simp [sup_br, nl, scriptD, -List.map_map]
    rw [enum_range]
    refine lcRun_fn (fun y : Nat => .tuple [.int (y : Nat), .int (lastI (lastAt ps s y))]) (fun y => if (cplOf ps s).wet y = true then some (DV.sh (.int (y : Nat))) else none) _ [] (by simp; omega) (fun y m P hP => ?_) ?_
    · simp
      cases e1 : lastAt ps s y with
      | none =>
        have : (cplOf ps s).wet y = false := by simp [cplOf, last_at, e1]
        simp [lastI] at hP ⊢
        simpa [this] using hP
      | some i =>
        obtain ⟨d, h1, h2⟩ := last_word e1
        have ai : atI (s.map deedD) (i : Int) = some (deedD d) := atI_nat (by rw [List.getElem?_map, h1]; rfl)
        have hw : (cplOf ps s).wet y = d.1 := by simp [cplOf, h2]
        have hi : (0 : Int) ≤ i := by omega
        simp [lastI, ai, deedD, hi]
        rw [hw] at hP
        cases ew : d.1 <;> simp [ew] at hP ⊢ <;> exact hP
    · rw [List.nil_append, filterMap_if (fun y => (cplOf ps s).wet y) (fun y => DV.sh (.int (y : Nat))), own_nats, fTuple_o]
      simp [sup_br, nl, -List.map_map]
      refine lcRun_fn (fun y : Nat => .tuple [.int (y : Nat), .int (lastI (lastAt ps s y))]) (fun y => if (cplOf ps s).dry y = true then some (DV.sh (.int (y : Nat))) else none) _ [] (by simp; omega) (fun y m P hP => ?_) ?_
      · simp
        cases e1 : lastAt ps s y with
        | none =>
          have : (cplOf ps s).dry y = false := by simp [cplOf, last_at, e1]
          simp [lastI] at hP ⊢
          simpa [this] using hP
        | some i =>
          obtain ⟨d, h1, h2⟩ := last_word e1
          have ai : atI (s.map deedD) (i : Int) = some (deedD d) := atI_nat (by rw [List.getElem?_map, h1]; rfl)
          have hw : (cplOf ps s).dry y = !d.1 := by simp [cplOf, h2]
          have hi : (0 : Int) ≤ i := by omega
          simp [lastI, ai, deedD, hi]
          rw [hw] at hP
          cases ew : d.1 <;> simp [ew] at hP ⊢ <;> exact hP
      · rw [List.nil_append, filterMap_if (fun y => (cplOf ps s).dry y) (fun y => DV.sh (.int (y : Nat))), own_nats, fTuple_o]
        simp
        exact q
end HL
set_option Elab.async false
set_option linter.all false
set_option maxRecDepth 100000
set_option maxHeartbeats 1000000
namespace HL
open PySem PySem.Spec L2 DL
open PyProof.Rows hiding St
/-- the dict tells p: what it lacks is False -/
def WD (n : Nat) (ds : List (Key × D)) (p : Nat → Bool) : Prop := (∀ y, y < n → (valD ds (.inl (y : Int))).getD (.bool false) = .bool (p y)) ∧ KN n ds fun y => hasD ds (.inl (y : Int)) = true
theorem KN.has {n : Nat} {ds : List (Key × D)} {S : Nat → Prop} (h : KN n ds S) : KN n ds fun y => hasD ds (.inl (y : Int)) = true := by
  obtain ⟨kn, h1, h2, h3, h4⟩ := h
  refine ⟨kn, h1, h2, h3, fun y => ?_⟩
  show y ∈ kn ↔ hasD ds (Sum.inl (y : Int)) = true
  rw [hasD_mem, h1, List.mem_map]
  constructor
  · exact fun m => ⟨y, m, rfl⟩
  · rintro ⟨k, m, e⟩
    injection e with e
    have : k = y := by omega
    rw [← this]; exact m
theorem WD.put {n x : Nat} {ds : List (Key × D)} {p : Nat → Bool} {b : Bool} (h : WD n ds p) (hx : x < n) : WD n (putD ds (.inl (x : Int)) (.bool b)) fun y => if y = x then b else p y := by
  refine ⟨fun y hy => ?_, (h.2.put hx).has⟩
  rw [valD_put]
  by_cases e : y = x
  · subst e; simp
  · have : ¬ ((.inl (y : Int) : Key) = .inl (x : Int)) := fun z => by
      injection z with z
      omega
    show _ = PyData.bool (if y = x then b else p y)
    rw [if_neg this, if_neg e]
    exact h.1 y hy
theorem WD.congr {n : Nat} {ds : List (Key × D)} {p r : Nat → Bool} (h : WD n ds p) (e : ∀ y, y < n → p y = r y) : WD n ds r := ⟨fun y hy => by rw [h.1 y hy, e y hy], h.2⟩
theorem WD.len {n : Nat} {ds : List (Key × D)} {p : Nat → Bool} (h : WD n ds p) : ds.length ≤ n := h.2.len
theorem merge_snoc (ds more : List (Key × D)) (e : Key × D) : mergeD ds (more ++ [e]) = putD (mergeD ds more) e.1 e.2 := by unfold mergeD; rw [List.foldl_append]; rfl
theorem WD.start {n : Nat} : ∀ (xs : List Nat), (∀ x ∈ xs, x < n) → WD n (mergeD [] (xs.map fun x : Nat => ((.inl (x : Int) : Key), (.bool true : D)))) fun y => decide (y ∈ xs) := by
  intro xs
  induction xs using snoc_ind with
  | h0 => exact fun _ => ⟨fun y _ => by simp [mergeD, valD], (KN.nil n).congr fun y => by simp [mergeD, hasD]⟩
  | h1 s x ih =>
    intro h
    rw [List.map_append, List.map_cons, List.map_nil, merge_snoc]
    refine ((ih fun y m => h y (List.mem_append_left _ m)).put (h x (by simp))).congr fun y _ => ?_
    by_cases e : y = x <;> simp [e]
end HL
set_option Elab.async false
set_option linter.all false
set_option maxRecDepth 100000
set_option maxHeartbeats 1000000
namespace HL
open PySem PySem.Spec L2 DL
open PyProof.Rows hiding St
/-! ### what can be shown -/
theorem sh_fl {n : Nat} {p : Nat → Bool} (hn : n ≤ 10) : Sh 110 1 (lotD (fl n p)) := (sh_lot (n := 10) (fun x m => by have := (mem_fl.mp m).1; omega) (Nat.le_trans (fl_len n p) hn))
theorem sh_coup {n : Nat} (c : Cpl) (hn : n ≤ 10) : Sh 222 2 (coupD n c) := sh_2 (sh_fl hn) (sh_fl hn)
@[simp] theorem fIx_coup0 {n : Nat} {c : Cpl} {Q : R → Prop} : fIx (.val (.sh (coupD n c))) (.val (.sh (.int 0))) Q = Q (.val (.sh (lotD (fl n c.wet)))) := by unfold coupD; simp
@[simp] theorem fIx_coup1 {n : Nat} {c : Cpl} {Q : R → Prop} : fIx (.val (.sh (coupD n c))) (.val (.sh (.int 1))) Q = Q (.val (.sh (lotD (fl n c.dry)))) := by unfold coupD; simp
@[simp] theorem fAdd_script {s t : List Deed} {Q : R → Prop} : fAdd (.val (.sh (scriptD s))) (.val (.sh (scriptD t))) Q = (s.length + t.length ≤ sizeLine ∧ Q (.val (.sh (scriptD (s ++ t))))) := by unfold scriptD; simp
/-! ### plain laws of couples -/
end HL
set_option Elab.async false
set_option linter.all false
set_option maxRecDepth 100000
set_option maxHeartbeats 1000000
namespace HL
open PySem PySem.Spec L2 DL
open PyProof.Rows hiding St
@[simp] theorem isN_opt (o : Option Nat) : rIsD (optD o) .none = o.isNone := by cases o <;> rfl
@[simp] theorem isN_side (d : D) : sIs d .none ↔ True := by unfold sIs; simp
end HL
set_option Elab.async false
set_option linter.all false
set_option maxRecDepth 100000
set_option maxHeartbeats 1000000
namespace HL
open PySem PySem.Spec L2 DL
open PyProof.Rows hiding St
def SSh (n : Nat) (s : List Deed) : Prop := (∀ d ∈ s, d.2 < n) ∧ s.length ≤ 100
theorem SSh.ok {n : Nat} {s : List Deed} (h : SSh n s) : SOk n s := ⟨h.1, by have := h.2; omega⟩
end HL
set_option Elab.async false
set_option linter.all false
set_option maxRecDepth 100000
set_option maxHeartbeats 1000000
namespace HL
open PySem PySem.Spec L2 DL
open PyProof.Rows hiding St
theorem noLsts_opts (l : List (Option Nat)) : noLsts (l.map optD) = true := noLsts_all fun d m => by
  obtain ⟨o, _, rfl⟩ := List.mem_map.mp m
  cases o <;> (unfold optD; rw [noLst]; all_goals simp)
@[simp] theorem fLen_script {Q : R → Prop} (s : List Deed) : fLen (.val (.sh (scriptD s))) Q = Q (.val (.sh (.int s.length))) := by unfold scriptD; simp
end HL
set_option Elab.async false
set_option linter.all false
set_option maxRecDepth 100000
set_option maxHeartbeats 2000000
namespace DL
open PySem PySem.Spec L2
open PyProof.Rows hiding St
/-! ### t[::-1] of a tuple -/
section
variable {prog : Program} {w : World} {A : Around} {E : Value → Shared → Prop} {s : Shared}
theorem adj_rev (n : Nat) : Builtin.Slice.sliceAdjust none none (-1) (n : Int) = ((n : Int) - 1, -1) := by
  unfold Builtin.Slice.sliceAdjust
  simp
theorem places_rev (n : Nat) : Builtin.Slice.slicePlaces ((n : Int) - 1) (-1) (-1) = n := by
  unfold Builtin.Slice.slicePlaces
  simp
  try omega
theorem applied_rev {sl : Addr} {vk : Value} {n : Nat} {Q : Int × Int × Nat → Shared → Prop} (hs : s.heap.IsSliceOf sl .none .none vk) (pk : IsPart vk (some (-1)))
    (h : Q ((n : Int) - 1, -1, n) s) : wpAny (model prog w) A (Builtin.Slice.sliceApplied (.ref sl) (pure (n : Int))) Q E s := by
  obtain ⟨o, ho, hc, hd⟩ := id hs
  unfold Builtin.Slice.sliceApplied Builtin.Slice.sliceFields
  refine wpAny_bind (wpAny_bind (wpAny_field ho hd (x := .none) rfl (wpAny_bind (wpAny_field ho hd (x := .none) rfl (wpAny_bind (wpAny_field ho hd (x := vk) rfl (wpAny_pure ?_)))))))
  refine wpAny_bind (HT.slicePart_ pk ?_)
  show wpAny _ _ (if ((-1 : Int) == 0) = true then _ else _) _ _ s
  rw [if_neg (by decide)]
  refine wpAny_bind (slicePart_none (wpAny_bind (slicePart_none (wpAny_bind (wpAny_pure ?_)))))
  show wpAny _ _ (match Builtin.Slice.sliceAdjust none none (-1) (n : Int) with | (lo, hi) => pure (lo, (-1 : Int), Builtin.Slice.slicePlaces lo hi (-1))) _ _ s
  rw [adj_rev]
  show wpAny _ _ (pure ((n : Int) - 1, (-1 : Int), Builtin.Slice.slicePlaces ((n : Int) - 1) (-1) (-1))) _ _ s
  rw [places_rev]
  exact wpAny_pure h
theorem filterMap_same {α β : Type} {f g : α → Option β} : ∀ {l : List α}, (∀ x ∈ l, f x = g x) → l.filterMap f = l.filterMap g
  | [], _ => rfl
  | x :: l, h => by rw [List.filterMap_cons, List.filterMap_cons, h x List.mem_cons_self, filterMap_same fun y m => h y (List.mem_cons_of_mem _ m)]
theorem pick_rev (xs : Array Value) : ((List.range xs.size).filterMap fun (m : Nat) => xs[(((xs.size : Int) - 1) + (m : Int) * (-1)).toNat]?).toArray = xs.toList.reverse.toArray := by
  have e : ((List.range xs.size).filterMap fun (m : Nat) => xs[(((xs.size : Int) - 1) + (m : Int) * (-1)).toNat]?) = ((List.range xs.size).map fun m => xs.size - 1 - m).filterMap (xs[·]?) := by
    rw [List.filterMap_map]
    refine filterMap_same fun m hm => ?_
    have := List.mem_range.mp hm
    show _ = xs[xs.size - 1 - m]?
    congr 1
    omega
  rw [e, PySem.W.krv_range, List.filterMap_reverse, PySem.W.krv_all]
theorem getItem_rev {t sl : Addr} {items : Array Value} {vk : Value} {Q : Value → Shared → Prop} (ht : IsTup s.heap t items) (hs : s.heap.IsSliceOf sl .none .none vk) (pk : IsPart vk (some (-1)))
    (h : Q (.ref s.heap.objs.size) { s with heap := s.heap.push { cls := .type "tuple", data := .seq items.toList.reverse.toArray } }) (hsz : items.size ≤ sizeLine) : wpAny (model prog w) A (getItem (.ref t) (.ref sl)) Q E s := by
  have room : sizeOk (.seq items.toList.reverse.toArray) := by
    show items.toList.reverse.toArray.size ≤ sizeLine
    simpa using hsz
  obtain ⟨o, ho, hc, hd⟩ := id hs
  have ty : s.TypeIs (.ref sl) "slice" := ⟨o, ho, hc⟩
  unfold getItem
  try with_reducible refine wpAny_holding ?_
  first | refine wpAny_bind (wpAny_pure ?_) | skip
  refine wpAny_bind (wpAny_sequenceKey ht.typeIs (by decide) ?_)
  refine wpAny_bind (wpAny_callSpecial?_slot (name := Str.ofString "__getitem__") ht.typeIs PyProof.Rows.slot_tuple_getitem (wpAny_call_entry PyProof.Rows.slot_tuple_getitem ht.typeIs entry_tuple_getitem ?_ (args_tuple_getitem _ _)))
  show wpAny _ _ (Builtin.Tuple.tupleItemsOf (.ref t) >>= _) _ _ s
  refine wpAny_bind (tupleItemsOf_ ht (wpAny_bind (wpAny_typeOf ty ?_)))
  rw [if_pos (by decide)]
  refine wpAny_bind (applied_rev hs pk ?_)
  have no : ¬ ((((items.size : Int) - 1) == 0 && (-1 : Int) == 1 && items.size == items.size) = true) := by
    have : ((-1 : Int) == 1) = false := by decide
    rw [this]
    simp
  show wpAny _ _ (if (((items.size : Int) - 1) == 0 && (-1 : Int) == 1 && items.size == items.size) = true then _ else _) _ _ s
  rw [if_neg no, pick_rev]
  first
    | exact wpAny_bind (m := Builtin.Tuple.tupleExact _) (wpAny_newObj_type (wpAny_pure ⟨_, rfl, wpAny_pure h⟩) room)
    | exact wpAny_bind (m := Builtin.Tuple.tupleExact _) (wpAny_newObj_type (wpAny_bind (wpAny_pure (wpAny_pure ⟨_, rfl, wpAny_pure h⟩))) room)
    | exact wpAny_bind (wpAny_bind (m := Builtin.Tuple.tupleExact _) (wpAny_newObj_type (wpAny_pure (wpAny_pure ⟨_, rfl, wpAny_pure h⟩)) room))
    | exact wpAny_bind (wpAny_bind (m := Builtin.Tuple.tupleExact _) (wpAny_newObj_type (wpAny_pure ⟨_, rfl, wpAny_pure h⟩) room))
end
section
variable {X : Cx}
def tRevT (K : PySem.W.Frag) (te : TE) : TE := fun σ H Q => te σ H fun x H1 => ∃ a xs, x = .ref a ∧ SqT K H1 a xs ∧ ∀ p, H1 p = none → Q (.ref p) (upd H1 p (.tup xs.reverse))
theorem pe_revT {e : Expr} {te : TE} {k : Nat} {p1 p2 p3 pos : Pos} (he : PE X e te) : PE X (.Subscript e (.Slice none none (some (.UnaryOp .USub (.Constant (.int 1) k p1) p2)) p3) pos) (tRevT X.K te) := by
  constructor
  intro pins s σ H Q I h
  refine Subscript_ (thn (he.run pins s σ H _ I h) fun v s1 ⟨x, H1, I1, r1, a, xs, ex, hx, q⟩ => ?_)
  subst ex
  cases r1
  have hst : PO X (some (.UnaryOp .USub (.Constant (.int 1) k p1) p2)) (tPart (tUn (rU fun i => .int (-i)) (tC (.int 1)))) := po_some (pe_un un_neg pe_int)
  refine wpAny_Slice (thn (po_none.run pins s1 σ H1 (fun o H2 => o = none ∧ H2 = H1) I1 ⟨rfl, rfl⟩) fun vl s2 ⟨l, H2, I2, pl, el, e2⟩ => ?_)
  subst el e2
  refine thn (po_none.run pins s2 σ H2 (fun o H3 => o = none ∧ H3 = H2) I2 ⟨rfl, rfl⟩) fun vu s3 ⟨u, H3, I3, pu, eu, e3⟩ => ?_
  subst eu e3
  refine thn (hst.run pins s3 σ H3 (fun o H4 => o = some (-1) ∧ H4 = H3) I3 ⟨1, rfl, -1, rfl, rfl, rfl⟩) fun vs s4 ⟨o, H4, I4, ps, eo, e4⟩ => ?_
  subst eo e4
  cases pl
  cases pu
  have I5 : Inv X pins σ H4 { s4 with heap := s4.heap.push { cls := .type "slice", data := .fields #[.none, .none, vs] } } := I4.kept (t' := s4.toks) fun b ob q => Heap.get?_push_of_some _ q
  obtain ⟨its, r, ht, hz⟩ := I5.tuple hx
  have hlen := r.length
  show wpAny (model X.prog X.w) X.A (subscriptTail e (.Slice none none (some (.UnaryOp .USub (.Constant (.int 1) k p1) p2)) p3) (.ref a) (.ref s4.heap.objs.size)) (EP X pins σ Q) X.xe { s4 with heap := s4.heap.push { cls := .type "slice", data := .fields #[.none, .none, vs] } }
  refine tail_any (ops := [.ref a, .ref s4.heap.objs.size]) (IsTup.typeIs ht) (PyProof.Rows.slot_tuple_getitem.lookup) ?_ (by with_unfolding_all rfl)
  refine getItem_rev ht (Heap.IsSliceOf.new _ .none .none vs) ps ?_ (by rw [List.size_toArray]; omega)
  refine ⟨.ref _, _, I5.laid (t' := s4.toks) (o := .tup xs.reverse) (fun b ob q => Heap.get?_push_of_some _ q) (Nat.le_refl _) ?_, rfl, q _ (I5.hok.fresh (Nat.le_refl _))⟩
  exact ⟨by rw [List.length_reverse]; exact hz, _, r.reverse, ⟨_, Heap.get?_push_size _ rfl, rfl, _, rfl⟩⟩
end
theorem DqAll.rev {K : PySem.W.Frag} {F : Addr → Prop} {H : Hp} : ∀ {vs : List V} {ds : List D}, DqAll K F H vs ds → DqAll K F H vs.reverse ds.reverse
  | _, _, .nil => .nil
  | _, _, .cons r t => by
    rw [List.reverse_cons, List.reverse_cons]
    exact (DqAll.rev t).append (.cons r .nil)
section
variable {C : Zn} {X : Cx} {e : Expr} {te : DT} {pos : Pos}
/-- e[::-1], e a tuple -/
def dRev (te : DT) : DT := fun δ Q => te δ fun r => match r.sup with
  | some (.tuple ds) => Q (.val (.sh (.tuple ds.reverse)))
  | _ => False
theorem d_rev {k : Nat} {p1 p2 p3 : Pos} (he : PD C X e te) : PD C X (.Subscript e (.Slice none none (some (.UnaryOp .USub (.Constant (.int 1) k p1) p2)) p3) pos) (dRev te) := by
  refine ⟨fun δ Q Q' m q => he.mono δ _ _ (fun r q => ?_) q, (pe_revT he.run).imp fun σ H Q q => ?_⟩
  · split at q
    · exact m _ q
    · exact q
  · obtain ⟨δ, F, x, q⟩ := q
    refine ⟨δ, F, x, he.mono δ _ _ (fun r q F1 H1 v g rr => ?_) q⟩
    split at q
    · rename_i ds es
      obtain ⟨F2, g2, _, sp⟩ := RR.sup x.bs g rr es
      obtain ⟨a, vs, rfl, h1, h2⟩ := sp.tup
      refine ⟨a, vs, rfl, h1, fun p n => ?_⟩
      obtain ⟨g3, r3⟩ := RR.newt (K := X.K) x.bs g2 h2.rev n
      exact q F2 _ _ g3 r3
    · exact q.elim
@[simp] theorem dRev_e {δ : DE} {Q : R → Prop} (te : DT) : dRev te δ Q = te δ fun r => match r.sup with
  | some (.tuple ds) => Q (.val (.sh (.tuple ds.reverse)))
  | _ => False := rfl
end
end DL
set_option Elab.async false
set_option linter.all false
set_option maxRecDepth 100000
set_option maxHeartbeats 2000000
namespace DL
open PySem PySem.Spec L2
open PyProof.Rows hiding St
/-! ### dict displays; .get of them -/
abbrev DPs := DE → (List (Key × D) → Prop) → Prop
def dPNil : DPs := fun _ Q => Q []
def dPCons (tk tv : DT) (t : DPs) : DPs := fun δ Q => tk δ fun y => onKey1 y fun k => tv δ fun z => match z.fd with
  | some d => t δ fun ds => Q ((k, d) :: ds)
  | none => False
section
variable {C : Zn} {X : Cx} {k v e f o : Expr} {tk tv te tf to : DT} {t : DPs} {pos : Pos} {keys : List (Option Expr)} {values : List Expr}
/-- {k: v, ..} -/
def dDisp (t : DPs) : DT := fun δ Q => t δ fun ds => Q (.val (.dic (shs (mergeD [] ds))))
/-- o.get(e, f), o a new dict -/
def dGetX (to te tf : DT) : DT := fun δ Q => to δ fun r => match r with
  | .val (.dic es) => ∃ ds, es = shs ds ∧ te δ fun y => onKey1 y fun k => tf δ fun z => (match z.fd with
    | some d => Q (.val (.sh ((valD ds k).getD d)))
    | none => False)
  | _ => False
@[simp] theorem dPNil_e {δ : DE} {Q : List (Key × D) → Prop} : dPNil δ Q = Q [] := rfl
@[simp] theorem dPCons_e {δ : DE} {Q : List (Key × D) → Prop} (tk tv : DT) (t : DPs) : dPCons tk tv t δ Q = tk δ fun y => onKey1 y fun k => tv δ fun z => match z.fd with
  | some d => t δ fun ds => Q ((k, d) :: ds)
  | none => False := rfl
@[simp] theorem dDisp_e {δ : DE} {Q : R → Prop} (t : DPs) : dDisp t δ Q = t δ fun ds => Q (.val (.dic (shs (mergeD [] ds)))) := rfl
@[simp] theorem dGetX_e {δ : DE} {Q : R → Prop} (to te tf : DT) : dGetX to te tf δ Q = to δ fun r => match r with
  | .val (.dic es) => ∃ ds, es = shs ds ∧ te δ fun y => onKey1 y fun k => tf δ fun z => (match z.fd with
    | some d => Q (.val (.sh ((valD ds k).getD d)))
    | none => False)
  | _ => False := rfl
end
end DL
set_option Elab.async false
set_option linter.all false
set_option maxRecDepth 100000
set_option maxHeartbeats 1000000
namespace HL
open PySem PySem.Spec L2 DL
open PyProof.Rows hiding St
/-! ### highest and lowest ones -/
def pondP (r : Nat → Nat → Bool) (p : Nat → Bool) (x y : Nat) : Bool := (r x y && r y x) && p y
def topP (n : Nat) (r : Nat → Nat → Bool) (p : Nat → Bool) (x : Nat) : Bool := (List.range n).all fun y => (r x y && p y) == pondP r p x y
def leastP (r : Nat → Nat → Bool) (p : Nat → Bool) (x : Nat) : Bool := (List.range x).all fun y => !pondP r p x y
def endsP (n : Nat) (r : Nat → Nat → Bool) (p : Nat → Bool) (x : Nat) : Bool := p x && (topP n r p x && leastP r p x)
theorem topP_iff {n : Nat} {r : Nat → Nat → Bool} {p : Nat → Bool} {x : Nat} : topP n r p x = true ↔ ∀ y, y < n → r x y = true → p y = true → r y x = true := by
  unfold topP pondP
  rw [List.all_eq_true]
  constructor
  · intro h y hy a b
    have := h y (List.mem_range.mpr hy)
    simpa [a, b] using this
  · intro h y hy
    have hy := List.mem_range.mp hy
    cases a : r x y <;> cases b : p y <;> simp
    exact h y hy a b
theorem leastP_iff {r : Nat → Nat → Bool} {p : Nat → Bool} {x : Nat} : leastP r p x = true ↔ ∀ y, y < x → pondP r p x y = false := by
  unfold leastP
  rw [List.all_eq_true]
  constructor
  · intro h y hy
    simpa using h y (List.mem_range.mpr hy)
  · intro h y hy
    rw [h y (List.mem_range.mp hy)]; rfl
structure Pre (n : Nat) (r : Nat → Nat → Bool) : Prop where
  rf : ∀ a, r a a = true
  tr : ∀ a b c, r a b = true → r b c = true → r a c = true
theorem least_ex {q : Nat → Bool} {n : Nat} : ∀ x, q x = true → ∃ y, y ≤ x ∧ q y = true ∧ ∀ z, z < y → q z = false := by
  intro x
  induction x using Nat.strongRecOn with
  | ind x ih =>
    intro h
    by_cases e : ∃ z, z < x ∧ q z = true
    · obtain ⟨z, hz, qz⟩ := e
      obtain ⟨y, h1, h2, h3⟩ := ih z hz qz
      exact ⟨y, by omega, h2, h3⟩
    · refine ⟨x, Nat.le_refl _, h, fun z hz => ?_⟩
      cases w : q z with
      | false => rfl
      | true => exact absurd ⟨z, hz, w⟩ e
/-- each one lies under an end -/
theorem ends_cover {n : Nat} {r : Nat → Nat → Bool} {p : Nat → Bool} (h : Pre n r) {y : Nat} (hy : y < n) (py : p y = true) : ∃ x, x < n ∧ endsP n r p x = true ∧ r y x = true := by
  have key : ∀ (k y : Nat), ((List.range n).filter fun z => r y z && p z).length ≤ k → y < n → p y = true → ∃ x, x < n ∧ endsP n r p x = true ∧ r y x = true := by
    intro k
    induction k with
    | zero =>
      intro y hk hy py
      have : y ∈ (List.range n).filter fun z => r y z && p z := List.mem_filter.mpr ⟨List.mem_range.mpr hy, by rw [h.rf, py]; rfl⟩
      have := List.length_pos_of_mem this
      omega
    | succ k ih =>
      intro y hk hy py
      by_cases t : topP n r p y = true
      · have qy : pondP r p y y = true := by unfold pondP; rw [h.rf, py]; rfl
        obtain ⟨x, h1, h2, h3⟩ := least_ex (n := n) (q := pondP r p y) y qy
        unfold pondP at h2
        rw [Bool.and_eq_true, Bool.and_eq_true] at h2
        obtain ⟨⟨a, b⟩, c⟩ := h2
        refine ⟨x, by omega, ?_, a⟩
        unfold endsP
        rw [Bool.and_eq_true, Bool.and_eq_true]
        refine ⟨c, topP_iff.mpr fun z hz u v => h.tr _ _ _ (topP_iff.mp t z hz (h.tr _ _ _ a u) v) a, leastP_iff.mpr fun z hz => ?_⟩
        have := h3 z hz
        cases w : pondP r p x z with
        | false => rfl
        | true =>
          unfold pondP at w this
          rw [Bool.and_eq_true, Bool.and_eq_true] at w
          rw [h.tr _ _ _ a w.1.1, h.tr _ _ _ w.1.2 b, w.2] at this
          cases this
      · have : ∃ z, z < n ∧ r y z = true ∧ p z = true ∧ ¬ r z y = true := by
          rcases Classical.em (∃ z, z < n ∧ r y z = true ∧ p z = true ∧ ¬ r z y = true) with e | e
          · exact e
          · exact absurd (topP_iff.mpr fun z hz a b => by
              rcases Classical.em (r z y = true) with w | w
              · exact w
              · exact absurd ⟨z, hz, a, b, w⟩ e) t
        obtain ⟨z, hz, a, b, c⟩ := this
        have lt : ((List.range n).filter fun w => r z w && p w).length < ((List.range n).filter fun w => r y w && p w).length := by
          have sub : ∀ w ∈ (List.range n).filter (fun w => r z w && p w), w ∈ ((List.range n).filter fun w => r y w && p w).erase y := fun w m => by
            have m := List.mem_filter.mp m
            have m2 := m.2
            rw [Bool.and_eq_true] at m2
            refine (List.mem_erase_of_ne fun e => c (by rw [← e]; exact m2.1)).mpr (List.mem_filter.mpr ⟨m.1, ?_⟩)
            rw [h.tr _ _ _ a m2.1, m2.2]; rfl
          have nd : ((List.range n).filter fun w => r z w && p w).Nodup := (List.nodup_range (n := n)).filter _
          have l1 := nat_nodup_len _ _ nd sub
          have my : y ∈ (List.range n).filter fun w => r y w && p w := List.mem_filter.mpr ⟨List.mem_range.mpr hy, by rw [h.rf, py]; rfl⟩
          rw [List.length_erase_of_mem my] at l1
          have := List.length_pos_of_mem my
          omega
        obtain ⟨x, hx, ex, rx⟩ := ih z (by omega) hz b
        exact ⟨x, hx, ex, h.tr _ _ _ a rx⟩
  exact key _ y (Nat.le_refl _) hy py
theorem Hill.pre {n : Nat} {ps : List Pr} (h : Hill n ps) : Pre n (le ps) := ⟨le_refl' ps, fun a b c h1 h2 => h.letr h1 h2⟩
def ge (ps : List Pr) (a b : Nat) : Bool := le ps b a
theorem Hill.pre' {n : Nat} {ps : List Pr} (h : Hill n ps) : Pre n (ge ps) := ⟨le_refl' ps, fun a b c h1 h2 => h.letr h2 h1⟩
theorem fl_head {n x : Nat} {q : Nat → Bool} (hx : x < n) (h : q x = true) : ∃ y, (fl n q)[0]? = some y ∧ (decide (y = x) = (List.range x).all fun z => !q z) := by
  have m : x ∈ fl n q := mem_fl.mpr ⟨hx, h⟩
  have pos := List.length_pos_of_mem m
  refine ⟨(fl n q)[0], List.getElem?_eq_getElem pos, ?_⟩
  have my := mem_fl.mp (List.getElem_mem pos)
  rw [Bool.eq_iff_iff, decide_eq_true_iff, List.all_eq_true]
  have le0 : ∀ z ∈ fl n q, (fl n q)[0] ≤ z := fun z mz => by
    obtain ⟨i, hi, rfl⟩ := List.getElem_of_mem mz
    by_cases e : i = 0
    · subst e; exact Nat.le_refl _
    · exact Nat.le_of_lt (List.pairwise_iff_getElem.mp (lot_fl n q).st 0 i pos hi (by omega))
  constructor
  · intro e z hz
    have hz := List.mem_range.mp hz
    cases w : q z with
    | false => rfl
    | true =>
      have := le0 z (mem_fl.mpr ⟨by omega, w⟩)
      omega
  · intro a
    have := le0 x m
    by_cases e : (fl n q)[0] = x
    · exact e
    · have := a (fl n q)[0] (List.mem_range.mpr (by omega))
      rw [my.2] at this
      cases this
def g_ends_of : Sg := pr (fun x : Nat × (Nat → Nat) × (Nat → Nat) × Nat × (Nat → Nat → Bool) × (Nat → Bool) => [.sh (.list (natsD x.2.1 x.1)), .sh (.list (natsD x.2.2.1 x.1)), .sh (.int x.2.2.2.1)])
  (fun x => x.1 ≤ 10 ∧ Pre x.1 x.2.2.2.2.1 ∧ (∀ b, b < x.1 → Msk x.1 (x.2.2.2.2.1 b) (x.2.1 b)) ∧ (∀ b, b < x.1 → Msk x.1 (fun y => x.2.2.2.2.1 y b) (x.2.2.1 b)) ∧ Msk x.1 x.2.2.2.2.2 x.2.2.2.1) (fun x dv => dv = ownL ((fl x.1 (endsP x.1 x.2.2.2.2.1 x.2.2.2.2.2)).map fun y : Nat => .int y))
def n_ends_of : List Str := ["beyond", "behind", "mask", "found", "x", "pond"]
def t_ends_of : DS := dSeq2 (dSet 3 (dLst (dNil))) (dSeq2 (dFor (dSeq (dCall g_lot_of (dCons (dVar 2) (dNil)))) (gN 4) (dSeq2 (dSet 5 (dOp fAnd (dOp fAnd (dOpR fIx (dVar 0) (dVar 4)) (dOpR fIx (dVar 1) (dVar 4))) (dVar 2))) (dIfS (dAnd (dTest (dOp (fRel sDep rEqv) (dOp fAnd (dOpR fIx (dVar 0) (dVar 4)) (dVar 2)) (dVar 5))) (dTest (dOp (fRel sDep rEqv) (dOpR fIx (dCall g_lot_of (dCons (dVar 5) (dNil))) (dC (.int 0))) (dVar 4)))) (dAppend 3 (dVar 4)) (dNext)))) (dRetV 3))
theorem p_ends_of (ds : List DV) (Q : DV → Prop) (h : g_ends_of ds Q) : t_ends_of { nx := fun _ => Q (.sh .none), rt := Q } (startD n_ends_of ds) := by
  obtain ⟨⟨n, f, g, m, r, p⟩, rfl, ⟨hn, hr, hf, hg, hm⟩, q⟩ := h
  have hn : n ≤ 10 := hn
  have hr : Pre n r := hr
  have hf : ∀ b, b < n → Msk n (r b) (f b) := hf
  have hg : ∀ b, b < n → Msk n (fun y => r y b) (g b) := hg
  have hm : Msk n p m := hm
  have hz : (1000 : Nat) ≤ sizeLine := by decide
  have q : Q (ownL ((fl n (endsP n r p)).map fun y : Nat => .int y)) := q _ rfl
  simp [t_ends_of, startD, n_ends_of]
  refine lot_call hm ?_
  simp [lotD]
  intro _
  refine forRun_ix (fun x : Nat => PyData.int x) (fl n p) (fun i δ => ∃ (a b : Option DV), δ = [some (.sh (.list (natsD f n))), some (.sh (.list (natsD g n))), some (.sh (.int m)), some (.own ((((fl n p).take i).filter (fun x => topP n r p x && leastP r p x)).map fun x : Nat => PyData.int x |> DV.sh)), a, b]) (fun i x δ e hI N hN => ?_) (fun δ hI => ?_) ⟨none, none, rfl⟩
  · obtain ⟨a, b, rfl⟩ := hI
    have hx := mem_fl.mp (List.mem_of_getElem? e)
    have hpond : Msk n (pondP r p x) ((f x &&& g x) &&& m) := ((hf x hx.1).and (hg x hx.1)).and hm
    have qx : pondP r p x x = true := by unfold pondP; rw [hr.rf, hx.2]; rfl
    obtain ⟨y, hy, ey⟩ := fl_head hx.1 qx
    have ll : ((((fl n p).take i).filter (fun x => topP n r p x && leastP r p x))).length < sizeLine := by
      have h1 := List.length_filter_le (fun x => topP n r p x && leastP r p x) ((fl n p).take i)
      have h2 : ((fl n p).take i).length ≤ n := Nat.le_trans (by rw [List.length_take]; omega) (fl_len n p)
      omega
    have c1 : ((f x &&& m : Nat) : Int) = ((f x &&& g x &&& m : Nat) : Int) ↔ topP n r p x = true := by
      rw [Int.natCast_inj]
      refine (((hf x hx.1).and hm).uniq hpond).trans ?_
      unfold topP
      rw [List.all_eq_true]
      exact ⟨fun h y my => by simpa using h y (List.mem_range.mp my), fun h y hy => by simpa using h y (List.mem_range.mpr hy)⟩
    have c2 : (y : Int) = (x : Int) ↔ leastP r p x = true := by
      unfold leastP
      rw [← ey, decide_eq_true_iff]
      omega
    have a0 : atI ((fl n (pondP r p x)).map fun x : Nat => PyData.int x) 0 = some (.int y) := atI_nat (j := 0) (by rw [List.getElem?_map, hy]; rfl)
    rw [take_one e, List.filter_append] at hN
    simp [natsD_at hx.1, band_nat]
    by_cases t : topP n r p x = true
    · rw [if_pos (c1.mpr t)]
      refine lot_call hpond ?_
      simp [lotD, a0]
      by_cases l : leastP r p x = true
      · rw [if_pos (c2.mpr l)]
        have e1 : [x].filter (fun x => topP n r p x && leastP r p x) = [x] := by simp [t, l]
        rw [e1, List.map_append] at hN
        exact ⟨ll, hN _ ⟨_, _, rfl⟩⟩
      · rw [if_neg (mt c2.mp l)]
        have e1 : [x].filter (fun x => topP n r p x && leastP r p x) = [] := by simp [t, l]
        rw [e1, List.append_nil] at hN
        exact hN _ ⟨_, _, rfl⟩
    · rw [if_neg (mt c1.mp t)]
      have e1 : [x].filter (fun x => topP n r p x && leastP r p x) = [] := by simp [t]
      rw [e1, List.append_nil] at hN
      exact hN _ ⟨_, _, rfl⟩
  · obtain ⟨a, b, rfl⟩ := hI
    rw [List.take_length]
    have e : (fl n p).filter (fun x => topP n r p x && leastP r p x) = fl n (endsP n r p) := by
      unfold fl endsP
      rw [List.filter_filter]
      exact List.filter_congr fun x _ => Bool.and_comm _ _
    simp [e]
    unfold ownL at q
    rw [List.map_map] at q
    exact q
end HL
set_option Elab.async false
set_option linter.all false
set_option maxRecDepth 100000
set_option maxHeartbeats 1000000
namespace DL
open PySem PySem.Spec L2
open PyProof.Rows hiding St
open PySem.W (alike dataLt dataLe AllAlike EachIs)
open PySem.Calls
/-! ### sorted of tuples of which some may be empty -/
def TupsD (ds : List D) : Prop := ∀ d ∈ ds, ∃ r, d = .tuple r
def fSortT : R → (R → Prop) → Prop := fun x Q => match x.sup with
  | some d => (match seqOf d with
    | some ds => (AllAlike ds ∧ TupsD ds ∧ ∀ d ∈ ds, d.depth ≤ 60) ∧ Q (.val (.own ((sortD ds).map DV.sh)))
    | none => False)
  | none => False
@[simp] theorem fSortT_o {Q : R → Prop} (ds : List D) : fSortT (.val (.own (ds.map DV.sh))) Q = ((AllAlike ds ∧ TupsD ds ∧ ∀ d ∈ ds, d.depth ≤ 60) ∧ Q (.val (.own ((sortD ds).map DV.sh)))) := by unfold fSortT; simp
@[simp] theorem fSortT_t {Q : R → Prop} (ds : List D) : fSortT (.val (.sh (.tuple ds))) Q = ((AllAlike ds ∧ TupsD ds ∧ ∀ d ∈ ds, d.depth ≤ 60) ∧ Q (.val (.own ((sortD ds).map DV.sh)))) := by unfold fSortT; simp
end DL
set_option Elab.async false
set_option linter.all false
set_option maxRecDepth 100000
set_option maxHeartbeats 1000000
namespace HL
open PySem PySem.Spec L2 DL
open PyProof.Rows hiding St
def g_highest_of : Sg := pr (fun x : Nat × List Pr × (Nat → Bool) × Nat => [.sh (bookD x.1 x.2.1), .sh (.int x.2.2.2)]) (fun x => Hill x.1 x.2.1 ∧ Msk x.1 x.2.2.1 x.2.2.2) (fun x dv => dv = ownL ((fl x.1 (endsP x.1 (le x.2.1) x.2.2.1)).map fun y : Nat => .int y))
def n_highest_of : List Str := ["hill", "mask"]
def t_highest_of : DS := dRet (dCall g_ends_of (dCons (dCall g_highs (dCons (dVar 0) (dNil))) (dCons (dCall g_lows (dCons (dVar 0) (dNil))) (dCons (dVar 1) (dNil)))))
theorem p_highest_of (ds : List DV) (Q : DV → Prop) (h : g_highest_of ds Q) : t_highest_of { nx := fun _ => Q (.sh .none), rt := Q } (startD n_highest_of ds) := by
  obtain ⟨⟨n, ps, p, m⟩, rfl, ⟨h, hm⟩, q⟩ := h
  have h : Hill n ps := h
  have hm : Msk n p m := hm
  simp [t_highest_of, startD, n_highest_of]
  refine pr_call (n, ps) rfl h.good ?_
  rintro dv ⟨f, rfl, hf⟩
  simp
  refine pr_call (n, ps) rfl h.good ?_
  rintro dv ⟨g, rfl, hg⟩
  simp
  refine pr_call (n, f, g, m, le ps, p) rfl ⟨h.good.hi, h.pre, fun b hb => msk_high h.good hb fun a => hf b a hb, fun b hb => msk_low h.good hb fun a => hg b a hb, hm⟩ ?_
  rintro dv rfl
  simp
  exact q _ rfl
def g_lowest_of : Sg := pr (fun x : Nat × List Pr × (Nat → Bool) × Nat => [.sh (bookD x.1 x.2.1), .sh (.int x.2.2.2)]) (fun x => Hill x.1 x.2.1 ∧ Msk x.1 x.2.2.1 x.2.2.2) (fun x dv => dv = ownL ((fl x.1 (endsP x.1 (ge x.2.1) x.2.2.1)).map fun y : Nat => .int y))
def n_lowest_of : List Str := ["hill", "mask"]
def t_lowest_of : DS := dRet (dCall g_ends_of (dCons (dCall g_lows (dCons (dVar 0) (dNil))) (dCons (dCall g_highs (dCons (dVar 0) (dNil))) (dCons (dVar 1) (dNil)))))
theorem p_lowest_of (ds : List DV) (Q : DV → Prop) (h : g_lowest_of ds Q) : t_lowest_of { nx := fun _ => Q (.sh .none), rt := Q } (startD n_lowest_of ds) := by
  obtain ⟨⟨n, ps, p, m⟩, rfl, ⟨h, hm⟩, q⟩ := h
  have h : Hill n ps := h
  have hm : Msk n p m := hm
  simp [t_lowest_of, startD, n_lowest_of]
  refine pr_call (n, ps) rfl h.good ?_
  rintro dv ⟨f, rfl, hf⟩
  simp
  refine pr_call (n, ps) rfl h.good ?_
  rintro dv ⟨g, rfl, hg⟩
  simp
  refine pr_call (n, f, g, m, ge ps, p) rfl ⟨h.good.hi, h.pre', fun b hb => msk_low h.good hb fun a => hf b a hb, fun b hb => msk_high h.good hb fun a => hg b a hb, hm⟩ ?_
  rintro dv rfl
  simp
  exact q _ rfl
/-! ### waters -/
def watL (n : Nat) (ps : List Pr) : List (List Nat) := ((List.range (2 ^ n)).filter fun m => isDn n ps m.testBit).map bitsOf
theorem msk_own {n m : Nat} (hn : n ≤ 10) (h : m < 2 ^ n) : Msk n m.testBit m := ⟨Nat.lt_of_lt_of_le h (Nat.pow_le_pow_right (by omega) hn : 2 ^ n ≤ 2 ^ 10), fun y => ⟨fun b => ⟨(by
    rcases Nat.lt_or_ge y n with e | e
    · exact e
    · rw [Nat.testBit_lt_two_pow (Nat.lt_of_lt_of_le h (Nat.pow_le_pow_right (by omega) e))] at b
      cases b), b⟩, fun b => b.2⟩⟩
end HL
set_option Elab.async false
set_option linter.all false
set_option maxRecDepth 100000
set_option maxHeartbeats 1000000
set_option Elab.async false
set_option linter.all false
set_option maxRecDepth 100000
set_option maxHeartbeats 1000000
namespace HL
open PySem PySem.Spec L2 DL
open PyProof.Rows hiding St
theorem dn_congr {n : Nat} {ps : List Pr} {p r : Nat → Bool} (e : ∀ x, x < n → p x = r x) (h : Dn n ps p) : Dn n ps r := fun a b ha hb l pb => by
  rw [← e a ha]
  exact h a b ha hb l (by rw [e b hb]; exact pb)
/-! the made script -/
end HL
set_option Elab.async false
set_option linter.all false
set_option maxRecDepth 100000
set_option maxHeartbeats 2000000
namespace DL
open PySem PySem.Spec L2
open PyProof.Rows hiding St
open PySem.W (alike dataLt dataLe AllAlike EachIs)
/-! ### dicts in a name whose keys are tuples of ints and texts (the keys alone) -/
section
variable {K : PySem.W.Frag} {C : Zn} {F F0 F1 F' : Addr → Prop} {H H0 H1 H' : Hp} {σ : L2.St} {δ : DE}
theorem Rep.ditOf {v : V} {kk : List (List Key)} {as : List Addr} (h : Rep K C F H v (.dit kk) as) : ∃ a ks, v = .ref a ∧ as = [a] ∧ H a = some (HOT C.P C.w a ks) ∧ (∀ q ∈ ks, SqT K H q.2 (q.1.map kV)) ∧ (ks.map (·.1)).Nodup ∧ ks.map (·.1) = kk := by
  generalize e : DV.dit kk = dv at h
  cases h with
  | dit h1 h2 h3 =>
    injection e with e
    exact ⟨_, _, rfl, rfl, h1, h2, h3, e.symm⟩
  | _ => cases e
def onDit (δ : DE) (i : Nat) (k : List (List Key) → Prop) : Prop := ∃ kk, δ[i]? = some (some (.dit kk)) ∧ k kk
theorem At0.dit (x : At0 K C F H σ δ) {i : Nat} {kk : List (List Key)} (e : δ[i]? = some (some (.dit kk))) : ∃ a ks, σ[i]? = some (some (.ref a)) ∧ H a = some (HOT C.P C.w a ks) ∧ KeysIn K H ks ∧ ks.map (·.1) = kk := by
  obtain ⟨as, E, nd, o, b⟩ := x
  obtain ⟨v, bs, e1, r, _⟩ := E.get e
  obtain ⟨a, ks, rfl, _, q1, q2, q3, q4⟩ := Rep.ditOf r
  exact ⟨a, ks, e1, q1, ⟨q2, q3⟩, q4⟩
end
/-! d[k] = v -/
section
variable {C : Zn} {F0 : Addr → Prop} {H0 : Hp} {X : Cx} {e f : Expr} {te tx tf : DT} {pos : Pos}
def dSetT (i : Nat) (tx te : DT) : DS := fun D δ => te δ fun _ => onDit δ i fun kk => kk.length ≤ sizeLine ∧ tx δ fun y => onKey y fun k => D.nx (δ.set i (some (.dit (putL kk k))))
/-! len(d) -/
def dLenT (i : Nat) : DT := fun δ Q => onDit δ i fun kk => kk.length ≤ sizeLine ∧ Q (.val (.sh (.int ((kk.length : Nat) : Int))))
/-! list(d) -/
def dListT (i : Nat) : DT := fun δ Q => onDit δ i fun kk => kk.length ≤ sizeLine ∧ Q (.val (.own ((kk.map tupD).map DV.sh)))
/-! sorted(d) -/
def dSortT (i : Nat) : DT := fun δ Q => onDit δ i fun kk => (AllAlike (kk.map tupD) ∧ kk.length ≤ sizeLine) ∧ Q (.val (.own ((sortD (kk.map tupD)).map DV.sh)))
/-! k in d -/
def inL (kk : List (List Key)) (k : List Key) : Bool := kk.any fun q => decide (q = k)
def dInT (i : Nat) (te : DT) (b : Bool) : DT := fun δ Q => onDit δ i fun kk => te δ fun y => onKey y fun k => Q (.val (.sh (.bool (inL kk k == b))))
/-! {k: v}, one pair -/
def dDisT (tk tv : DT) : DT := fun δ Q => tk δ fun y => onKey y fun k => tv δ fun _ => Q (.val (.dit [k]))
/-! dict([(k, v), ..]) -/
/-! {k: v for ..} -/
def dDcT (it : DI) (pat : DP) (tst : DB) (tk tv : DT) (vs : List Nat) : DT := fun δ Q => it δ fun ds => dcRun pat tst tk tv (wipeD δ vs) ds [] fun acc => Q (.val (.dit acc))
end
end DL
set_option Elab.async false
set_option linter.all false
set_option maxRecDepth 100000
set_option maxHeartbeats 2000000
namespace DL
open PySem PySem.Spec L2
open PyProof.Rows hiding St
open PySem.W (AllAlike)
section
variable {δ : DE} {E : DEnds} {Q : R → Prop}
def onTO (o : Option (Option DV)) (k : List (List Key) → Prop) : Prop := ∃ kk, o = some (some (.dit kk)) ∧ k kk
@[simp] theorem onDit_e (i : Nat) (k : List (List Key) → Prop) : onDit δ i k = onTO δ[i]? k := rfl
@[simp] theorem onTO_e (kk : List (List Key)) (k : List (List Key) → Prop) : onTO (some (some (.dit kk))) k = k kk := by
  apply propext
  constructor
  · rintro ⟨es, e, q⟩
    injection e with e
    injection e with e
    injection e with e
    rw [e]; exact q
  · exact fun q => ⟨kk, rfl, q⟩
@[simp] theorem dSetT_e (i : Nat) (tx te : DT) : dSetT i tx te E δ = te δ fun _ => onDit δ i fun kk => kk.length ≤ sizeLine ∧ tx δ fun y => onKey y fun k => E.nx (δ.set i (some (.dit (putL kk k)))) := rfl
@[simp] theorem dLenT_e (i : Nat) : dLenT i δ Q = onDit δ i fun kk => kk.length ≤ sizeLine ∧ Q (.val (.sh (.int ((kk.length : Nat) : Int)))) := rfl
@[simp] theorem dListT_e (i : Nat) : dListT i δ Q = onDit δ i fun kk => kk.length ≤ sizeLine ∧ Q (.val (.own ((kk.map tupD).map DV.sh))) := rfl
@[simp] theorem dSortT_e (i : Nat) : dSortT i δ Q = onDit δ i fun kk => (AllAlike (kk.map tupD) ∧ kk.length ≤ sizeLine) ∧ Q (.val (.own ((sortD (kk.map tupD)).map DV.sh))) := rfl
@[simp] theorem dInT_e (i : Nat) (te : DT) (b : Bool) : dInT i te b δ Q = onDit δ i fun kk => te δ fun y => onKey y fun k => Q (.val (.sh (.bool (inL kk k == b)))) := rfl
@[simp] theorem dDisT_e (tk tv : DT) : dDisT tk tv δ Q = tk δ fun y => onKey y fun k => tv δ fun _ => Q (.val (.dit [k])) := rfl
@[simp] theorem dDcT_e (it : DI) (pat : DP) (tst : DB) (tk tv : DT) (vs : List Nat) : dDcT it pat tst tk tv vs δ Q = it δ fun ds => dcRun pat tst tk tv (wipeD δ vs) ds [] fun acc => Q (.val (.dit acc)) := rfl
end
end DL
set_option Elab.async false
set_option linter.all false
set_option maxRecDepth 100000
set_option maxHeartbeats 2000000
namespace DL
open PySem PySem.Spec L2
open PyProof.Rows hiding St
open PySem.W (alike dataLt dataLe AllAlike EachIs)
/-! ### sorted(set([..])), the items tuples of whole numbers of any lengths -/
def tupI (k : List Int) : D := .tuple (k.map PyData.int)
/-! the reading -/
def tupsOf : List D → Option (List (List Int))
  | [] => some []
  | .tuple kd :: ds => (numsOf kd).bind fun k => (tupsOf ds).map (k :: ·)
  | _ => none
section
variable {C : Zn} {X : Cx} {e : Expr} {te : DT} {pos p p1 pos1 : Pos}
def dSortSetT (te : DT) : DT := fun δ Q => te δ fun r => match r.sup with
  | some (.list ds) => (match tupsOf ds with
    | some ks => ks.length < 64 ∧ ∀ ms : List (List Int), ms.Nodup → (∀ k, k ∈ ms ↔ k ∈ ks) → Q (.val (.own ((sortD (ms.map tupI)).map DV.sh)))
    | none => False)
  | _ => False
@[simp] theorem dSortSetT_e {δ : DE} {Q : R → Prop} (te : DT) : dSortSetT te δ Q = te δ fun r => match r.sup with
  | some (.list ds) => (match tupsOf ds with
    | some ks => ks.length < 64 ∧ ∀ ms : List (List Int), ms.Nodup → (∀ k, k ∈ ms ↔ k ∈ ks) → Q (.val (.own ((sortD (ms.map tupI)).map DV.sh)))
    | none => False)
  | _ => False := rfl
end
end DL
set_option Elab.async false
set_option linter.all false
set_option maxRecDepth 100000
set_option maxHeartbeats 2000000
namespace DL
open PySem PySem.Spec L2
open PyProof.Rows hiding St
open PySem.W (alike dataLt dataLe AllAlike EachIs)
/-! ### min and max of a list of whole numbers -/
def fMinL (g : Int → List Int → Int) : R → (R → Prop) → Prop := fun x Q => match x.sup with
  | some (.list ds) => (match numsOf ds with
    | some (n :: ns) => Q (.val (.sh (.int (g n ns))))
    | _ => False)
  | _ => False
@[simp] theorem fMinL_e {g : Int → List Int → Int} {x : R} {Q : R → Prop} : fMinL g x Q = (match x.sup with
  | some (.list ds) => (match numsOf ds with
    | some (n :: ns) => Q (.val (.sh (.int (g n ns))))
    | _ => False)
  | _ => False) := rfl
end DL
set_option Elab.async false
set_option linter.all false
set_option maxRecDepth 100000
set_option maxHeartbeats 1000000
namespace DL
open PySem PySem.Spec L2
open PyProof.Rows hiding St
/-! ### x[k].append(e): a list of one's own within a list of one's own -/
section
variable {K : PySem.W.Frag} {C : Zn} {F0 F F1 : Addr → Prop} {H0 H H1 : Hp} {σ : St} {δ : DE}
theorem At.inner (x : At K C F0 H0 σ δ F H) (g : Go C F H F1 H1) {i j : Nat} {es fs : List DV} (e : δ[i]? = some (some (.own es))) (ej : es[j]? = some (.own fs)) :
    ∃ a vs b ws cs, σ[i]? = some (some (.ref a)) ∧ H1 a = some (.lst vs) ∧ vs.length = es.length ∧ vs[j]? = some (.ref b) ∧ H1 b = some (.lst ws) ∧ Reps K C F1 H1 ws fs cs ∧ cs.Nodup ∧ (∀ c ∈ cs, ∃ o, H c = some o) ∧ (∃ o, H b = some o) ∧ ¬ C.Z a ∧
    ∀ ws' fs' cs', Reps K C F1 H1 ws' fs' cs' → cs'.Nodup → (∀ c ∈ cs', c ∈ cs ∨ (H c = none ∧ ¬ F1 c)) →
      At K C F0 H0 σ (δ.set i (some (.own (es.set j (.own fs'))))) F1 (upd H1 b (.lst ws')) ∧ Keep F H F1 (upd H1 b (.lst ws')) := by
  obtain ⟨a, vs3, bs3, h13, h23, h33, nd, ta, tb, nf, nz, ob, put⟩ := x.lens g e
  obtain ⟨b3, ws3, cs3, as13, as23, v1, v2, v3, v4, v5⟩ := h33.lens ej
  have mb : ∀ c ∈ b3 :: cs3, c ∈ bs3 := fun c m => by rw [v4]; exact List.mem_append_left _ (List.mem_append_right _ m)
  have nbF : ¬ F1 b3 ∧ ¬ C.Z b3 := ob b3 (mb b3 List.mem_cons_self)
  refine ⟨a, vs3, b3, ws3, cs3, h13, h23, h33.length, v1, v2, v3, ?_, fun c m => tb c (mb c (List.mem_cons_of_mem _ m)), tb b3 (mb b3 List.mem_cons_self), nz, fun ws' fs' cs' r ndc fr => ?_⟩
  · have n := (List.nodup_cons.mp nd).2
    rw [v4] at n
    exact (List.nodup_cons.mp (List.nodup_append.mp (List.nodup_append.mp n).1).2.1).2
  have kp : Keep F1 H1 F1 (upd H1 b3 (.lst ws')) := .put (by rw [v2]; trivial) nbF.1
  have isnew : ∀ c ∈ cs', c ∉ cs3 → H c = none ∧ ¬ F1 c := fun c m n => (fr c m).elim (fun z => absurd z n) id
  have newoff : ∀ c, H c = none → c ∉ a :: bs3 := fun c n m => by
    rcases List.mem_cons.mp m with rfl | m
    · obtain ⟨u, w⟩ := ta
      rw [n] at w; cases w
    · obtain ⟨u, w⟩ := tb c m
      rw [n] at w; cases w
  have ndb := (List.nodup_cons.mp nd).2
  have ndb' : (as13 ++ (b3 :: cs3) ++ as23).Nodup := v4 ▸ ndb
  have off : ∀ c ∈ as13 ++ as23, c ∉ b3 :: cs3 := fun c m z => by
    rcases List.mem_append.mp m with m | m
    · exact (List.nodup_append.mp (List.nodup_append.mp ndb').1).2.2 c m c z rfl
    · exact (List.nodup_append.mp ndb').2.2 c (List.mem_append_right _ z) c m rfl
  have ndm := (List.nodup_append.mp (List.nodup_append.mp ndb').1).2.1
  have inb : ∀ c ∈ as13 ++ as23, c ∈ bs3 := fun c m => by
    rw [v4]
    rcases List.mem_append.mp m with m | m <;> simp [m]
  have nes2 : b3 ∉ cs' := fun m => by
    rcases fr b3 m with m | ⟨m, _⟩
    · exact (List.nodup_cons.mp ndm).1 m
    · exact newoff b3 m (List.mem_cons_of_mem _ (mb b3 List.mem_cons_self))
  have r3 := r.mono kp fun c m => upd_ne fun z => nes2 (z ▸ m)
  have R := v5 F1 _ _ _ _ kp (fun c m => upd_ne fun z => off c m (z ▸ List.mem_cons_self)) upd_same r3
  have nab : a ≠ b3 := fun z => (List.nodup_cons.mp nd).1 (z ▸ mb b3 List.mem_cons_self)
  have n13 : (as13 ++ as23).Nodup := List.nodup_append.mpr ⟨(List.nodup_append.mp (List.nodup_append.mp ndb').1).1, (List.nodup_append.mp ndb').2.1, fun c m c' m' z => (List.nodup_append.mp ndb').2.2 c (List.mem_append_left _ m) c' m' z⟩
  have ndes2 : (b3 :: cs').Nodup := List.nodup_cons.mpr ⟨nes2, ndc⟩
  have offes : ∀ c ∈ as13 ++ as23, c ∉ b3 :: cs' := fun c m m' => by
    rcases List.mem_cons.mp m' with z | m'
    · exact off c m (z ▸ List.mem_cons_self)
    · rcases fr c m' with m' | ⟨m', _⟩
      · exact off c m (List.mem_cons_of_mem _ m')
      · exact newoff c m' (List.mem_cons_of_mem _ (inb c m))
  have ndall : (as13 ++ (b3 :: cs') ++ as23).Nodup := by
    refine List.nodup_append.mpr ⟨List.nodup_append.mpr ⟨(List.nodup_append.mp n13).1, ndes2, fun c m c' m' z => offes c (List.mem_append_left _ m) (z ▸ m')⟩, (List.nodup_append.mp n13).2.1, fun c m c' m' z => ?_⟩
    rcases List.mem_append.mp m with m | m
    · exact (List.nodup_append.mp n13).2.2 c m c' m' z
    · exact offes c' (List.mem_append_right _ m') (z ▸ m)
  have x3 := put vs3 _ _ (upd H1 b3 (.lst ws')) (fun c m => upd_ne fun z => m (List.mem_cons_of_mem _ (z ▸ mb b3 List.mem_cons_self))) (g.ok.put nbF.2) kp (by rw [upd_ne nab]; exact h23) R (List.nodup_cons.mpr ⟨fun m => by
    rcases List.mem_append.mp m with m | m
    · rcases List.mem_append.mp m with m | m
      · exact (List.nodup_cons.mp nd).1 (by rw [v4]; simp [m])
      · rcases List.mem_cons.mp m with z | m
        · exact nab z
        · rcases fr a m with m | ⟨m, _⟩
          · exact (List.nodup_cons.mp nd).1 (mb a (List.mem_cons_of_mem _ m))
          · exact newoff a m List.mem_cons_self
    · exact (List.nodup_cons.mp nd).1 (by rw [v4]; simp [m]), ndall⟩) (fun c m => by
    rcases List.mem_append.mp m with m | m
    · rcases List.mem_append.mp m with m | m
      · exact .inl (by rw [v4]; simp [m])
      · rcases List.mem_cons.mp m with z | m
        · exact .inl (z ▸ mb b3 List.mem_cons_self)
        · rcases fr c m with m | m
          · exact .inl (mb c (List.mem_cons_of_mem _ m))
          · exact .inr m
    · exact .inl (by rw [v4]; simp [m]))
  exact ⟨x3, (g.keep x.bs).trans kp⟩
end
section
variable {C : Zn} {F0 : Addr → Prop} {H0 : Hp} {X : Cx} {e : Expr} {te tx : DT} {pos : Pos}
def dAppendIx (i : Nat) (tx te : DT) : DS := fun D δ => onOwn δ i fun es => tx δ fun y => onI y fun n => match ixN es.length n, atI es n with
  | some j, some (.own fs) => fs.length < sizeLine ∧ te δ fun r => (match r.fx with
    | some dv => D.nx (δ.set i (some (.own (es.set j (.own (fs ++ [dv]))))))
    | none => False)
  | _, _ => False
theorem s_appendIx (i : Nat) {x : Str} {ix : Expr} {p p2 apos cpos : Pos} (hN : X.N[i]? = some x) (hv : Vis X.env.scope x) (hx : PD C X ix tx) (he : PD C X e te) (hpl : PlainIx ix) (hd : (x == ("__debug__" : Str)) = false := by decide) (hcd : (x == ("__classdict__" : Str)) = false := by decide)
    (hs0 : starEach [e] X.env = (false, eval e X.env) :: starEach [] X.env := by rfl)
    (hbase : attributeBase (.Subscript (.Name x p) ix p2) "append" X.env (eval (.Subscript (.Name x p) ix p2) X.env) = eval (.Subscript (.Name x p) ix p2) X.env := by rfl)
    (hfew : ((backTo cpos (starEach [e] X.env)).all (fun x => !x.1) && (backToKw cpos (keywordEach [] X.env)).all (fun x => x.1.isSome)
      && decide ([e].length + ([] : List Keyword).length + (if ([] : List Keyword).isEmpty then 0 else 1) < 30)) = true := by rfl)
    (hline : (apos.endLine == cpos.line) = true := by rfl) (hplain : (backTo cpos (starEach [] X.env)).any (·.1) = false := by rfl)
    (hs : swapsWith (.Call (.Attribute (.Subscript (.Name x p) ix p2) "append" apos) [e] [] cpos) none pos.line X.env = pure false := by rfl) :
    PSD C F0 H0 X (.Expr (.Call (.Attribute (.Subscript (.Name x p) ix p2) "append" apos) [e] [] cpos) pos) (dAppendIx i tx te) :=
  ⟨fun D D' δ l q => onOwn_mono (fun es q => hx.mono δ _ _ (fun y q => onI_mono (fun n q => by
    split at q
    · exact ⟨q.1, he.mono δ _ _ (fun r q => by
        cases e : r.fx with
        | none => rw [e] at q; exact q
        | some dv => rw [e] at q; exact l.nx _ q) q.2⟩
    · exact q) q) q) q,
   (ps_expr (pe_bm PySem.F.plainAttrs_list PySem.F.slot_list_append PySem.F.type_list_append mt_append (pe_ix ix_list (pe_var hN hv hd hcd) hx.run hpl) (pa_cons he.run pa_nil hs0) hbase hfew hline hs0 hplain) hs).imp fun D σ H q => by
    obtain ⟨δ, F, x, q⟩ := q
    obtain ⟨es, e1, q⟩ := onOwn_to q
    obtain ⟨a, vs, bs, z1, _⟩ := x.lens1 (.refl x.bs) e1
    refine ⟨.ref a, z1, δ, F, x.at0, hx.mono δ _ _ (fun y q F2 H2 w g rr => ?_) q⟩
    obtain ⟨n, rfl, q⟩ := onI_to rr q
    split at q
    · rename_i j fs hj ef
      have x2 := x.go g
      have jl := (ixN_seq hj).2.1
      have ej : es[j]? = some (.own fs) := by
        unfold atI at ef
        rw [hj] at ef
        exact ef
      obtain ⟨a', vs', b, ws, cs, h1', h2', hl', w1, w2, w3, _, _, wt, wz, _⟩ := x2.inner (.refl x2.bs) e1 ej
      rw [z1] at h1'
      cases h1'
      obtain ⟨qz, q⟩ := q
      refine ⟨a, vs', n, .ref b, rfl, rfl, SqL.of h2', by unfold atI; rw [hl', hj]; exact w1, .inl ⟨rfl, ws, SqL.of w2⟩, δ, F2, x2.at0, he.mono δ _ _ (fun r q F3 H3 v g3 rr3 => ?_) q⟩
      split at q
      · rename_i dv ed
        obtain ⟨a3, vs3, b3, ws3, cs3, y1, y2, yl, y3, y4, y5, ndc, yt, y6, yz, put⟩ := x2.inner g3 e1 ej
        rw [z1] at y1
        cases y1
        have hbb : b3 = b := by
          have : H3 a = some (.lst vs') := g3.same a _ h2' wz
          rw [y2] at this
          cases this
          rw [y3] at w1
          cases w1; rfl
        subst hbb
        obtain ⟨ds, q1, q2, q3⟩ := rr3.fx g3.ok ed
        obtain ⟨x3, k3⟩ := put (ws3 ++ [v]) (fs ++ [dv]) (cs3 ++ ds) (Reps.snoc y5 q1) (List.nodup_append.mpr ⟨ndc, q2, fun c m c' m' z => by
          obtain ⟨u, w⟩ := yt c m
          rw [z, (q3 c' m').2] at w; cases w⟩) (fun c m => by
          rcases List.mem_append.mp m with m | m
          · exact .inl m
          · exact .inr ⟨(q3 c m).2, (q3 c m).1⟩)
        exact ⟨b3, ws3, v, rfl, rfl, y4, by rw [y5.length]; exact qz, q σ F3 _ x3 ((g.keep x.bs).trans k3)⟩
      · exact q.elim
    · exact q.elim⟩
def dAppPop1 (i : Nat) (te : DT) : DS := fun D δ => onOwn δ i fun es => es.length < sizeLine ∧ te δ fun r => onI r fun n => (-(2 ^ 63) ≤ n ∧ n < 2 ^ 63) ∧ match seqIndex? n es.length with
  | some k => atSh es k fun d => D.nx (δ.set i (some (.own (es.eraseIdx k ++ [.sh d]))))
  | none => False
theorem s_apppop1 (i : Nat) {x : Str} {p p2 apos cpos apos2 cpos2 : Pos} (hi : X.N[i]? = some x) (hxv : Vis X.env.scope x) (he : PD C X e te)
    (hd : (x == ("__debug__" : Str)) = false := by decide) (hcd : (x == ("__classdict__" : Str)) = false := by decide)
    (hs0 : starEach [e] X.env = (false, eval e X.env) :: starEach [] X.env := by rfl)
    (hb2 : attributeBase (.Name x p2) "pop" X.env (eval (.Name x p2) X.env) = eval (.Name x p2) X.env := by rfl)
    (hf2 : ((backTo cpos2 (starEach [e] X.env)).all (fun x => !x.1) && (backToKw cpos2 (keywordEach [] X.env)).all (fun x => x.1.isSome)
      && decide ([e].length + ([] : List Keyword).length + (if ([] : List Keyword).isEmpty then 0 else 1) < 30)) = true := by rfl)
    (hl2 : (apos2.endLine == cpos2.line) = true := by rfl) (hp2 : (backTo cpos2 (starEach [] X.env)).any (·.1) = false := by rfl)
    (hs1 : starEach [.Call (.Attribute (.Name x p2) "pop" apos2) [e] [] cpos2] X.env = (false, eval (.Call (.Attribute (.Name x p2) "pop" apos2) [e] [] cpos2) X.env) :: starEach [] X.env := by rfl)
    (hbase : attributeBase (.Name x p) "append" X.env (eval (.Name x p) X.env) = eval (.Name x p) X.env := by rfl)
    (hfew : ((backTo cpos (starEach [.Call (.Attribute (.Name x p2) "pop" apos2) [e] [] cpos2] X.env)).all (fun x => !x.1) && (backToKw cpos (keywordEach [] X.env)).all (fun x => x.1.isSome)
      && decide ([Expr.Call (.Attribute (.Name x p2) "pop" apos2) [e] [] cpos2].length + ([] : List Keyword).length + (if ([] : List Keyword).isEmpty then 0 else 1) < 30)) = true := by rfl)
    (hline : (apos.endLine == cpos.line) = true := by rfl) (hplain : (backTo cpos (starEach [] X.env)).any (·.1) = false := by rfl)
    (hs : swapsWith (.Call (.Attribute (.Name x p) "append" apos) [.Call (.Attribute (.Name x p2) "pop" apos2) [e] [] cpos2] [] cpos) none pos.line X.env = pure false := by rfl) :
    PSD C F0 H0 X (.Expr (.Call (.Attribute (.Name x p) "append" apos) [.Call (.Attribute (.Name x p2) "pop" apos2) [e] [] cpos2] [] cpos) pos) (dAppPop1 i te) :=
  ⟨fun D D' δ l q => onOwn_mono (fun es q => ⟨q.1, he.mono δ _ _ (fun r q => onI_mono (fun n q => ⟨q.1, by
    have q2 := q.2
    split at q2
    · exact atSh_mono (fun d q => l.nx _ q) q2
    · exact q2⟩) q) q.2⟩) q,
   (ps_expr (pe_bm PySem.F.plainAttrs_list PySem.F.slot_list_append PySem.F.type_list_append mt_append (pe_var hi hxv hd hcd) (pa_cons
      (pe_bm PySem.F.plainAttrs_list PySem.F.slot_list_pop PySem.F.type_list_pop mt_popAt (pe_var hi hxv hd hcd) (pa_cons he.run pa_nil hs0) hb2 hf2 hl2 hs0 hp2) pa_nil hs1) hbase hfew hline hs1 hplain) hs).imp fun D σ H q => by
    obtain ⟨δ, F, x, q⟩ := q
    obtain ⟨es, e2, hz, q⟩ := onOwn_to q
    obtain ⟨b, ws, cs, g1, g2, g3, _⟩ := x.lens1 (.refl x.bs) e2
    refine ⟨.ref b, g1, .inl ⟨rfl, ws, SqL.of g2⟩, .ref b, g1, .inl ⟨rfl, ws, SqL.of g2⟩, δ, F, x.at0, he.mono δ _ _ (fun r q F' H' v g rr => ?_) q⟩
    obtain ⟨n, rfl, hn, q⟩ := onI_to rr q
    split at q
    · rename_i k hk
      unfold atSh at q
      split at q
      · rename_i d ed
        have x' := x.go g
        have il : i < δ.length := (List.getElem?_eq_some_iff.mp e2).1
        obtain ⟨b', ws', w, g1', g2', g3', g4', g5', x2, k2⟩ := x'.drop1 e2 ed
        rw [g1] at g1'
        cases g1'
        have e1' : (δ.set i (some (.own (es.eraseIdx k))))[i]? = some (some (.own (es.eraseIdx k))) := List.getElem?_set_self il
        obtain ⟨a', vs', bs', h1', h2', h3', nd, ta, tb, nf, nz, ob, put⟩ := x2.lens1 (.refl x2.bs) e1'
        rw [g1] at h1'
        cases h1'
        obtain ⟨x3, k3⟩ := put (vs' ++ [w]) (es.eraseIdx k ++ [.sh d]) (bs' ++ []) (Reps.snoc h3' (.sh (Dq.mono k2 _ _ g5'))) (by rw [List.append_nil]; exact nd) (fun c m => by rw [List.append_nil] at m; exact .inl m)
        rw [List.set_set] at x3
        have hlen : vs'.length < sizeLine := by
          rw [h3'.length]
          exact Nat.lt_of_le_of_lt (List.length_eraseIdx_le _ _) hz
        refine ⟨b, ws', n, k, w, rfl, rfl, g2', hn.1, hn.2, by rw [g3']; exact hk, g4', b, vs', w, rfl, rfl, h2', hlen, q σ F' _ x3 ((g.keep x.bs).trans (k2.trans k3))⟩
      · exact q.elim
    · exact q.elim⟩
end
/-! ### a def that is called by another name -/
structure GdA (P : Program) (w : World) (K : PySem.W.Frag) (mg : Str → Option Value) (base : Heap) (C : Zn) (x y : Str) (st : Stmt) (ps : List Str) (lev : Nat) (g : Sg) : Prop where
  mono : MonoG g
  ex : ∃ f fd, FnG P w K mg base CX0 lev f fd ps (spD C K g) ∧ mg x = some (.ref f) ∧ Fun K y y st f fd
section
variable {C : Zn} {X : Cx} {k : Nat} {ps ks : List Str} {x y : Str} {st : Stmt} {p pos : Pos} {e : Expr} {es : List Expr} {kws : List Keyword} {g : Sg} {t tk : DL'}
theorem d_callA {lev : Nat} (G : GdA X.prog X.w X.K X.mg X.base C x y st ps lev g) (b : Bnd y st ps) (hl : lev ≤ k) (gu : X.A.guards = some []) (hr : Room k X.A) (hx : Passes CX0 X E0)
    (ha : PDL C X (e :: es) t) (hg : Gl X x := by rfl) (hdb : (x == ("__debug__" : Str)) = false := by decide) (he : starEach (e :: es) X.env = (false, eval e X.env) :: starEach es X.env := by rfl) (hpl : (backTo pos (starEach es X.env)).any (·.1) = false := by rfl) :
    PD C X (.Call (.Name x p) (e :: es) [] pos) (dCall g t) := by
  obtain ⟨m, f, fd, F, hm, U⟩ := G
  exact d_call (F.mono hl) m gu hr hx hm U.kp (U.binds b) ha hg hdb he hpl
theorem gdA_mk {P : Program} {w : World} {K : PySem.W.Frag} {mg : Str → Option Value} {base : Heap} {C : Zn} {lev : Nat} {f : Addr} {fd : FuncData} (hm : mg x = some (.ref f)) (U : Fun K y y st f fd) (m : MonoG g) (F : FnG P w K mg base CX0 lev f fd ps (spD C K g)) : GdA P w K mg base C x y st ps lev g := ⟨m, f, fd, F, hm, U⟩
end
end DL
set_option Elab.async false
set_option linter.all false
set_option maxRecDepth 100000
set_option maxHeartbeats 3200000
namespace DL
open PySem PySem.Spec L2
open PyProof.Rows hiding St
/-! ### set(xs), xs a list of whole numbers -/
abbrev newS (w : World) : Obj := { cls := .type "set", dict := none, data := .set #[] 0 (.fresh 0 0 (!w.params.followText "set-order")) }
section
variable {P : Program} {w : World} {A : Around} {E : Value → Shared → Prop} {s : Shared}
/-- the heap with a new set, then with a new walker over a list -/
theorem newS_at (h : Heap) : (h.push (newS w)).get? h.objs.size = some (newS w) := Heap.get?_push_size _ rfl
theorem set_of_list {l : Addr} {items : Array Value} (ns : List Int) {Q : Value → Shared → Prop} (free : A.handled = none) (isl : s.heap.IsList l items) (allI : IntsAre items.toList ns) (few : ns.length + 1 < scanBound)
    (fin : ∀ (g : Heap) (tk c : Nat), SetR w g s.heap.objs.size (fun j => decide (j ∈ ns)) c → (∀ b o, s.heap.get? b = some o → g.get? b = some o) → Q (.ref s.heap.objs.size) { s with heap := g, toks := tk }) :
    wpAny (model P w) A (call (.type "set") [.ref l]) Q E s := by
  have count : items.size = ns.length := by rw [← IntsAre.length allI, Array.length_toList]
  obtain ⟨c, tl, mro⟩ := F.called_set.mro
  have f1 := F.called_set.made; have f2 := F.called_set.sub; have f3 := F.called_set.notType; have f4 := F.called_set.canCreate
  refine wpAny_call (codeAny_of_tree (show wpAny _ _ (callAny (.type "set") _) _ _ _ from wpAny_pure ⟨Code.quiet_builtin _ (by decide +kernel), codeAny_builtin F.entry_type_call ?_⟩))
  rw [Around.under_plain (weight_type_call_type "set" [.ref l] []) rfl]
  have f5 := F.typeCall_set_1 (.ref l)
  repeat (any_goals (first | assumption | wp_step))
  refine codeAny_mono (code_set_led1 (.ref l) (E := E) (Q₁ := fun ob t => ob = .ref s.heap.objs.size ∧ t = { s with heap := s.heap.push (newS w) }) ⟨rfl, rfl⟩) fun r t back => ?_
  match r, back with
  | .error _, back => exact back
  | .ok (.ret ob), back =>
    obtain ⟨rfl, rfl⟩ := back
    have ty : Shared.TypeIs { s with heap := s.heap.push (newS w) } (.ref s.heap.objs.size) "set" := ⟨_, newS_at s.heap, rfl⟩
    have f6 := F.called_set.init.lookup; have f7 := F.called_set.init.bind (.ref s.heap.objs.size)
    repeat (any_goals (first | assumption | wp_step))
    refine codeAny_mono (codeAny_call_builtin (R := wants (fun r u => r = .none ∧ ∃ g tk c, u = { s with heap := g, toks := tk } ∧ SetR w g s.heap.objs.size (fun j => decide (j ∈ ns)) c ∧ (∀ b o, s.heap.get? b = some o → g.get? b = some o)) E) F.called_set.init.plain F.entry_set_init (check_set_init_1 ty ?_)) fun r u back => ?_
    · obtain ⟨⟨lc, ld, la, ls⟩, at0, c0, cap, d0⟩ := isl
      dsimp only at c0 d0
      subst c0 d0
      have at1 : (s.heap.push (newS w)).get? l = some ⟨.type "list", ld, .seq items cap, ls⟩ := Heap.get?_push_of_some _ at0
      have f8 := F.sub_list_set; have f9 := F.sub_list_frozenset
      have f10 : (Value.type "list" == Value.type "dict") = false := by decide
      have isl1 : (s.heap.push (newS w)).IsList l items := ⟨_, at1, rfl, cap, rfl⟩
      unfold Builtin.«set.__init__» noKeywords Builtin.Frozenset.updateFrom
      generalize way : pyIter = it
      wp_walk
      subst way
      refine wpAny_pyIter_list isl1 (wpAny_bind (wpAny_runValue ?_))
      have ll := Heap.lt_size at0
      have size1 : (s.heap.push (newS w)).objs.size = s.heap.objs.size + 1 := Heap.size_push ..
      have n1 : l ≠ (s.heap.push (newS w)).objs.size := size1 ▸ Nat.ne_of_lt (Nat.lt_succ_of_lt ll)
      refine set_update_ints ((Walks.list (by simp [free]) _ l n1 items).toS) s.heap.objs.size ?_ ns count few (fun i v hv => ?_) (items.size - 0) 0 _ (by omega) (Nat.zero_le _) ⟨⟨_, Heap.get?_push_size _ rfl, rfl, rfl⟩, isl1.push _⟩ ⟨0, Nat.le_refl 0, setR_new_at (Heap.get?_push_of_some _ (newS_at s.heap))⟩ fun u c moved _ R => ?_
      · simp only [List.mem_cons, List.not_mem_nil, or_false, not_or]
        exact ⟨size1 ▸ Nat.ne_of_lt (Nat.lt_succ_self _), Nat.ne_of_gt ll⟩
      · have hi : i < ns.length := by rw [← count]; exact (Array.getElem?_eq_some_iff.mp hv).1
        obtain ⟨tk, e⟩ := PyProof.Rows.IntsAre.int_at allI i v (by rw [Array.getElem?_toList]; exact hv)
        refine ⟨ns[i], tk, List.getElem?_eq_getElem hi, ?_⟩
        rw [e, List.getD_eq_getElem?_getD, List.getElem?_eq_getElem hi]; rfl
      · obtain ⟨g, g2, d2, tk, os2⟩ := u
        obtain rfl : g2 = s.gens := moved.gens
        obtain rfl : d2 = s.drawn := moved.drawn
        obtain rfl : os2 = s.os := moved.os
        show wpAny _ _ _ _ _ _
        refine wpAny_pure (show wpAny _ _ (ret Value.none) _ _ _ from wpAny_pure ⟨rfl, g, tk, c, rfl, R, fun b o e => ?_⟩)
        have lb := Heap.lt_size e
        exact moved.heap b o (by simp only [List.mem_cons, List.not_mem_nil, or_false, not_or]; exact ⟨Nat.ne_of_lt lb, size1 ▸ Nat.ne_of_lt (Nat.lt_succ_of_lt lb)⟩) (Heap.get?_push_of_some _ (Heap.get?_push_of_some _ e))
    · match r, back with
      | .error _, back => exact back
      | .ok (.ret r), back =>
        obtain ⟨rfl, g, tk, c, rfl, R, keep⟩ := back
        repeat (any_goals (first | assumption | wp_step))
        exact fin g tk c R keep
end
theorem nodup_le {α : Type} [DecidableEq α] : ∀ (l m : List α), l.Nodup → (∀ x ∈ l, x ∈ m) → l.length ≤ m.length
  | [], _, _, _ => Nat.zero_le _
  | x :: l, m, nd, h => by
    have nd' := List.nodup_cons.mp nd
    have mx := h x List.mem_cons_self
    have := nodup_le l (m.erase x) nd'.2 fun y my => by
      have ne : y ≠ x := fun e => nd'.1 (e ▸ my)
      exact (List.mem_erase_of_ne ne).mpr (h y (List.mem_cons_of_mem _ my))
    rw [List.length_erase_of_mem mx] at this
    have lm : 0 < m.length := List.length_pos_of_mem mx
    rw [List.length_cons]
    omega
theorem setR_few {w : World} {h : Heap} {a : Addr} {ns ms : List Int} {c : Nat} (R : SetR w h a (fun j => decide (j ∈ ns)) c) (hm : ∀ k ∈ ns, k ∈ ms) : c ≤ ms.length := by
  obtain ⟨o, es, ep, t, _, _, _, _, nd, hS, _, _, hc, _⟩ := R
  have := nodup_le _ ms nd fun k mk => hm k (by
    have := (hS k).mpr mk
    simpa using this)
  rw [List.length_map, Array.length_toList, hc] at this
  exact this
/-- set(xs), xs a list or a tuple of whole numbers, few of them unlike -/
def rSetJ (K : PySem.W.Frag) (w : World) : List V → Hp → VK → Prop := fun xs H Q => ∃ (p : Addr) (ns ms : List Int), xs = [.ref p] ∧ (SqL K H p (ns.map V.int) ∨ SqT K H p (ns.map V.int)) ∧ ns.length ≤ 4000 ∧ (∀ k ∈ ns, k ∈ ms) ∧ ∀ a c, H a = none → c ≤ ms.length → Q (.ref a) (upd H a (SetO w a (fun j => decide (j ∈ ns)) c))
theorem cr_setJ {X : Cx} (hc : X.calm = true) : CallR X (.type "set") (rSetJ X.K X.w) := by
  intro pins s σ H xs us Q I r h
  obtain ⟨p, ns, ms, rfl, hs, hz, hm, q⟩ := h
  rw [Vals.ref1 r]
  rcases hs with hs | hs
  · obtain ⟨its, rv, hl, _⟩ := I.list hs
    refine set_of_list (P := X.prog) (w := X.w) ns (I.ok.hd hc) hl.isList (by simpa using ints_vals rv) (by unfold scanBound; omega) fun g tk c R k => ?_
    exact ⟨.ref s.heap.objs.size, _, I.laid (t' := tk) k (Nat.le_refl _) (setO_new R), rfl, q _ c (I.hok.fresh (Nat.le_refl _)) (setR_few R hm)⟩
  · obtain ⟨its, rv, hl, _⟩ := I.tuple hs
    refine call_set_tupI (P := X.prog) (w := X.w) ns (I.ok.hd hc) (show s.heap.IsTuple p its.toArray from hl) (by simpa using ints_vals rv) (by unfold scanBound; omega) fun g tk c R _ k => ?_
    exact ⟨.ref s.heap.objs.size, _, I.laid (t' := tk) k (Nat.le_refl _) (setO_new R), rfl, q _ c (I.hok.fresh (Nat.le_refl _)) (setR_few R hm)⟩
def itemsOf : D → Option (List D)
  | .list ds => some ds
  | .tuple ds => some ds
  | _ => none
section
variable {C : Zn} {X : Cx} {e : Expr} {te : DT} {pos p p1 pos1 : Pos}
/-- sorted(set(e)), e a list or a tuple of whole numbers -/
def dSortSetJ (te : DT) : DT := fun δ Q => te δ fun r => match r.sup.bind itemsOf with
  | some ds => (match numsOf ds with
    | some ns => (ns.length ≤ 4000 ∧ ∃ ms : List Int, ms.length ≤ 60 ∧ ∀ k ∈ ns, k ∈ ms) ∧ ∀ ms : List Int, ms.Pairwise (· < ·) → (∀ k, k ∈ ms ↔ k ∈ ns) → Q (.val (.own ((ms.map PyData.int).map DV.sh)))
    | none => False)
  | _ => False
theorem d_sortSetJ (hc : X.calm = true) (he : PD C X e te) (hm : X.mg "sorted" = none) (hm2 : X.mg "set" = none) (hg : Gl X "sorted" := by rfl) (hg2 : Gl X "set" := by rfl)
    (h1 : starEach [e] X.env = (false, eval e X.env) :: starEach [] X.env := by rfl) (hp1 : (backTo pos1 (starEach [] X.env)).any (·.1) = false := by rfl)
    (h2 : starEach [.Call (.Name "set" p1) [e] [] pos1] X.env = (false, eval (.Call (.Name "set" p1) [e] [] pos1) X.env) :: starEach [] X.env := by rfl) (hp2 : (backTo pos (starEach [] X.env)).any (·.1) = false := by rfl) :
    PD C X (.Call (.Name "sorted" p) [.Call (.Name "set" p1) [e] [] pos1] [] pos) (dSortSetJ te) := by
  refine ⟨fun δ Q Q' m q => he.mono δ _ _ (fun r q => ?_) q, ?_⟩
  · split at q
    · split at q
      · exact ⟨q.1, fun ms z1 z2 => m _ (q.2 ms z1 z2)⟩
      · exact q
    · exact q
  · refine (pe_callB (cr_sortedSet hc) hg hm (by decide +kernel) (pa_cons (pe_callTy (cr_setJ hc) hg2 hm2 (by decide +kernel) (pa_cons he.run pa_nil h1) (by decide) (by decide) h1 hp1) pa_nil h2) (by decide) (by decide) h2 hp2).imp fun σ H Q q => ?_
    obtain ⟨δ, F, x, q⟩ := q
    refine ⟨δ, F, x, he.mono δ _ _ (fun r q F1 H1 v g rr => ?_) q⟩
    split at q
    · rename_i ds eb
      obtain ⟨d, es, ed⟩ := Option.bind_eq_some_iff.mp eb
      split at q
      · rename_i ns en
        obtain ⟨⟨hz, ms, hms, hcov⟩, q⟩ := q
        obtain ⟨F2, g2, _, sp⟩ := RR.sup x.bs g rr es
        have key : ∃ a, v = .ref a ∧ (SqL X.K H1 a (ns.map V.int) ∨ SqT X.K H1 a (ns.map V.int)) := by
          cases d with
          | list ds' =>
            cases ed
            obtain ⟨a, vs, rfl, h3, h4⟩ := sp.lst
            rw [numsOf_eq en] at h4
            rw [DqAll.ints h4] at h3
            exact ⟨a, rfl, .inl h3.sq⟩
          | tuple ds' =>
            cases ed
            obtain ⟨a, vs, rfl, h3, h4⟩ := sp.tup
            rw [numsOf_eq en] at h4
            rw [DqAll.ints h4] at h3
            exact ⟨a, rfl, .inr h3⟩
          | _ => cases ed
        obtain ⟨a, rfl, h3⟩ := key
        refine ⟨a, ns, ms, rfl, h3, hz, hcov, fun b c nb hcn => ?_⟩
        refine ⟨b, _, c, rfl, upd_same, by omega, fun ms p' w1 w2 _ np => ?_⟩
        have gl := Go.laid (o := SetO X.w b (fun j => decide (j ∈ ns)) c) g2.ok nb
        obtain ⟨g3, r3⟩ := RR.newl (K := X.K) x.bs (g2.trans x.bs gl) (DqAll.ofInts ms) np
        exact q ms w1 (fun k => by rw [w2 k, decide_eq_true_eq]) F2 _ _ g3 r3
      · exact q.elim
    · exact q.elim
@[simp] theorem dSortSetJ_e {δ : DE} {Q : R → Prop} (te : DT) : dSortSetJ te δ Q = te δ fun r => match r.sup.bind itemsOf with
  | some ds => (match numsOf ds with
    | some ns => (ns.length ≤ 4000 ∧ ∃ ms : List Int, ms.length ≤ 60 ∧ ∀ k ∈ ns, k ∈ ms) ∧ ∀ ms : List Int, ms.Pairwise (· < ·) → (∀ k, k ∈ ms ↔ k ∈ ns) → Q (.val (.own ((ms.map PyData.int).map DV.sh)))
    | none => False)
  | _ => False := rfl
@[simp] theorem itemsOf_l (ds : List D) : itemsOf (.list ds) = some ds := rfl
@[simp] theorem itemsOf_t (ds : List D) : itemsOf (.tuple ds) = some ds := rfl
end
@[simp] theorem dAppendIx_e {δ : DE} {E : DEnds} (i : Nat) (tx te : DT) : dAppendIx i tx te E δ = onOwn δ i fun es => tx δ fun y => onI y fun n => match ixN es.length n, atI es n with
  | some j, some (.own fs) => fs.length < sizeLine ∧ te δ fun r => (match r.fx with
    | some dv => E.nx (δ.set i (some (.own (es.set j (.own (fs ++ [dv]))))))
    | none => False)
  | _, _ => False := rfl
@[simp] theorem dAppPop1_e {δ : DE} {E : DEnds} (i : Nat) (te : DT) : dAppPop1 i te E δ = onOwn δ i fun es => es.length < sizeLine ∧ te δ fun r => onI r fun n => (-(2 ^ 63) ≤ n ∧ n < 2 ^ 63) ∧ match seqIndex? n es.length with
  | some k => atSh es k fun d => E.nx (δ.set i (some (.own (es.eraseIdx k ++ [.sh d]))))
  | none => False := rfl
end DL
set_option Elab.async false
set_option linter.all false
set_option maxRecDepth 100000
set_option maxHeartbeats 1000000
namespace HL.R
open PySem PySem.Spec L2 DL
open PyProof.Rows hiding St
/-! ### maps of hills into hills -/
def pl (xs : List Nat) (a : Nat) : Nat := xs[a]?.getD 0
structure MapOk (n : Nat) (ps : List Pr) (m : Nat) (qs : List Pr) (xs : List Nat) : Prop where
  len : xs.length = n
  lt : ∀ x ∈ xs, x < m
  mono : ∀ p ∈ ps, le qs (pl xs p.1) (pl xs p.2) = true
theorem pl_get {xs : List Nat} {a : Nat} (h : a < xs.length) : xs[a]? = some (pl xs a) := by
  unfold pl
  rw [List.getElem?_eq_getElem h]
  rfl
section
variable {n m : Nat} {ps qs : List Pr} {xs : List Nat}
theorem MapOk.get (h : MapOk n ps m qs xs) {a : Nat} (ha : a < n) : xs[a]? = some (pl xs a) := pl_get (by rw [h.len]; exact ha)
theorem MapOk.lt' (h : MapOk n ps m qs xs) {a : Nat} (ha : a < n) : pl xs a < m := h.lt _ (List.mem_of_getElem? (h.get ha))
theorem MapOk.le (h : MapOk n ps m qs xs) {a b : Nat} (l : HL.le ps a b = true) : HL.le qs (pl xs a) (pl xs b) = true := by
  rcases le_iff.mp l with rfl | l
  · exact le_refl' _ _
  · exact h.mono _ l
theorem lot_get {xs : List Nat} {a : Nat} (h : a < xs.length) : (xs.map fun x : Nat => PyData.int x)[a]? = some (.int (pl xs a : Nat)) := by
  rw [List.getElem?_map, pl_get h]; rfl
theorem lot_atI {xs : List Nat} {a : Nat} (h : a < xs.length) : atI (xs.map fun x : Nat => PyData.int x) (a : Int) = some (.int (pl xs a : Nat)) := atI_nat (lot_get h)
end
def g_need_hills : Sg := pr (fun x : (Nat × List Pr) × (Nat × List Pr) => [.sh (bookD x.1.1 x.1.2), .sh (bookD x.2.1 x.2.2)]) (fun x => Hill x.1.1 x.1.2 ∧ Hill x.2.1 x.2.2) (fun _ dv => dv = .sh .none)
def n_need_hills : List Str := ["one", "other"]
def t_need_hills : DS := dSeq2 (dExpr (dCall g_need_hill (dCons (dVar 0) (dNil)))) (dExpr (dCall g_need_hill (dCons (dVar 1) (dNil))))
theorem p_need_hills (ds : List DV) (Q : DV → Prop) (h : g_need_hills ds Q) : t_need_hills { nx := fun _ => Q (.sh .none), rt := Q } (startD n_need_hills ds) := by
  obtain ⟨⟨⟨n, ps⟩, m, qs⟩, rfl, ⟨H1, H2⟩, q⟩ := h
  simp [t_need_hills, startD, n_need_hills]
  refine pr_call (n, ps) rfl H1 ?_
  rintro dv rfl
  refine pr_call (m, qs) rfl H2 ?_
  rintro dv rfl
  exact q _ rfl
abbrev MapA : Type := Nat × List Pr × Nat × List Pr × List Nat
abbrev mapArgs (x : MapA) : List DV := [.sh (bookD x.1 x.2.1), .sh (bookD x.2.2.1 x.2.2.2.1), .sh (lotD x.2.2.2.2)]
abbrev MapPre (x : MapA) : Prop := Hill x.1 x.2.1 ∧ Hill x.2.2.1 x.2.2.2.1 ∧ MapOk x.1 x.2.1 x.2.2.1 x.2.2.2.1 x.2.2.2.2
def g_is_map_value : Sg := pr mapArgs MapPre (fun _ dv => dv = .sh (.bool true))
def n_is_map_value : List Str := ["one", "other", "thing", "below", "place", "a", "b"]
def t_is_map_value : DS := dSeq2 (dIfS (dOr (dNot (dTest (dUn (fIsi "tuple") (dVar 2)))) (dTest (dOp (fRel sDep fun d e => !rEqv d e) (dCB (on1 fLen) (dCons (dVar 2) (dNil))) (dOpR fIx (dVar 0) (dC (.int 0)))))) (dRet (dC (.bool false))) (dNext)) (dSeq2 (dIfS (dNot (dTest (dCB (on1 (fBools fun bs => bs.all id)) (dCons (dLc (dSeqQ (dVar 2)) (gN 4) (dYes) (dCall g_is_between (dCons (dVar 4) (dCons (dC (.int 0)) (dCons (dOp fSub (dOpR fIx (dVar 1) (dC (.int 0))) (dC (.int 1))) (dNil))))) [4]) (dNil))))) (dRet (dC (.bool false))) (dNext)) (dSeq2 (dSet 3 (dCall g_lows (dCons (dVar 1) (dNil)))) (dRet (dCB (on1 (fBools fun bs => bs.all id)) (dCons (dLc (dSeqQ (dOpR fIx (dVar 0) (dC (.int 1)))) (gT 2 (gsCons (gN 5) (gsCons (gN 6) (gsNil)))) (dYes) (dOp (fRel sDep rEqv) (dOp fAnd (dOp fShr (dOpR fIx (dVar 3) (dOpR fIx (dVar 2) (dVar 6))) (dOpR fIx (dVar 2) (dVar 5))) (dC (.int 1))) (dC (.int 1))) [5, 6]) (dNil))))))
theorem p_is_map_value (ds : List DV) (Q : DV → Prop) (h : g_is_map_value ds Q) : t_is_map_value { nx := fun _ => Q (.sh .none), rt := Q } (startD n_is_map_value ds) := by
  obtain ⟨⟨n, ps, m, qs, xs⟩, rfl, ⟨H1, H2, M⟩, q⟩ := h
  have H1 : Hill n ps := H1
  have H2 : Hill m qs := H2
  have M : MapOk n ps m qs xs := M
  have q : Q (.sh (.bool true)) := q _ rfl
  have n10 := H1.good.hi
  have m10 := H2.good.hi
  have bl := book_len H1.good
  have hz : (1000 : Nat) ≤ sizeLine := by decide
  simp [t_is_map_value, startD, n_is_map_value, bookD, lotD, M.len, -List.map_map]
  intro _
  refine lcRun_map (fun x : Nat => PyData.int x) (fun _ => .sh (.bool true)) xs (by rw [M.len]; omega) (fun x mx P hP => ?_) ?_
  · have hx := M.lt x mx
    simp
    refine pr_call ((x : Int), 0, (m : Int) - 1) rfl trivial ?_
    rintro dv rfl
    have e : decide ((0 : Int) ≤ x ∧ (x : Int) ≤ m - 1) = true := by simp; omega
    simp only [e]
    exact hP
  have e1 : xs.map (fun _ : Nat => DV.sh (.bool true)) = ((xs.map fun _ => true).map PyData.bool).map DV.sh := by rw [List.map_map, List.map_map]; rfl
  rw [e1, fBools_o]
  simp [-List.map_map]
  refine pr_call (m, qs) rfl H2.good ?_
  rintro dv ⟨f, rfl, hf⟩
  simp [ownL, -List.map_map]
  intro _
  refine lcRun_map prD (fun _ => .sh (.bool true)) ps (by omega) (fun p mp P hP => ?_) ?_
  · have hp := H1.good.ok p mp
    have l1 : p.1 < xs.length := by rw [M.len]; exact hp.1
    have l2 : p.2 < xs.length := by rw [M.len]; exact hp.2.1
    have hb := M.lt' hp.2.1
    have ml : Msk m (fun y => HL.le qs y (pl xs p.2)) (f (pl xs p.2)) := msk_low H2.good hb fun a => hf _ a hb
    have hm := M.mono p mp
    have hbit : Builtin.bitAnd ((f (pl xs p.2) : Int) / 2 ^ (pl xs p.1)) 1 = 1 := (bit_iff _ _).mpr ((ml.2 _).mpr ⟨M.lt' hp.1, hm⟩)
    simp [prD, lot_atI l1, lot_atI l2, natsD_at hb, hbit, -List.map_map]
    exact hP
  have e2 : ps.map (fun _ : Pr => DV.sh (.bool true)) = ((ps.map fun _ => true).map PyData.bool).map DV.sh := by rw [List.map_map, List.map_map]; rfl
  have e3 : (ps.map fun _ : Pr => true).all id = true := List.all_eq_true.mpr (by simp)
  rw [e2, fBools_o, e3]
  simpa [-List.map_map] using q
def g_need_map : Sg := pr mapArgs MapPre (fun _ dv => dv = .sh .none)
def n_need_map : List Str := ["one", "other", "places"]
def t_need_map : DS := dSeq2 (dExpr (dCall g_need_hills (dCons (dVar 0) (dCons (dVar 1) (dNil))))) (dIfS (dNot (dTest (dCall g_is_map_value (dCons (dVar 0) (dCons (dVar 1) (dCons (dVar 2) (dNil))))))) (dNever) (dNext))
theorem p_need_map (ds : List DV) (Q : DV → Prop) (h : g_need_map ds Q) : t_need_map { nx := fun _ => Q (.sh .none), rt := Q } (startD n_need_map ds) := by
  obtain ⟨⟨n, ps, m, qs, xs⟩, rfl, ⟨H1, H2, M⟩, q⟩ := h
  simp [t_need_map, startD, n_need_map]
  refine pr_call ((n, ps), m, qs) rfl ⟨H1, H2⟩ ?_
  rintro dv rfl
  refine pr_call (n, ps, m, qs, xs) rfl ⟨H1, H2, M⟩ ?_
  rintro dv rfl
  simp
  exact q _ rfl
def g_need_water_maps : Sg := pr (fun x : Nat × List Pr × (Nat → Bool) => [.sh (bookD x.1 x.2.1), .sh (lotD (fl x.1 x.2.2))]) (fun x => Good x.1 x.2.1 ∧ Dn x.1 x.2.1 x.2.2) (fun _ dv => dv = .sh .none)
def n_need_water_maps : List Str := ["hill", "water"]
def t_need_water_maps : DS := dIfS (dNot (dTest (dCall g_is_lower_value (dCons (dVar 0) (dCons (dVar 1) (dNil)))))) (dNever) (dNext)
theorem p_need_water_maps (ds : List DV) (Q : DV → Prop) (h : g_need_water_maps ds Q) : t_need_water_maps { nx := fun _ => Q (.sh .none), rt := Q } (startD n_need_water_maps ds) := by
  obtain ⟨⟨n, ps, p⟩, rfl, ⟨G, hp⟩, q⟩ := h
  simp [t_need_water_maps, startD, n_need_water_maps]
  refine pr_call (n, ps, p) rfl G ?_
  rintro dv rfl
  have : isDn n ps p = true := isDn_iff.mpr hp
  simp [this]
  exact q _ rfl
def g_carried_mask : Sg := pr (fun x : List Nat × Nat × (Nat → Bool) × Nat => [.sh (lotD x.1), .sh (.int x.2.2.2)]) (fun x => x.1.length ≤ 10 ∧ (∀ y ∈ x.1, y < x.2.1) ∧ Msk x.2.1 x.2.2.1 x.2.2.2) (fun x dv => ∃ k : Nat, dv = .sh (.int k) ∧ Msk x.1.length (fun a => x.2.2.1 (pl x.1 a)) k)
def n_carried_mask : List Str := ["places", "mask", "terrace", "place"]
def t_carried_mask : DS := dRet (dCall g_mask_of (dCons (dLc (dEnum false (dVar 0)) (gT 2 (gsCons (gN 2) (gsCons (gN 3) (gsNil)))) (dTest (dOp (fRel sDep rEqv) (dOp fAnd (dOp fShr (dVar 1) (dVar 3)) (dC (.int 1))) (dC (.int 1)))) (dVar 2) [2, 3]) (dNil)))
theorem zipIdx_filter (xs : List Nat) (p : Nat → Bool) : ((xs.zipIdx.filter fun z => p z.1).map (·.2)) = fl xs.length fun a => p (pl xs a) := by
  refine fl_of ?_ fun a => ?_
  · have h0 : (xs.zipIdx.map (·.2)).Pairwise (· < ·) := by
      rw [List.zipIdx_map_snd]
      exact List.pairwise_lt_range'
    exact h0.sublist (List.filter_sublist.map _)
  · rw [List.mem_map]
    constructor
    · rintro ⟨⟨x, i⟩, mz, rfl⟩
      obtain ⟨mz, hp⟩ := List.mem_filter.mp mz
      obtain ⟨j, hj⟩ := List.getElem?_of_mem mz
      obtain ⟨e1, e2⟩ := zipIdx_at hj
      have e1 : xs[j]? = some x := e1
      have e2 : i = j := e2
      subst e2
      have li := (List.getElem?_eq_some_iff.mp e1).1
      have : pl xs i = x := by unfold pl; rw [e1]; rfl
      exact ⟨li, by rw [this]; exact hp⟩
    · rintro ⟨ha, hp⟩
      refine ⟨(pl xs a, a), List.mem_filter.mpr ⟨?_, hp⟩, rfl⟩
      have e : xs.zipIdx[a]? = some (pl xs a, a) := by
        rw [List.getElem?_zipIdx, pl_get ha]
        simp
      exact List.mem_of_getElem? e
theorem filterMap_map {α β : Type} (p : α → Bool) (f : α → β) : ∀ l : List α, (l.filterMap fun x => if p x = true then some (f x) else none) = (l.filter p).map f := filterMap_if p f
theorem p_carried_mask (ds : List DV) (Q : DV → Prop) (h : g_carried_mask ds Q) : t_carried_mask { nx := fun _ => Q (.sh .none), rt := Q } (startD n_carried_mask ds) := by
  obtain ⟨⟨xs, m, p, k⟩, rfl, ⟨hl, hx, hk⟩, q⟩ := h
  have hl : xs.length ≤ 10 := hl
  have hk : Msk m p k := hk
  have hz : (1000 : Nat) ≤ sizeLine := by decide
  simp [t_carried_mask, startD, n_carried_mask, lotD, -List.map_map]
  rw [enumD_map]
  refine lcRun_fn (fun p : Nat × Nat => .tuple [.int p.2, .int p.1]) (fun z : Nat × Nat => if p z.1 = true then some (.sh (.int z.2)) else none) xs.zipIdx [] (by simp; omega) (fun z mz P hP => ?_) ?_
  · obtain ⟨x, i⟩ := z
    have mx : x ∈ xs := by
      obtain ⟨j, hj⟩ := List.getElem?_of_mem mz
      exact List.mem_of_getElem? (zipIdx_at hj).1
    simp
    by_cases b : p x = true
    · simp [(msk_bit hk (hx x mx)).mpr b, b] at hP ⊢
      exact hP
    · simp [mt (msk_bit hk (hx x mx)).mp b, b] at hP ⊢
      exact hP
  · have e : xs.zipIdx.filterMap (fun z : Nat × Nat => if p z.1 = true then some (DV.sh (.int z.2)) else none) = (((xs.zipIdx.filter fun z => p z.1).map (·.2)).map fun x : Nat => PyData.int x).map DV.sh := by
      rw [filterMap_map (fun z : Nat × Nat => p z.1) fun z => DV.sh (.int z.2), List.map_map, List.map_map]
      rfl
    rw [List.nil_append, e, zipIdx_filter xs p]
    simp [-List.map_map]
    refine pr_call (fl xs.length fun a => p (pl xs a), true) rfl (fun x mx => Nat.lt_of_lt_of_le (mem_fl.mp mx).1 hl) ?_
    rintro dv ⟨m', rfl, h1, h2⟩
    exact q _ ⟨m', rfl, h1, fun y => by rw [h2, mem_fl]⟩
def g_carried_water : Sg := pr (fun x : MapA × (Nat → Bool) => mapArgs x.1 ++ [.sh (lotD (fl x.1.2.2.1 x.2))]) (fun x => MapPre x.1 ∧ Dn x.1.2.2.1 x.1.2.2.2.1 x.2) (fun x dv => dv = .sh (lotD (fl x.1.1 fun a => x.2 (pl x.1.2.2.2.2 a))))
def n_carried_water : List Str := ["one", "other", "places", "water"]
def t_carried_water : DS := dSeq2 (dExpr (dCall g_need_map (dCons (dVar 0) (dCons (dVar 1) (dCons (dVar 2) (dNil)))))) (dSeq2 (dExpr (dCall g_need_water_maps (dCons (dVar 1) (dCons (dVar 3) (dNil))))) (dRet (dCall g_lot_of (dCons (dCall g_carried_mask (dCons (dVar 2) (dCons (dCall g_mask_of (dCons (dVar 3) (dNil))) (dNil)))) (dNil)))))
theorem p_carried_water (ds : List DV) (Q : DV → Prop) (h : g_carried_water ds Q) : t_carried_water { nx := fun _ => Q (.sh .none), rt := Q } (startD n_carried_water ds) := by
  obtain ⟨⟨⟨n, ps, m, qs, xs⟩, p⟩, rfl, ⟨⟨H1, H2, M⟩, hp⟩, q⟩ := h
  have H2 : Hill m qs := H2
  have M : MapOk n ps m qs xs := M
  simp [t_carried_water, startD, n_carried_water]
  refine pr_call (n, ps, m, qs, xs) rfl ⟨H1, H2, M⟩ ?_
  rintro dv rfl
  refine pr_call (m, qs, p) rfl ⟨H2.good, hp⟩ ?_
  rintro dv rfl
  refine mask_call H2.good.hi fun k hk => ?_
  simp
  refine pr_call (xs, m, p, k) rfl ⟨by rw [M.len]; exact Hill.good H1 |>.hi, M.lt, hk⟩ ?_
  rintro dv ⟨k', rfl, hk'⟩
  rw [M.len] at hk'
  refine lot_call hk' ?_
  exact q _ rfl
/-- the terraces at which a deed is done when it is carried back -/
def carT (n : Nat) (ps qs : List Pr) (xs : List Nat) (d : Deed) : List Nat := fl n (endsP n (if d.1 = true then HL.le ps else ge ps) fun a => hits qs d (pl xs a))
theorem carT_len (n : Nat) (ps qs : List Pr) (xs : List Nat) (d : Deed) : (carT n ps qs xs d).length ≤ n := fl_len _ _
abbrev MapD : Type := MapA × Deed
def g_carried_terraces : Sg := pr (fun x : MapD => mapArgs x.1 ++ [.sh (deedD x.2)]) (fun x => MapPre x.1 ∧ x.2.2 < x.1.2.2.1) (fun x dv => dv = ownL ((carT x.1.1 x.1.2.1 x.1.2.2.2.1 x.1.2.2.2.2 x.2).map fun y : Nat => .int y))
def n_carried_terraces : List Str := ["one", "other", "places", "deed", "mask"]
def t_carried_terraces : DS := dSeq2 (dSet 4 (dCall g_carried_mask (dCons (dVar 2) (dCons (dCall g_reach_mask (dCons (dVar 1) (dCons (dVar 3) (dNil)))) (dNil))))) (dRet (dCB (on1 fSorted) (dCons (dIf (dTest (dOp (fRel sDep rEqv) (dOpR fIx (dVar 3) (dC (.int 0))) (dC (.str "pour")))) (dCall g_highest_of (dCons (dVar 0) (dCons (dVar 4) (dNil)))) (dCall g_lowest_of (dCons (dVar 0) (dCons (dVar 4) (dNil))))) (dNil))))
theorem p_carried_terraces (ds : List DV) (Q : DV → Prop) (h : g_carried_terraces ds Q) : t_carried_terraces { nx := fun _ => Q (.sh .none), rt := Q } (startD n_carried_terraces ds) := by
  obtain ⟨⟨⟨n, ps, m, qs, xs⟩, b, x⟩, rfl, ⟨⟨H1, H2, M⟩, hx⟩, q⟩ := h
  have H1 : Hill n ps := H1
  have H2 : Hill m qs := H2
  have M : MapOk n ps m qs xs := M
  have hx : x < m := hx
  have q : Q (ownL ((carT n ps qs xs (b, x)).map fun y : Nat => .int y)) := q _ rfl
  simp [t_carried_terraces, startD, n_carried_terraces]
  refine pr_call (m, qs, (b, x)) rfl ⟨H2.good, hx⟩ ?_
  rintro dv ⟨k, rfl, hk⟩
  refine pr_call (xs, m, _, k) rfl ⟨by rw [M.len]; exact H1.good.hi, M.lt, hk⟩ ?_
  rintro dv ⟨k', rfl, hk'⟩
  rw [M.len] at hk'
  have hk' : Msk n (fun a => hits qs (b, x) (pl xs a)) k' := hk'
  have srt : ∀ r p, sortD ((fl n (endsP n r p)).map fun y : Nat => PyData.int y) = (fl n (endsP n r p)).map fun y : Nat => PyData.int y := fun r p => sort_nats (List.Perm.refl _) (lot_fl n _).st
  cases b with
  | true =>
    simp [deedD, wordD, -List.map_map]
    refine pr_call (n, ps, _, k') rfl ⟨H1, hk'⟩ ?_
    rintro dv rfl
    simp [ownL, -List.map_map]
    refine ⟨⟨(nats_ok _).1, (nats_ok _).2.1, fun a _ => by rw [depth_int]; omega⟩, ?_⟩
    rw [srt]
    exact q
  | false =>
    simp [deedD, wordD, -List.map_map]
    refine pr_call (n, ps, _, k') rfl ⟨H1, hk'⟩ ?_
    rintro dv rfl
    simp [ownL, -List.map_map]
    refine ⟨⟨(nats_ok _).1, (nats_ok _).2.1, fun a _ => by rw [depth_int]; omega⟩, ?_⟩
    rw [srt]
    exact q
def carD (n : Nat) (ps qs : List Pr) (xs : List Nat) (d : Deed) : List Deed := (carT n ps qs xs d).map fun y => (d.1, y)
def g_deeds_carried : Sg := pr (fun x : MapD => mapArgs x.1 ++ [.sh (deedD x.2)]) (fun x => MapPre x.1 ∧ x.2.2 < x.1.2.2.1) (fun x dv => dv = .sh (scriptD (carD x.1.1 x.1.2.1 x.1.2.2.2.1 x.1.2.2.2.2 x.2)))
def n_deeds_carried : List Str := ["one", "other", "places", "deed", "terrace"]
def t_deeds_carried : DS := dRet (dCB (on1 fTuple) (dCons (dLc (dSeqQ (dCall g_carried_terraces (dCons (dVar 0) (dCons (dVar 1) (dCons (dVar 2) (dCons (dVar 3) (dNil))))))) (gN 4) (dYes) (dTup (dCons (dOpR fIx (dVar 3) (dC (.int 0))) (dCons (dVar 4) (dNil)))) [4]) (dNil)))
theorem p_deeds_carried (ds : List DV) (Q : DV → Prop) (h : g_deeds_carried ds Q) : t_deeds_carried { nx := fun _ => Q (.sh .none), rt := Q } (startD n_deeds_carried ds) := by
  obtain ⟨⟨⟨n, ps, m, qs, xs⟩, b, x⟩, rfl, ⟨⟨H1, H2, M⟩, hx⟩, q⟩ := h
  have H1 : Hill n ps := H1
  have hn := H1.good.hi
  have hz : (1000 : Nat) ≤ sizeLine := by decide
  have q : Q (.sh (scriptD (carD n ps qs xs (b, x)))) := q _ rfl
  simp [t_deeds_carried, startD, n_deeds_carried]
  refine pr_call ((n, ps, m, qs, xs), b, x) rfl ⟨⟨H1, H2, M⟩, hx⟩ ?_
  rintro dv rfl
  simp [ownL, deedD, -List.map_map]
  intro _
  refine lcRun_map (fun y : Nat => PyData.int y) (fun y => .sh (deedD (b, y))) _ (by have := carT_len n ps qs xs (b, x); show (carT n ps qs xs (b, x)).length ≤ sizeLine; omega) (fun y my P hP => ?_) ?_
  · simp
    exact hP
  · have e : (carT n ps qs xs (b, x)).map (fun y => DV.sh (deedD (b, y))) = ((carD n ps qs xs (b, x)).map deedD).map DV.sh := by unfold carD; rw [List.map_map, List.map_map]; rfl
    rw [e]
    simp [-List.map_map]
    exact q
def g_carried_deed : Sg := pr (fun x : MapD => mapArgs x.1 ++ [.sh (deedD x.2)]) (fun x => MapPre x.1 ∧ x.2.2 < x.1.2.2.1) (fun x dv => dv = .sh (scriptD (carD x.1.1 x.1.2.1 x.1.2.2.2.1 x.1.2.2.2.2 x.2)))
def n_carried_deed : List Str := ["one", "other", "places", "deed"]
def t_carried_deed : DS := dSeq2 (dExpr (dCall g_need_map (dCons (dVar 0) (dCons (dVar 1) (dCons (dVar 2) (dNil)))))) (dSeq2 (dIfS (dNot (dTest (dCall g_is_deed_value (dCons (dOpR fIx (dVar 1) (dC (.int 0))) (dCons (dVar 3) (dNil)))))) (dNever) (dNext)) (dRet (dCall g_deeds_carried (dCons (dVar 0) (dCons (dVar 1) (dCons (dVar 2) (dCons (dVar 3) (dNil))))))))
theorem p_carried_deed (ds : List DV) (Q : DV → Prop) (h : g_carried_deed ds Q) : t_carried_deed { nx := fun _ => Q (.sh .none), rt := Q } (startD n_carried_deed ds) := by
  obtain ⟨⟨⟨n, ps, m, qs, xs⟩, d⟩, rfl, ⟨⟨H1, H2, M⟩, hx⟩, q⟩ := h
  simp [t_carried_deed, startD, n_carried_deed]
  refine pr_call (n, ps, m, qs, xs) rfl ⟨H1, H2, M⟩ ?_
  rintro dv rfl
  simp [bookD, -List.map_map]
  refine pr_call (m, d) rfl hx ?_
  rintro dv rfl
  simp [-List.map_map]
  refine pr_call ((n, ps, m, qs, xs), d) rfl ⟨⟨H1, H2, M⟩, hx⟩ ?_
  rintro dv rfl
  exact q _ rfl
def carS (n : Nat) (ps qs : List Pr) (xs : List Nat) (s : List Deed) : List Deed := s.flatMap (carD n ps qs xs)
theorem carD_len (n : Nat) (ps qs : List Pr) (xs : List Nat) (d : Deed) : (carD n ps qs xs d).length ≤ n := by unfold carD; rw [List.length_map]; exact carT_len _ _ _ _ _
theorem carS_len (n : Nat) (ps qs : List Pr) (xs : List Nat) : ∀ s : List Deed, (carS n ps qs xs s).length ≤ n * s.length
  | [] => by simp [carS]
  | d :: s => by
    have h1 := carS_len n ps qs xs s
    have h2 := carD_len n ps qs xs d
    have e : carS n ps qs xs (d :: s) = carD n ps qs xs d ++ carS n ps qs xs s := by unfold carS; rw [List.flatMap_cons]
    rw [e, List.length_append, List.length_cons, Nat.mul_succ]
    omega
def g_carried_script : Sg := pr (fun x : MapA × List Deed => mapArgs x.1 ++ [.sh (scriptD x.2)]) (fun x => MapPre x.1 ∧ SOk x.1.2.2.1 x.2) (fun x dv => dv = .sh (scriptD (carS x.1.1 x.1.2.1 x.1.2.2.2.1 x.1.2.2.2.2 x.2)))
def n_carried_script : List Str := ["one", "other", "places", "script", "found", "deed"]
def t_carried_script : DS := dSeq2 (dExpr (dCall g_need_map (dCons (dVar 0) (dCons (dVar 1) (dCons (dVar 2) (dNil)))))) (dSeq2 (dIfS (dNot (dTest (dCall g_is_script_value (dCons (dOpR fIx (dVar 1) (dC (.int 0))) (dCons (dVar 3) (dNil)))))) (dNever) (dNext)) (dSeq2 (dSet 4 (dTup (dNil))) (dSeq2 (dFor (dSeq (dVar 3)) (gN 5) (dSet 4 (dOpR fAdd (dVar 4) (dCall g_deeds_carried (dCons (dVar 0) (dCons (dVar 1) (dCons (dVar 2) (dCons (dVar 5) (dNil))))))))) (dRetV 4))))
theorem p_carried_script (ds : List DV) (Q : DV → Prop) (h : g_carried_script ds Q) : t_carried_script { nx := fun _ => Q (.sh .none), rt := Q } (startD n_carried_script ds) := by
  obtain ⟨⟨⟨n, ps, m, qs, xs⟩, s⟩, rfl, ⟨⟨H1, H2, M⟩, hs⟩, q⟩ := h
  have hs : SOk m s := hs
  have hn : n ≤ 10 := Hill.good H1 |>.hi
  have hz : (100000 : Nat) ≤ sizeLine := by decide
  simp [t_carried_script, startD, n_carried_script]
  refine pr_call (n, ps, m, qs, xs) rfl ⟨H1, H2, M⟩ ?_
  rintro dv rfl
  simp [bookD, -List.map_map]
  refine pr_call (m, s) rfl hs ?_
  rintro dv rfl
  simp [scriptD, -List.map_map]
  intro _
  refine forRun_ix deedD s (fun i δ => ∃ y : Option DV, δ = [some (.sh (.tuple [.int n, .tuple (ps.map prD)])), some (.sh (.tuple [.int m, .tuple (qs.map prD)])), some (.sh (lotD xs)), some (.sh (.tuple (s.map deedD))), some (.sh (scriptD (carS n ps qs xs (s.take i)))), y]) (fun i d δ e hI N hN => ?_) (fun δ hI => ?_) ⟨none, rfl⟩
  · obtain ⟨y, rfl⟩ := hI
    have hd := hs.1 d (List.mem_of_getElem? e)
    simp [-List.map_map]
    refine pr_call ((n, ps, m, qs, xs), d) rfl ⟨⟨H1, H2, M⟩, hd⟩ ?_
    rintro dv rfl
    have e2 : carS n ps qs xs (s.take (i + 1)) = carS n ps qs xs (s.take i) ++ carD n ps qs xs d := by
      rw [take_one e]
      unfold carS
      rw [List.flatMap_append]
      simp
    rw [e2] at hN
    simp [scriptD, -List.map_map]
    have l1 := carS_len n ps qs xs (s.take i)
    have l2 := carD_len n ps qs xs d
    have l3 : (s.take i).length ≤ 1000 := by rw [List.length_take]; have := hs.2; omega
    have l4 : n * (s.take i).length ≤ 10 * 1000 := Nat.mul_le_mul hn l3
    refine ⟨by omega, hN _ ⟨some (.sh (deedD d)), ?_⟩⟩
    simp [scriptD]
  · obtain ⟨y, rfl⟩ := hI
    rw [List.take_length]
    simp [-List.map_map]
    exact q _ rfl
end HL.R
set_option Elab.async false
set_option linter.all false
set_option maxRecDepth 100000
set_option maxHeartbeats 1000000
namespace HL.R
open PySem PySem.Spec L2 DL
open PyProof.Rows hiding St
@[simp] theorem dSetIx2_e {δ : DE} {E : DEnds} (i : Nat) (tk tm te : DT) : dSetIx2 i tk tm te E δ = te δ fun r => match r.fx with
  | some dv => onOwn δ i fun es => tk δ fun y => onI y fun n => match atI es n, ixN es.length n with
    | some (.own fs), some j => tm δ fun z => onI z fun m => (match ixN fs.length m with
      | some l => E.nx (δ.set i (some (.own (es.set j (.own (fs.set l dv))))))
      | none => False)
    | _, _ => False
  | none => False := rfl
/-! ### a relation as rows of bools, closed step by step -/
def rStep (k : Nat) (r : Nat → Nat → Bool) (a b : Nat) : Bool := r a b || (r a k && r k b)
structure RInv (n : Nat) (ps : List Pr) (k : Nat) (r : Nat → Nat → Bool) : Prop where
  sound : ∀ a b, a < n → b < n → r a b = true → Rch ps a b
  base : ∀ a b, a < n → b < n → a = b ∨ (a, b) ∈ ps → r a b = true
  clos : ∀ j, j < k → j < n → ∀ a b, a < n → b < n → r a j = true → r j b = true → r a b = true
theorem rStep_iff {k : Nat} {r : Nat → Nat → Bool} {a b : Nat} : rStep k r a b = true ↔ r a b = true ∨ (r a k = true ∧ r k b = true) := by
  unfold rStep
  rw [Bool.or_eq_true, Bool.and_eq_true]
theorem RInv.step {n k : Nat} {ps : List Pr} {r : Nat → Nat → Bool} (w : RInv n ps k r) (hk : k < n) : RInv n ps (k + 1) (rStep k r) := by
  refine ⟨fun a b ha hb h => ?_, fun a b ha hb h => rStep_iff.mpr (.inl (w.base a b ha hb h)), fun j hj jn a b ha hb h1 h2 => ?_⟩
  · rcases rStep_iff.mp h with h | ⟨h1, h2⟩
    · exact w.sound a b ha hb h
    · exact (w.sound a k ha hk h1).trans (w.sound k b hk hb h2)
  · rw [rStep_iff] at h1 h2 ⊢
    rcases Nat.lt_or_ge j k with l | l
    · have cj := w.clos j l jn
      rcases h1 with h1 | ⟨h1, h1'⟩
      · rcases h2 with h2 | ⟨h2, h2'⟩
        · exact .inl (cj a b ha hb h1 h2)
        · exact .inr ⟨cj a k ha hk h1 h2, h2'⟩
      · rcases h2 with h2 | ⟨h2, h2'⟩
        · exact .inr ⟨h1, cj k b hk hb h1' h2⟩
        · exact .inr ⟨h1, h2'⟩
    · obtain rfl : j = k := by omega
      exact .inr ⟨h1.elim id fun z => z.1, h2.elim id fun z => z.2⟩
theorem RInv.congr {n k : Nat} {ps : List Pr} {r s : Nat → Nat → Bool} (w : RInv n ps k r) (h : ∀ a b, a < n → b < n → s a b = r a b) : RInv n ps k s :=
  ⟨fun a b ha hb q => w.sound a b ha hb (h a b ha hb ▸ q), fun a b ha hb q => (h a b ha hb).symm ▸ w.base a b ha hb q, fun j hj jn a b ha hb q1 q2 => by
    rw [h a b ha hb]
    rw [h a j ha jn] at q1
    rw [h j b jn hb] at q2
    exact w.clos j hj jn a b ha hb q1 q2⟩
theorem RInv.done {n : Nat} {ps : List Pr} {r : Nat → Nat → Bool} (w : RInv n ps n r) (G : ∀ p ∈ ps, p.1 < n ∧ p.2 < n) {a b : Nat} (ha : a < n) (hb : b < n) : r a b = reach ps a b := by
  rw [Bool.eq_iff_iff, reach_iff]
  refine ⟨w.sound a b ha hb, fun h => ?_⟩
  have key : b < n → r a b = true := by
    induction h with
    | refl => exact fun hb => w.base _ _ ha hb (.inl rfl)
    | @step b c t m ih =>
      intro hc
      have hb := (G _ m).1
      exact w.clos b hb hb a c ha hc (ih hb hb) (w.base b c hb hc (.inr m))
  exact key hb
def rowsV (n : Nat) (r : Nat → Nat → Bool) : List DV := (List.range n).map fun a => .own ((boolsD n (r a)).map DV.sh)
theorem rowsV_len (n : Nat) (r : Nat → Nat → Bool) : (rowsV n r).length = n := by unfold rowsV; simp
theorem fzs_maps {α : Type} (f : α → List D) : ∀ l : List α, DV.fzs (l.map fun a => DV.own ((f a).map DV.sh)) = some (l.map fun a => .list (f a))
  | [] => rfl
  | a :: l => by
    rw [List.map_cons, DV.fzs, DV.fz, fzs_sh, fzs_maps f l]
    rfl
theorem fzs_rows (n : Nat) (r : Nat → Nat → Bool) : DV.fzs (rowsV n r) = some (reachD n r) := fzs_maps (fun a => boolsD n (r a)) (List.range n)
@[simp] theorem onV_rows {n : Nat} {r : Nat → Nat → Bool} {K : R → Prop} : onV (some (some (.own (rowsV n r)))) K = K (.br (.list (reachD n r))) := by
  unfold onV
  simp only [fzs_rows]
theorem rowsV_get {n a : Nat} {r : Nat → Nat → Bool} (h : a < n) : atI (rowsV n r) (a : Int) = some (.own ((boolsD n (r a)).map DV.sh)) := atI_nat (by unfold rowsV; simp [h])
theorem rowsV_set {n a : Nat} {r : Nat → Nat → Bool} {g : Nat → Bool} (h : a < n) : (rowsV n r).set a (.own ((boolsD n g).map DV.sh)) = rowsV n fun x => if x = a then g else r x := by
  unfold rowsV
  refine List.ext_getElem (by simp) fun i h1 h2 => ?_
  simp only [List.length_map, List.length_range] at h2
  rw [List.getElem_set]
  by_cases e : a = i
  · subst e; simp
  · rw [if_neg e]
    simp [Ne.symm e]
theorem boolsD_set {n b : Nat} {m : Nat → Bool} {v : Bool} (h : b < n) : ((boolsD n m).map DV.sh).set b (.sh (.bool v)) = (boolsD n fun y => if y = b then v else m y).map DV.sh := by
  rw [set_own]
  congr 1
  unfold boolsD
  refine List.ext_getElem (by simp) fun i h1 h2 => ?_
  simp only [List.length_map, List.length_range] at h2
  rw [List.getElem_set]
  by_cases e : b = i
  · subst e; simp
  · rw [if_neg e]
    simp [Ne.symm e]
theorem zip_bools (n : Nat) (f g : Nat → Bool) : zipD (boolsD n f) (boolsD n g) = (List.range n).map fun x => PyData.tuple [.bool (f x), .bool (g x)] := by
  unfold boolsD
  generalize List.range n = l
  induction l with
  | nil => rfl
  | cons x l ih => rw [List.map_cons, List.map_cons, zipD, ih, List.map_cons]
theorem noLsts_boolsD (n : Nat) (f : Nat → Bool) : noLsts (boolsD n f) = true := noLsts_all fun d m => by
  unfold boolsD at m
  obtain ⟨x, _, rfl⟩ := List.mem_map.mp m
  exact noLst_bool _
theorem sup_boolsD (n : Nat) (f : Nat → Bool) : (R.br (.list (boolsD n f))).sup = some (.list (boolsD n f)) := by
  show (if els (.list (boolsD n f)) then some (PyData.list (boolsD n f)) else none) = _
  rw [if_pos]
  exact noLsts_boolsD n f
def rowL (n a : Nat) (r : Nat → Nat → Bool) : List Pr := ((List.range n).filter fun b => decide (a ≠ b) && r a b).map fun b => (a, b)
def rowsL (n i : Nat) (r : Nat → Nat → Bool) : List Pr := (List.range i).flatMap fun a => rowL n a r
theorem rowsL_all (n : Nat) (r : Nat → Nat → Bool) : rowsL n n r = prs n r := rfl
theorem rowsL_succ (n i : Nat) (r : Nat → Nat → Bool) : rowsL n (i + 1) r = rowsL n i r ++ rowL n i r := by unfold rowsL; rw [List.range_succ, List.flatMap_append]; simp
theorem rowL_len (n a : Nat) (r : Nat → Nat → Bool) : (rowL n a r).length ≤ n := by
  unfold rowL
  rw [List.length_map]
  have := List.length_filter_le (fun b => decide (a ≠ b) && r a b) (List.range n)
  simpa using this
theorem rowsL_len (n : Nat) (r : Nat → Nat → Bool) : ∀ i, (rowsL n i r).length ≤ n * i
  | 0 => by simp [rowsL]
  | i + 1 => by
    have := rowsL_len n r i
    have := rowL_len n i r
    rw [rowsL_succ, List.length_append, Nat.mul_succ]
    omega
def g__law_closed : Sg := pr (fun x : Nat × List Pr => [.sh (.int x.1), .sh (.list (x.2.map prD))]) (fun x => x.1 ≤ 10 ∧ (∀ p ∈ x.2, p.1 < x.1 ∧ p.2 < x.1) ∧ x.2.length ≤ 1000) (fun x dv => dv = .sh (bookD x.1 (clo x.1 x.2)))
def n__law_closed : List Str := ["n", "pairs", "rows", "a", "b", "c", "found", "at", "to", "one", "other"]
def t__law_closed : DS := dSeq2 (dSet 2 (dLc (dRange1 (dVar 0)) (gN 7) (dYes) (dLc (dRange1 (dVar 0)) (gN 8) (dYes) (dOp (fRel sDep rEqv) (dVar 7) (dVar 8)) [8]) [7])) (dSeq2 (dFor (dSeq (dVar 1)) (gT 2 (gsCons (gN 3) (gsCons (gN 4) (gsNil)))) (dSetIx2 2 (dVar 3) (dVar 4) (dC (.bool true)))) (dSeq2 (dFor (dRange1 (dVar 0)) (gN 5) (dFor (dRange1 (dVar 0)) (gN 3) (dIfS (dTest (dOpR fIx (dOpR fIx (dVar 2) (dVar 3)) (dVar 5))) (dSetIx 2 (dVar 3) (dLc (dZip false (dCons (dOpR fIx (dVar 2) (dVar 3)) (dCons (dOpR fIx (dVar 2) (dVar 5)) (dNil)))) (gT 2 (gsCons (gN 9) (gsCons (gN 10) (gsNil)))) (dYes) (dOrV (dVar 9) (dVar 10)) [9, 10])) (dNext)))) (dSeq2 (dSet 6 (dLst (dNil))) (dSeq2 (dFor (dRange1 (dVar 0)) (gN 3) (dExtend 6 (dLc (dRange1 (dVar 0)) (gN 8) (dAnd (dTest (dOpR fIx (dOpR fIx (dVar 2) (dVar 3)) (dVar 8))) (dTest (dOp (fRel sDep fun d e => !rEqv d e) (dVar 8) (dVar 3)))) (dTup (dCons (dVar 3) (dCons (dVar 8) (dNil)))) [8]))) (dRet (dTup (dCons (dVar 0) (dCons (dCB (on1 fTuple) (dCons (dVar 6) (dNil))) (dNil)))))))))
theorem p__law_closed (ds : List DV) (Q : DV → Prop) (h : g__law_closed ds Q) : t__law_closed { nx := fun _ => Q (.sh .none), rt := Q } (startD n__law_closed ds) := by
  obtain ⟨⟨n, ps⟩, rfl, ⟨hn, hp, hl⟩, q⟩ := h
  have hn : n ≤ 10 := hn
  have hp : ∀ p ∈ ps, p.1 < n ∧ p.2 < n := hp
  have hl : ps.length ≤ 1000 := hl
  have hz : (1000 : Nat) ≤ sizeLine := by decide
  have q : Q (.sh (bookD n (clo n ps))) := q _ rfl
  simp [t__law_closed, startD, n__law_closed, -List.map_map]
  refine ⟨small_n (by omega), ?_⟩
  rw [rangeD_nat]
  refine lcRun_map (fun i : Nat => PyData.int i) (fun a => .own ((boolsD n fun b => decide (a = b)).map DV.sh)) _ (by simp; omega) (fun a ma P hP => ?_) ?_
  · simp [-List.map_map]
    refine ⟨small_n (by omega), ?_⟩
    rw [rangeD_nat]
    refine lcRun_map (fun i : Nat => PyData.int i) (fun b => .sh (.bool (decide (a = b)))) _ (by simp; omega) (fun b mb P hP => ?_) ?_
    · simp
      have e : decide ((a : Int) = (b : Int)) = decide (a = b) := decide_eq_decide.mpr (by omega)
      rw [e]
      exact hP
    · have e : (List.range n).map (fun b => DV.sh (.bool (decide (a = b)))) = (boolsD n fun b => decide (a = b)).map DV.sh := by unfold boolsD; rw [List.map_map]; rfl
      rw [e]
      exact hP
  have e0 : (List.range n).map (fun a => DV.own ((boolsD n fun b => decide (a = b)).map DV.sh)) = rowsV n fun a b => decide (a = b) := rfl
  rw [e0]
  intro _
  -- the pairs are put in
  refine forRun_ix prD ps (fun i δ => ∃ (r : Nat → Nat → Bool) (x3 x4 : Option DV), δ = [some (.sh (.int n)), some (.sh (.list (ps.map prD))), some (.own (rowsV n r)), x3, x4, none, none, none, none, none, none] ∧ ∀ a b, a < n → b < n → (r a b = true ↔ a = b ∨ (a, b) ∈ ps.take i)) (fun i p δ e hI N hN => ?_) (fun δ hI => ?_) ⟨_, _, _, rfl, fun a b _ _ => by simp⟩
  · obtain ⟨r, x3, x4, rfl, hr⟩ := hI
    obtain ⟨pa, pb⟩ := p
    have hpp := hp _ (List.mem_of_getElem? e)
    have h1 : pa < n := hpp.1
    have h2 : pb < n := hpp.2
    simp [prD, rowsV_get h1, rowsV_len, h1, boolsD_len, h2, boolsD_set h2, rowsV_set h1, -List.map_map]
    refine hN _ ⟨_, _, _, rfl, fun a b ha hb => ?_⟩
    rw [take_one e, List.mem_append, List.mem_singleton]
    by_cases c1 : a = pa
    · subst c1
      by_cases c2 : b = pb
      · subst c2; simp
      · simp [c2, hr a b ha hb]
    · have : ¬ (a, b) = (pa, pb) := fun z => c1 (Prod.mk.inj z).1
      simp [c1, this, hr a b ha hb]
  · obtain ⟨r, x3, x4, rfl, hr⟩ := hI
    rw [List.take_length] at hr
    have R0 : RInv n ps 0 r := ⟨fun a b ha hb h => by
      rcases (hr a b ha hb).mp h with rfl | h
      · exact .refl
      · exact .step .refl h, fun a b ha hb h => (hr a b ha hb).mpr h, fun j hj => absurd hj (Nat.not_lt_zero _)⟩
    simp [-List.map_map]
    refine ⟨small_n (by omega), ?_⟩
    rw [rangeD_nat]
    refine forRun_nat n (fun k δ => ∃ (r : Nat → Nat → Bool) (x3 x4 x5 : Option DV), δ = [some (.sh (.int n)), some (.sh (.list (ps.map prD))), some (.own (rowsV n r)), x3, x4, x5, none, none, none, none, none] ∧ RInv n ps k r) (fun k δ hk hI N hN => ?_) (fun δ hI => ?_) ⟨r, x3, x4, none, rfl, R0⟩
    · obtain ⟨r, x3, x4, x5, rfl, hR⟩ := hI
      simp [-List.map_map]
      refine ⟨small_n (by omega), ?_⟩
      rw [rangeD_nat]
      refine forRun_nat n (fun i δ => ∃ (s : Nat → Nat → Bool) (x3 : Option DV), δ = [some (.sh (.int n)), some (.sh (.list (ps.map prD))), some (.own (rowsV n s)), x3, x4, some (.sh (.int (k : Nat))), none, none, none, none, none] ∧ ∀ a b, a < n → b < n → s a b = if a < i then rStep k r a b else r a b) (fun i δ hi hJ M hM => ?_) (fun δ hJ => ?_) ⟨r, x3, rfl, fun a b _ _ => by simp⟩
      · obtain ⟨s, x3, rfl, hs⟩ := hJ
        have sk : s i k = r i k := by rw [hs i k hi hk]; simp
        have si : ∀ b, b < n → s i b = r i b := fun b hb => by rw [hs i b hi hb]; simp
        have kk : ∀ b, b < n → s k b = r k b := fun b hb => by
          rw [hs k b hk hb]
          split
          · unfold rStep
            cases r k b <;> simp
          · rfl
        simp [fzs_rows, reachD_at hi, reachD_at hk, boolsD_at hk, sk, -List.map_map]
        cases c : r i k with
        | true =>
          simp [fzs_rows, reachD_at hi, reachD_at hk, sup_boolsD, zip_bools, -List.map_map]
          refine lcRun_map (fun x : Nat => PyData.tuple [.bool (s i x), .bool (s k x)]) (fun b => .sh (.bool (s i b || s k b))) (List.range n) (by rw [List.length_range]; omega) (fun b mb P hP => ?_) ?_
          · simp
            cases c1 : s i b <;> simp [c1] at hP ⊢ <;> exact hP
          have e1 : (List.range n).map (fun b => DV.sh (.bool (s i b || s k b))) = (boolsD n fun b => s i b || s k b).map DV.sh := by unfold boolsD; rw [List.map_map]; rfl
          rw [e1]
          simp [rowsV_len, hi, rowsV_set hi, -List.map_map]
          refine hM _ ⟨_, _, rfl, fun a b ha hb => ?_⟩
          by_cases ea : a = i
          · subst ea
            simp [si b hb, kk b hb]
            unfold rStep
            rw [c]; simp
          · simp [ea, hs a b ha hb]
            by_cases l : a < i
            · rw [if_pos l, if_pos (by omega)]
            · rw [if_neg l, if_neg (by omega)]
        | false =>
          simp
          refine hM _ ⟨_, _, rfl, fun a b ha hb => ?_⟩
          rw [hs a b ha hb]
          by_cases ea : a = i
          · subst ea
            rw [if_neg (by omega), if_pos (by omega)]
            unfold rStep
            rw [c]; simp
          · by_cases l : a < i
            · rw [if_pos l, if_pos (by omega)]
            · rw [if_neg l, if_neg (by omega)]
      · obtain ⟨s, x3, rfl, hs⟩ := hJ
        exact hN _ ⟨s, _, _, _, rfl, (hR.step hk).congr fun a b ha hb => by rw [hs a b ha hb, if_pos ha]⟩
    · obtain ⟨r, x3, x4, x5, rfl, hR⟩ := hI
      have fin : ∀ a b, a < n → b < n → r a b = reach ps a b := fun a b ha hb => hR.done hp ha hb
      simp [-List.map_map]
      refine ⟨small_n (by omega), ?_⟩
      rw [rangeD_nat]
      refine forRun_nat n (fun i δ => ∃ x3, δ = [some (.sh (.int n)), some (.sh (.list (ps.map prD))), some (.own (rowsV n r)), x3, x4, x5, some (ownL ((rowsL n i r).map prD)), none, none, none, none]) (fun i δ hi hI N hN => ?_) (fun δ hI => ?_) ⟨x3, by simp [rowsL]⟩
      · obtain ⟨x3, rfl⟩ := hI
        simp [-List.map_map]
        refine ⟨small_n (by omega), ?_⟩
        rw [rangeD_nat]
        refine lcRun_fn (fun i : Nat => PyData.int i) (fun b => if (decide (i ≠ b) && r i b) = true then some (DV.sh (prD (i, b))) else none) _ [] (by simp; omega) (fun b mb P hP => ?_) ?_
        · simp at mb
          simp [fzs_rows, reachD_at hi, boolsD_at mb]
          by_cases e : i = b
          · subst e
            simp at hP ⊢
            cases c : r i i <;> first | exact hP | (simp [c]; exact hP)
          · have e' : ¬ ((b : Int) = i) := by omega
            cases c : r i b
            · simp [e, c] at hP ⊢
              exact hP
            · simp [e, c] at hP
              simp [e', c]
              simpa [prD] using hP
        · rw [List.nil_append, filterMap_if (fun b => decide (i ≠ b) && r i b) (fun b => DV.sh (prD (i, b)))]
          have e1 : ((List.range n).filter fun b => decide (i ≠ b) && r i b).map (fun b => DV.sh (prD (i, b))) = ((rowL n i r).map prD).map DV.sh := by unfold rowL; rw [List.map_map, List.map_map]; rfl
          rw [e1]
          have l1 := rowsL_len n r i
          have l2 := rowL_len n i r
          have l3 : n * i ≤ 10 * 10 := Nat.mul_le_mul hn (by omega)
          simp [ownL, -List.map_map]
          refine ⟨by omega, ?_⟩
          have h := hN _ ⟨some (.sh (.int (i : Nat))), rfl⟩
          rw [rowsL_succ, List.map_append] at h
          simpa [ownL, -List.map_map] using h
      · obtain ⟨x3, rfl⟩ := hI
        have e : rowsL n n r = clo n ps := by
          rw [rowsL_all]
          exact prs_congr fun a b ha hb _ => fin a b ha hb
        rw [e]
        simp [ownL, -List.map_map]
        rw [fTuple_b (noLsts_prs _)]
        simp [-List.map_map]
        exact q
end HL.R
set_option Elab.async false
set_option linter.all false
set_option maxRecDepth 100000
set_option maxHeartbeats 1000000
namespace HL.R
open PySem PySem.Spec L2 DL
open PyProof.Rows hiding St
def g__law_shuffled : Sg := pr (fun n : Nat => [.tok 0, .sh (.int n)]) (fun n => 1 ≤ n ∧ n ≤ 10) (fun n dv => ∃ xs : List Nat, dv = ownL (natL xs) ∧ Ren n xs)
def n__law_shuffled : List Str := ["deck", "n", "order", "turn"]
def t__law_shuffled : DS := dSeq2 (dSet 2 (dListRg1 (dVar 1))) (dSeq2 (dFor (dRange1 (dVar 1)) (gN 3) (dAppPop1 2 (dCall g__law_draw (dCons (dVar 0) (dCons (dVar 1) (dNil)))))) (dRetV 2))
theorem p__law_shuffled (ds : List DV) (Q : DV → Prop) (h : g__law_shuffled ds Q) : t__law_shuffled { nx := fun _ => Q (.sh .none), rt := Q } (startD n__law_shuffled ds) := by
  obtain ⟨n, rfl, ⟨h1, hn⟩, q⟩ := h
  have hs : (100 : Nat) ≤ sizeLine := by decide
  simp [t__law_shuffled, startD, n__law_shuffled]
  refine ⟨rgOk_n (by omega), small_n (by omega), ?_⟩
  rw [rangeD_nat]
  refine forRun_nat n (fun i δ => ∃ (xs : List Nat) (y : Option DV), δ = [some (.tok 0), some (.sh (.int (n : Nat))), some (ownL (natL xs)), y] ∧ Ren n xs) (fun i δ hi hI N hN => ?_) (fun δ hI => ?_) ⟨List.range n, none, rfl, ⟨List.Perm.refl _⟩⟩
  · obtain ⟨xs, y, rfl, hx⟩ := hI
    have hl := hx.len
    simp [ownL, natL_len, hl, -List.map_map]
    refine ⟨by omega, ?_⟩
    refine draw_nat (many := n) rfl (by omega) fun r hr => ?_
    simp [-List.map_map]
    refine ⟨by omega, ?_⟩
    have e : seqIndex? (r : Int) n = some r := (ixN_seq (n := n) (i := (r : Int)) (j := r) (by simp [hr])).1
    rw [e]
    have e2 : xs[r]? = some (pl xs r) := pl_get (by omega)
    have e3 : ((natL xs).map DV.sh)[r]? = some (.sh (.int (pl xs r : Nat))) := by
      unfold natL
      rw [List.getElem?_map, List.getElem?_map, e2]; rfl
    simp only [atSh, e3]
    have h := hN _ ⟨xs.eraseIdx r ++ [pl xs r], some (.sh (.int (i : Nat))), rfl, ⟨?_⟩⟩
    · rw [map_erase, ]
      rw [natL_app] at h
      unfold natL at h ⊢
      rw [map_erase]
      simpa [ownL] using h
    · refine List.Perm.trans ?_ hx.perm
      refine List.Perm.trans ?_ (eraseIdx_perm e2).symm
      exact List.perm_append_comm
  · obtain ⟨xs, y, rfl, hx⟩ := hI
    simp
    exact q _ ⟨xs, rfl, hx⟩
/-- pairs below n, not many -/
def PL (n k : Nat) (ps : List Pr) : Prop := (∀ p ∈ ps, p.1 < n ∧ p.2 < n) ∧ ps.length ≤ k
theorem PL.nil (n k : Nat) : PL n k [] := ⟨fun _ h => (by cases h), Nat.zero_le _⟩
theorem PL.app {n k j : Nat} {ps qs : List Pr} (h : PL n k ps) (h' : PL n j qs) : PL n (k + j) (ps ++ qs) := ⟨fun p m => (List.mem_append.mp m).elim (h.1 p) (h'.1 p), by rw [List.length_append]; have := h.2; have := h'.2; omega⟩
theorem PL.one {n a b : Nat} (ha : a < n) (hb : b < n) : PL n 1 [(a, b)] := ⟨fun p m => by rw [List.mem_singleton.mp m]; exact ⟨ha, hb⟩, Nat.le_refl _⟩
theorem PL.mono {n k j : Nat} {ps : List Pr} (h : PL n k ps) (hk : k ≤ j) : PL n j ps := ⟨h.1, Nat.le_trans h.2 hk⟩
theorem app_pr (ps : List Pr) (a b : Nat) : (ps.map prD).map DV.sh ++ [DV.sh (.tuple [.int (a : Nat), .int (b : Nat)])] = ((ps ++ [(a, b)]).map prD).map DV.sh := by rw [List.map_append, List.map_append]; rfl
/-- the state of _law_hill -/
def hillSt (n w m : Nat) (ps : List Pr) (x5 x6 : Option DV) : DE := [some (.tok 0), some (.sh (.int m)), some (.sh (.int n)), some (.sh (.int w)), some (.own ((ps.map prD).map DV.sh)), x5, x6, none, none, none, none, none, none]
def g__law_hill : Sg := pr (fun n : Nat => [.tok 0, .sh (.int n)]) (fun n => 1 ≤ n ∧ n ≤ 10) (fun m dv => ∃ n ps, 1 ≤ n ∧ n ≤ m ∧ Hill n ps ∧ dv = .sh (bookD n ps))
def n__law_hill : List Str := ["deck", "most", "n", "way", "pairs", "at", "pair", "names", "to", "step", "turn", "a", "b"]
def t__law_hill : DS := dSeq2 (dUnp [2, 3, 4] (dCons (dOpR fAdd (dC (.int 1)) (dCall g__law_draw (dCons (dVar 0) (dCons (dVar 1) (dNil))))) (dCons (dCall g__law_draw (dCons (dVar 0) (dCons (dC (.int 9)) (dNil)))) (dCons (dLst (dNil)) (dNil))))) (dSeq2 (dFor (dRange2 (dC (.int 1)) (dVar 2)) (gN 5) (dSeq2 (dIfS (dTest (dOp (fRel sDep rEqv) (dVar 3) (dC (.int 1)))) (dAppend 4 (dTup (dCons (dOp fSub (dVar 5) (dC (.int 1))) (dCons (dVar 5) (dNil))))) (dNext)) (dSeq2 (dIfS (dOr (dTest (dOp (fRel sDep rEqv) (dVar 3) (dC (.int 2)))) (dTest (dOp (fRel sDep rEqv) (dVar 3) (dC (.int 3))))) (dSeq2 (dSet 6 (dTup (dCons (dVar 5) (dCons (dCall g__law_draw (dCons (dVar 0) (dCons (dVar 5) (dNil)))) (dNil))))) (dAppend 4 (dIf (dTest (dOp (fRel sDep rEqv) (dVar 3) (dC (.int 2)))) (dVar 6) (dRev (dVar 6))))) (dNext)) (dSeq2 (dIfS (dOr (dTest (dOp (fRel sDep rEqv) (dVar 3) (dC (.int 4)))) (dOr (dTest (dOp (fRel sDep rEqv) (dVar 3) (dC (.int 5)))) (dTest (dOp (fRel sDep rEqv) (dVar 3) (dC (.int 8)))))) (dExtend 4 (dLc (dRange1 (dVar 5)) (gN 8) (dTest (dOp (fRel sDep rEqv) (dCall g__law_draw (dCons (dVar 0) (dCons (dIf (dTest (dOp (fRel sDep rEqv) (dVar 3) (dC (.int 8)))) (dC (.int 4)) (dC (.int 2))) (dNil)))) (dC (.int 0)))) (dTup (dCons (dVar 8) (dCons (dVar 5) (dNil)))) [8])) (dNext)) (dSeq2 (dIfS (dAnd (dTest (dOp (fRel sDep rEqv) (dVar 3) (dC (.int 6)))) (dTest (dOp (fRel sLt fun d e => rLeD e d) (dVar 5) (dOp fDiv (dVar 2) (dC (.int 2)))))) (dExtend 4 (dLc (dRange1 (dOp fDiv (dVar 2) (dC (.int 2)))) (gN 8) (dTest (dOp (fRel sDep rEqv) (dCall g__law_draw (dCons (dVar 0) (dCons (dC (.int 2)) (dNil)))) (dC (.int 0)))) (dTup (dCons (dVar 8) (dCons (dVar 5) (dNil)))) [8])) (dNext)) (dIfS (dTest (dOp (fRel sDep rEqv) (dVar 3) (dC (.int 7)))) (dExtend 4 (dLc (dSeqQ (dLst (dCons (dC (.int 1)) (dCons (dC (.int 2)) (dNil))))) (gN 9) (dAnd (dTest (dOp (fRel sLt fun d e => rLeD e d) (dVar 5) (dVar 9))) (dOr (dTest (dOp (fRel sDep rEqv) (dVar 9) (dC (.int 2)))) (dTest (dOp (fRel sDep rEqv) (dOp fMod (dCB (on1 fInt) (dCons (dVar 5) (dNil))) (dC (.int 2))) (dC (.int 1)))))) (dTup (dCons (dOp fSub (dVar 5) (dVar 9)) (dCons (dVar 5) (dNil)))) [9])) (dNext))))))) (dSeq2 (dIfS (dTest (dOp (fRel sDep rEqv) (dVar 3) (dC (.int 5)))) (dExtend 4 (dLc (dRange1 (dOpR fAdd (dC (.int 1)) (dOp fDiv (dVar 2) (dC (.int 4))))) (gN 10) (dYes) (dTup (dCons (dCall g__law_draw (dCons (dVar 0) (dCons (dVar 2) (dNil)))) (dCons (dCall g__law_draw (dCons (dVar 0) (dCons (dVar 2) (dNil)))) (dNil)))) [10])) (dNext)) (dSeq2 (dSet 7 (dCall g__law_shuffled (dCons (dVar 0) (dCons (dVar 2) (dNil))))) (dRet (dCall g__law_closed (dCons (dVar 2) (dCons (dLc (dSeqQ (dVar 4)) (gT 2 (gsCons (gN 11) (gsCons (gN 12) (gsNil)))) (dTest (dOp (fRel sDep fun d e => !rEqv d e) (dVar 11) (dVar 12))) (dTup (dCons (dOpR fIx (dVar 7) (dVar 11)) (dCons (dOpR fIx (dVar 7) (dVar 12)) (dNil)))) [11, 12]) (dNil))))))))
theorem p__law_hill (ds : List DV) (Q : DV → Prop) (h : g__law_hill ds Q) : t__law_hill { nx := fun _ => Q (.sh .none), rt := Q } (startD n__law_hill ds) := by
  obtain ⟨m, rfl, ⟨h1, hm⟩, q⟩ := h
  have hz : (1000 : Nat) ≤ sizeLine := by decide
  simp [t__law_hill, startD, n__law_hill, -List.map_map]
  refine draw_nat (many := m) rfl (by omega) fun k hk => ?_
  simp [-List.map_map]
  refine draw_nat (many := 9) rfl (by omega) fun w hw => ?_
  have e1 : (1 : Int) + k = ((1 + k : Nat) : Int) := by omega
  rw [e1]
  generalize hn : 1 + k = n
  have n1 : 1 ≤ n := by omega
  have nm : n ≤ m := by omega
  have n10 : n ≤ 10 := by omega
  have rg : rangeD 1 (n : Int) = (List.range (n - 1)).map fun i : Nat => PyData.int ((1 + i : Nat) : Int) := rangeD_sub 1 n
  refine ⟨by unfold small; omega, small_n (by omega), ?_⟩
  rw [rg]
  refine forRun_ix (fun i : Nat => PyData.int ((1 + i : Nat) : Int)) (List.range (n - 1)) (fun i δ => ∃ (ps : List Pr) (x5 x6 : Option DV), δ = hillSt n w m ps x5 x6 ∧ PL n (10 * i) ps) (fun i i' δ e hI N hN => ?_) (fun δ hI => ?_) ⟨[], none, none, rfl, PL.nil _ _⟩
  · obtain ⟨ps, x5, x6, rfl, hp⟩ := hI
    obtain ⟨hi, e⟩ := List.getElem?_eq_some_iff.mp e
    rw [List.length_range] at hi
    rw [List.getElem_range] at e
    subst e
    have hp2 := hp.2
    generalize hat : 1 + i = at'
    have an : at' < n := by omega
    have a0 : 0 < at' := by omega
    have out : ∀ (qs : List Pr) (x6 : Option DV), PL n 10 qs → N (hillSt n w m (ps ++ qs) (some (.sh (.int (at' : Nat)))) x6) := fun qs x6 hq => hN _ ⟨_, _, _, rfl, (hp.app hq).mono (by omega)⟩
    have none' : N (hillSt n w m ps (some (.sh (.int (at' : Nat)))) x6) := by
      have := out [] x6 (PL.nil _ _)
      rwa [List.append_nil] at this
    have hw : w = 0 ∨ w = 1 ∨ w = 2 ∨ w = 3 ∨ w = 4 ∨ w = 5 ∨ w = 6 ∨ w = 7 ∨ w = 8 := by omega
    -- pairs with earlier ones, drawn
    have drawn : ∀ (te : DT) (u many : Nat), (∀ x δ' Q, δ' = (hillSt n w m ps (some (.sh (.int (at' : Nat)))) x6).set 8 (some (.sh (.int (x : Nat)))) → te δ' Q = Q (.val (.sh (.int (many : Nat))))) → 0 < many → many < 100 → u ≤ at' → ∀ (P : List DV → Prop), (∀ qs, PL n 10 qs → P ((qs.map prD).map DV.sh)) →
        lcRun (gN 8) (dTest (dOp (fRel sDep rEqv) (dCall g__law_draw (dCons (dVar 0) (dCons te (dNil)))) (dC (.int 0)))) (dTup (dCons (dVar 8) (dCons (dVar 5) (dNil)))) (hillSt n w m ps (some (.sh (.int (at' : Nat)))) x6) ((List.range u).map fun i : Nat => PyData.int i) [] P := by
      intro te u many hte m0 m1 hu P hP
      refine lcP (ok := fun p => p.1 < n ∧ p.2 < n) (fun i : Nat => PyData.int i) _ (by simp; omega) (fun x mx P hP hN => ?_) fun qs hq hl => hP qs ⟨hq, by simp at hl; omega⟩
      simp at mx
      simp [hillSt, -List.map_map]
      refine Eq.mpr (hte x _ _ rfl) ?_
      simp [-List.map_map]
      refine draw_nat (many := many) rfl (by omega) fun z hz => ?_
      simp
      split
      · exact hP (x, at') ⟨by simp; omega, by simp; omega⟩
      · exact hN
    have put : ∀ qs : List Pr, PL n 10 qs → (((ps.map prD).map DV.sh).length + ((qs.map prD).map DV.sh).length ≤ sizeLine ∧ N (hillSt n w m (ps ++ qs) (some (.sh (.int (at' : Nat)))) x6)) := fun qs hq => ⟨by have := hq.2; simp; omega, out qs x6 hq⟩
    rcases hw with rfl | rfl | rfl | rfl | rfl | rfl | rfl | rfl | rfl
    all_goals simp [hillSt, -List.map_map]
    · exact none'
    · refine ⟨by omega, ?_⟩
      have := out [(at' - 1, at')] x6 ((PL.one (by omega) an).mono (by omega))
      rw [hillSt, ← app_pr] at this
      have e : ((at' - 1 : Nat) : Int) = (at' : Int) - 1 := by omega
      rw [e] at this
      exact this
    · refine draw_nat (many := at') rfl (by omega) fun z hz => ?_
      simp [-List.map_map]
      refine ⟨by omega, ?_⟩
      have := out [(at', z)] (some (.sh (.tuple [.int (at' : Nat), .int (z : Nat)]))) ((PL.one an (by omega)).mono (by omega))
      rw [hillSt, ← app_pr] at this
      exact this
    · refine draw_nat (many := at') rfl (by omega) fun z hz => ?_
      simp [-List.map_map]
      refine ⟨by omega, ?_⟩
      have := out [(z, at')] (some (.sh (.tuple [.int (at' : Nat), .int (z : Nat)]))) ((PL.one (by omega) an).mono (by omega))
      rw [hillSt, ← app_pr] at this
      exact this
    · refine ⟨small_n (by omega), ?_⟩
      rw [rangeD_nat]
      refine drawn _ at' 2 (fun x δ' Q e => by subst e; simp [hillSt]) (by omega) (by omega) (Nat.le_refl _) _ fun qs hq => ?_
      have := put qs hq
      rw [hillSt, List.map_append, List.map_append] at this
      simpa [-List.map_map] using this
    · refine ⟨small_n (by omega), ?_⟩
      rw [rangeD_nat]
      refine drawn _ at' 2 (fun x δ' Q e => by subst e; simp [hillSt]) (by omega) (by omega) (Nat.le_refl _) _ fun qs hq => ?_
      have := put qs hq
      rw [hillSt, List.map_append, List.map_append] at this
      simpa [-List.map_map] using this
    · have e2 : (n : Int) / 2 = ((n / 2 : Nat) : Int) := by omega
      rw [e2]
      split
      · rename_i hc
        refine ⟨small_n (by omega), ?_⟩
        rw [rangeD_nat]
        refine drawn _ (n / 2) 2 (fun x δ' Q e => rfl) (by omega) (by omega) (by omega) _ fun qs hq => ?_
        have := put qs hq
        rw [hillSt, List.map_append, List.map_append] at this
        simpa [-List.map_map] using this
      · exact none'
    · intro _
      refine lcP (ok := fun p => p.1 < n ∧ p.2 < n) (fun i : Nat => PyData.int i) [1, 2] (by simp; omega) (fun x mx P hP hN => ?_) fun qs hq hl => ?_
      · simp [-List.map_map]
        by_cases c : x ≤ at'
        · have e3 : ((at' : Int) - x) = ((at' - x : Nat) : Int) := by omega
          have ok := hP (at' - x, at') ⟨by simp; omega, by simp; omega⟩
          simp [c, -List.map_map]
          simp only [e3]
          split
          · exact ok
          · split
            · exact ok
            · exact hN
        · simp [c, -List.map_map]
          exact hN
      · have := put qs ⟨hq, by simp at hl; omega⟩
        rw [hillSt, List.map_append, List.map_append] at this
        simpa [-List.map_map] using this
    · refine ⟨small_n (by omega), ?_⟩
      rw [rangeD_nat]
      refine drawn _ at' 4 (fun x δ' Q e => by subst e; simp [hillSt]) (by omega) (by omega) (Nat.le_refl _) _ fun qs hq => ?_
      have := put qs hq
      rw [hillSt, List.map_append, List.map_append] at this
      simpa [-List.map_map] using this
  · obtain ⟨ps, x5, x6, rfl, hp⟩ := hI
    have hp : PL n 100 ps := hp.mono (by simp; omega)
    have hp2 := hp.2
    have e4 : 1 + (n : Int) / 4 = ((1 + n / 4 : Nat) : Int) := by omega
    simp [hillSt, -List.map_map]
    split
    · rw [e4]
      refine ⟨small_n (by omega), ?_⟩
      rw [rangeD_nat]
      refine lcP (ok := fun p => p.1 < n ∧ p.2 < n) (fun i : Nat => PyData.int i) _ (by simp; omega) (fun x mx P hP hN => ?_) fun qs hq hl => ?_
      · simp
        refine draw_nat (many := n) rfl (by omega) fun a ha => ?_
        simp
        refine draw_nat (many := n) rfl (by omega) fun b hb => ?_
        simp
        exact hP (a, b) ⟨ha, hb⟩
      · simp at hl
        have hr : PL n 200 (ps ++ qs) := (hp.app (k := 100) (j := 100) ⟨hq, by omega⟩)
        simp [-List.map_map]
        refine ⟨by omega, ?_⟩
        rw [← List.map_append, ← List.map_append]
        generalize ps ++ qs = rs at hr ⊢
        refine pr_call n rfl ⟨n1, n10⟩ ?_
        rintro dv ⟨xs, rfl, hx⟩
        have hr2 := hr.2
        simp [ownL, sup_br, noLsts_prs, -List.map_map]
        intro _
        refine lcP (ok := fun p => p.1 < n ∧ p.2 < n) prD rs (by omega) (fun p mp P hP hN => ?_) fun qs hq hl => ?_
        · have hpp := hr.1 p mp
          simp [prD, natL, lot_atI (xs := xs) (a := p.1) (by rw [hx.len]; exact hpp.1), lot_atI (xs := xs) (a := p.2) (by rw [hx.len]; exact hpp.2), -List.map_map]
          have lt : ∀ a, a < n → pl xs a < n := fun a ha => hx.lt (pl_get (by rw [hx.len]; exact ha))
          split
          · exact hN
          · exact hP (pl xs p.1, pl xs p.2) ⟨lt _ hpp.1, lt _ hpp.2⟩
        · simp [-List.map_map]
          refine pr_call (n, qs) rfl ⟨n10, hq, Nat.le_trans hl (by omega)⟩ ?_
          rintro dv rfl
          exact q _ ⟨n, clo n qs, n1, nm, hill_clo n1 n10, rfl⟩
    · have hr : PL n 200 ps := hp.mono (by omega)
      refine pr_call n rfl ⟨n1, n10⟩ ?_
      rintro dv ⟨xs, rfl, hx⟩
      have hr2 := hr.2
      simp [ownL, sup_br, noLsts_prs, -List.map_map]
      intro _
      refine lcP (ok := fun p => p.1 < n ∧ p.2 < n) prD ps (by omega) (fun p mp P hP hN => ?_) fun qs hq hl => ?_
      · have hpp := hr.1 p mp
        simp [prD, natL, lot_atI (xs := xs) (a := p.1) (by rw [hx.len]; exact hpp.1), lot_atI (xs := xs) (a := p.2) (by rw [hx.len]; exact hpp.2), -List.map_map]
        have lt : ∀ a, a < n → pl xs a < n := fun a ha => hx.lt (pl_get (by rw [hx.len]; exact ha))
        split
        · exact hN
        · exact hP (pl xs p.1, pl xs p.2) ⟨lt _ hpp.1, lt _ hpp.2⟩
      · simp [-List.map_map]
        refine pr_call (n, qs) rfl ⟨n10, hq, Nat.le_trans hl (by omega)⟩ ?_
        rintro dv rfl
        exact q _ ⟨n, clo n qs, n1, nm, hill_clo n1 n10, rfl⟩
end HL.R
set_option Elab.async false
set_option linter.all false
set_option maxRecDepth 100000
set_option maxHeartbeats 1000000
namespace HL.R
open PySem PySem.Spec L2 DL
open PyProof.Rows hiding St
/-! ### rows of terraces -/
def listsV (n : Nat) (f : Nat → List Nat) : List DV := (List.range n).map fun a => .own ((natL (f a)).map DV.sh)
def listsD (n : Nat) (f : Nat → List Nat) : List D := (List.range n).map fun a => .list (natL (f a))
def sideD (n : Nat) (r : Nat → Nat → Bool) : D := .list (listsD n fun x => fl n (r x))
def sidesD (n : Nat) (ps : List Pr) : D := .tuple [sideD n fun x y => le ps y x, sideD n fun x y => le ps x y]
theorem listsV_len (n : Nat) (f : Nat → List Nat) : (listsV n f).length = n := by unfold listsV; simp
theorem fzs_lists (n : Nat) (f : Nat → List Nat) : DV.fzs (listsV n f) = some (listsD n f) := fzs_maps (fun a => natL (f a)) (List.range n)
theorem listsV_get {n a : Nat} {f : Nat → List Nat} (h : a < n) : atI (listsV n f) (a : Int) = some (.own ((natL (f a)).map DV.sh)) := atI_nat (by unfold listsV; simp [h])
theorem listsD_get {n a : Nat} {f : Nat → List Nat} (h : a < n) : atI (listsD n f) (a : Int) = some (.list (natL (f a))) := atI_nat (by unfold listsD; simp [h])
theorem listsV_app {n a x : Nat} {f : Nat → List Nat} (h : a < n) : (listsV n f).set a (.own ((natL (f a)).map DV.sh ++ [DV.sh (.int (x : Nat))])) = listsV n fun y => if y = a then f a ++ [x] else f y := by
  unfold listsV
  refine List.ext_getElem (by simp) fun i h1 h2 => ?_
  simp only [List.length_map, List.length_range] at h2
  rw [List.getElem_set]
  by_cases e : a = i
  · subst e
    simp [natL_app]
    rfl
  · rw [if_neg e]
    simp [Ne.symm e]
def lowRow (ps : List Pr) (b : Nat) : List Nat := b :: (ps.filter fun p => decide (p.2 = b)).map (·.1)
def highRow (ps : List Pr) (a : Nat) : List Nat := a :: (ps.filter fun p => decide (p.1 = a)).map (·.2)
theorem lowRow_perm {n : Nat} {ps : List Pr} (G : Good n ps) {x : Nat} (hx : x < n) : (lowRow ps x).Perm (fl n fun y => le ps y x) := by
  have nd : (lowRow ps x).Nodup := by
    refine List.nodup_cons.mpr ⟨fun m => ?_, ?_⟩
    · obtain ⟨p, m, e⟩ := List.mem_map.mp m
      have m := List.mem_filter.mp m
      have := G.ok p m.1
      have h2 : p.2 = x := by simpa using m.2
      omega
    · have np := (strict_nodup plt_irrefl G.st).filter fun p => decide (p.2 = x)
      refine List.pairwise_map.mpr (List.Pairwise.imp_of_mem (fun {p r} mp mr ne e => ne ?_) np)
      have h1 : p.2 = x := by simpa using (List.mem_filter.mp mp).2
      have h2 : r.2 = x := by simpa using (List.mem_filter.mp mr).2
      exact Prod.ext e (h1.trans h2.symm)
  refine (List.perm_ext_iff_of_nodup nd (strict_nodup Nat.lt_irrefl (lot_fl n _).st)).mpr fun y => ?_
  unfold lowRow
  rw [mem_fl, le_iff, List.mem_cons, List.mem_map]
  constructor
  · rintro (rfl | ⟨p, m, rfl⟩)
    · exact ⟨hx, .inl rfl⟩
    · have m := List.mem_filter.mp m
      have h2 : p.2 = x := by simpa using m.2
      exact ⟨(G.ok p m.1).1, .inr (by rw [← h2]; exact m.1)⟩
  · rintro ⟨_, rfl | m⟩
    · exact .inl rfl
    · exact .inr ⟨(y, x), List.mem_filter.mpr ⟨m, by simp⟩, rfl⟩
theorem highRow_perm {n : Nat} {ps : List Pr} (G : Good n ps) {x : Nat} (hx : x < n) : (highRow ps x).Perm (fl n fun y => le ps x y) := by
  have nd : (highRow ps x).Nodup := by
    refine List.nodup_cons.mpr ⟨fun m => ?_, ?_⟩
    · obtain ⟨p, m, e⟩ := List.mem_map.mp m
      have m := List.mem_filter.mp m
      have := G.ok p m.1
      have h2 : p.1 = x := by simpa using m.2
      omega
    · have np := (strict_nodup plt_irrefl G.st).filter fun p => decide (p.1 = x)
      refine List.pairwise_map.mpr (List.Pairwise.imp_of_mem (fun {p r} mp mr ne e => ne ?_) np)
      have h1 : p.1 = x := by simpa using (List.mem_filter.mp mp).2
      have h2 : r.1 = x := by simpa using (List.mem_filter.mp mr).2
      exact Prod.ext (h1.trans h2.symm) e
  refine (List.perm_ext_iff_of_nodup nd (strict_nodup Nat.lt_irrefl (lot_fl n _).st)).mpr fun y => ?_
  unfold highRow
  rw [mem_fl, le_iff, List.mem_cons, List.mem_map]
  constructor
  · rintro (rfl | ⟨p, m, rfl⟩)
    · exact ⟨hx, .inl rfl⟩
    · have m := List.mem_filter.mp m
      have h2 : p.1 = x := by simpa using m.2
      exact ⟨(G.ok p m.1).2.1, .inr (by rw [← h2]; exact m.1)⟩
  · rintro ⟨_, rfl | m⟩
    · exact .inl rfl
    · exact .inr ⟨(x, y), List.mem_filter.mpr ⟨m, by simp⟩, rfl⟩
theorem lowRow_snoc (ps : List Pr) (p : Pr) (y : Nat) : lowRow (ps ++ [p]) y = if y = p.2 then lowRow ps p.2 ++ [p.1] else lowRow ps y := by
  unfold lowRow
  rw [List.filter_append, List.map_append]
  by_cases e : y = p.2
  · subst e; simp
  · have : ¬ p.2 = y := fun z => e z.symm
    simp [e, this]
theorem highRow_snoc (ps : List Pr) (p : Pr) (y : Nat) : highRow (ps ++ [p]) y = if y = p.1 then highRow ps p.1 ++ [p.2] else highRow ps y := by
  unfold highRow
  rw [List.filter_append, List.map_append]
  by_cases e : y = p.1
  · subst e; simp
  · have : ¬ p.1 = y := fun z => e z.symm
    simp [e, this]
theorem lowRow_len (ps : List Pr) (y : Nat) : (lowRow ps y).length ≤ ps.length + 1 := by
  unfold lowRow
  have := List.length_filter_le (fun p : Pr => decide (p.2 = y)) ps
  simp; omega
theorem highRow_len (ps : List Pr) (y : Nat) : (highRow ps y).length ≤ ps.length + 1 := by
  unfold highRow
  have := List.length_filter_le (fun p : Pr => decide (p.1 = y)) ps
  simp; omega
def g__law_sides : Sg := pr (fun x : Nat × List Pr => [.sh (bookD x.1 x.2)]) (fun x => Good x.1 x.2) (fun x dv => dv = .sh (sidesD x.1 x.2))
def n__law_sides : List Str := ["hill", "n", "pairs", "below", "above", "a", "b", "at", "row"]
def t__law_sides : DS := dSeq2 (dAsg (dVar 0) (gT 2 (gsCons (gN 1) (gsCons (gN 2) (gsNil))))) (dSeq2 (dPar 3 4 (dCons (dLc (dRange1 (dVar 1)) (gN 7) (dYes) (dLst (dCons (dVar 7) (dNil))) [7]) (dCons (dLc (dRange1 (dVar 1)) (gN 7) (dYes) (dLst (dCons (dVar 7) (dNil))) [7]) (dNil)))) (dSeq2 (dFor (dSeq (dVar 2)) (gT 2 (gsCons (gN 5) (gsCons (gN 6) (gsNil)))) (dSeq2 (dAppendIx 3 (dVar 6) (dVar 5)) (dAppendIx 4 (dVar 5) (dVar 6)))) (dFrz 3 (dFrz 4 (dRet (dTup (dCons (dLc (dSeqQ (dVar 3)) (gN 8) (dYes) (dCB (on1 fSorted) (dCons (dVar 8) (dNil))) [8]) (dCons (dLc (dSeqQ (dVar 4)) (gN 8) (dYes) (dCB (on1 fSorted) (dCons (dVar 8) (dNil))) [8]) (dNil)))))))))
theorem p__law_sides (ds : List DV) (Q : DV → Prop) (h : g__law_sides ds Q) : t__law_sides { nx := fun _ => Q (.sh .none), rt := Q } (startD n__law_sides ds) := by
  obtain ⟨⟨n, ps⟩, rfl, G, q⟩ := h
  have G : Good n ps := G
  have hn := G.hi
  have hl := book_len G
  have hz : (1000 : Nat) ≤ sizeLine := by decide
  have q : Q (.sh (sidesD n ps)) := q _ rfl
  simp [t__law_sides, startD, n__law_sides, bookD, -List.map_map]
  refine ⟨small_n (by omega), ?_⟩
  rw [rangeD_nat]
  refine lcRun_map (fun i : Nat => PyData.int i) (fun a => .own ((natL [a]).map DV.sh)) _ (by simp; omega) (fun a ma P hP => ?_) ?_
  · simp [-List.map_map]
    exact hP
  refine ⟨small_n (by omega), ?_⟩
  refine lcRun_map (fun i : Nat => PyData.int i) (fun a => .own ((natL [a]).map DV.sh)) _ (by simp; omega) (fun a ma P hP => ?_) ?_
  · simp [-List.map_map]
    exact hP
  have e0 : (List.range n).map (fun a => DV.own ((natL [a]).map DV.sh)) = listsV n fun a => [a] := rfl
  rw [e0]
  intro _
  refine forRun_ix prD ps (fun i δ => ∃ x5 x6 : Option DV, δ = [some (.sh (.tuple [.int n, .tuple (ps.map prD)])), some (.sh (.int n)), some (.sh (.tuple (ps.map prD))), some (.own (listsV n (lowRow (ps.take i)))), some (.own (listsV n (highRow (ps.take i)))), x5, x6, none, none]) (fun i p δ e hI N hN => ?_) (fun δ hI => ?_) ⟨none, none, rfl⟩
  · obtain ⟨x5, x6, rfl⟩ := hI
    have hp := G.ok p (List.mem_of_getElem? e)
    obtain ⟨a, b⟩ := p
    have ha : a < n := hp.1
    have hb : b < n := hp.2.1
    have l1 := lowRow_len (ps.take i) b
    have l2 := highRow_len (ps.take i) a
    have l3 : (ps.take i).length ≤ 100 := by rw [List.length_take]; omega
    simp [prD, listsV_get ha, listsV_get hb, listsV_len, ha, hb, natL_len, listsV_app ha, listsV_app hb, -List.map_map, -List.length_take]
    refine ⟨by omega, by omega, hN _ ⟨some (.sh (.int (a : Nat))), some (.sh (.int (b : Nat))), ?_⟩⟩
    rw [take_one e]
    have f1 : lowRow (ps.take i ++ [(a, b)]) = fun y => if y = b then lowRow (ps.take i) b ++ [a] else lowRow (ps.take i) y := funext fun y => lowRow_snoc _ _ _
    have f2 : highRow (ps.take i ++ [(a, b)]) = fun y => if y = a then highRow (ps.take i) a ++ [b] else highRow (ps.take i) y := funext fun y => highRow_snoc _ _ _
    rw [f1, f2]
  · obtain ⟨x5, x6, rfl⟩ := hI
    rw [List.take_length]
    simp [DV.fz, fzs_lists, -List.map_map]
    intro _
    refine lcRun_map (fun a : Nat => PyData.list (natL (lowRow ps a))) (fun a => .own ((natL (fl n fun y => le ps y a)).map DV.sh)) (List.range n) (by simp; omega) (fun a ma P hP => ?_) ?_
    · simp at ma
      simp [-List.map_map]
      refine ⟨nats_ok _, ?_⟩
      have := sort_nats (lowRow_perm G ma) (lot_fl n _).st
      unfold natL
      rw [this]
      exact hP
    intro _
    refine lcRun_map (fun a : Nat => PyData.list (natL (highRow ps a))) (fun a => .own ((natL (fl n fun y => le ps a y)).map DV.sh)) (List.range n) (by simp; omega) (fun a ma P hP => ?_) ?_
    · simp at ma
      simp [-List.map_map]
      refine ⟨nats_ok _, ?_⟩
      have := sort_nats (highRow_perm G ma) (lot_fl n _).st
      unfold natL
      rw [this]
      exact hP
    have f1 := fzs_lists n fun a => fl n fun y => le ps y a
    have f2 := fzs_lists n fun a => fl n fun y => le ps a y
    unfold listsV at f1 f2
    simp [fdL, R.fd, DV.fz, f1, f2, -List.map_map]
    exact q
end HL.R
set_option Elab.async false
set_option linter.all false
set_option maxRecDepth 100000
set_option maxHeartbeats 1000000
namespace HL.R
open PySem PySem.Spec L2 DL
open PyProof.Rows hiding St
@[simp] theorem on2_on {Q : R → Prop} (f : D → D → (R → Prop) → Prop) (ds : List D) : on2 f (.val (.own (ds.map DV.sh))) (.val (.own [])) Q = f (.list ds) (.list []) Q := on2_oo f ds []
theorem fl_int (n : Nat) (p : Nat → Bool) (ms : List Int) (h1 : ms.Pairwise (· < ·)) (h2 : ∀ k : Int, k ∈ ms ↔ ∃ x : Nat, x < n ∧ p x = true ∧ k = x) : ms.map PyData.int = (fl n p).map fun x : Nat => PyData.int x := by
  have e : ms = (fl n p).map fun x : Nat => (x : Int) := strict_ext (lt := fun a b : Int => a < b) (fun a => Int.lt_irrefl a) (fun h h' => Int.lt_trans h h') h1 (by
    rw [List.pairwise_map]
    exact (lot_fl n p).st.imp fun h => by omega) fun k => by
    rw [h2, List.mem_map]
    constructor
    · rintro ⟨x, hx, hp, rfl⟩
      exact ⟨x, mem_fl.mpr ⟨hx, hp⟩, rfl⟩
    · rintro ⟨x, m, rfl⟩
      obtain ⟨hx, hp⟩ := mem_fl.mp m
      exact ⟨x, hx, hp, rfl⟩
  rw [e, List.map_map]; rfl
theorem numsOf_nats (l : List Nat) : numsOf (l.map fun x : Nat => PyData.int x) = some (l.map fun x : Nat => (x : Int)) := by
  have := numsOf_map (l.map fun x : Nat => (x : Int))
  rw [List.map_map] at this
  exact this
def relP (n : Nat) (r : Nat → Nat → Bool) (p : Nat → Bool) (y : Nat) : Bool := (List.range n).any fun x => p x && r x y
theorem relP_low (n : Nat) (ps : List Pr) (p : Nat → Bool) : relP n (fun x y => le ps y x) p = lowP n ps p := rfl
/-- the rows of some terraces, one behind the other -/
def unionL (n : Nat) (r : Nat → Nat → Bool) (l : List Nat) : List Nat := l.flatMap fun x => fl n (r x)
theorem unionL_snoc (n : Nat) (r : Nat → Nat → Bool) (l : List Nat) (x : Nat) : unionL n r (l ++ [x]) = unionL n r l ++ fl n (r x) := by unfold unionL; rw [List.flatMap_append]; simp
theorem unionL_len {n : Nat} (hn : n ≤ 10) (r : Nat → Nat → Bool) (l : List Nat) : (unionL n r l).length ≤ l.length * 10 := flatMap_len (k := 10) (fun a => Nat.le_trans (fl_len n (r a)) hn) l
theorem unionL_mem {n : Nat} {r : Nat → Nat → Bool} {l : List Nat} {y : Nat} : y ∈ unionL n r l ↔ ∃ x ∈ l, y < n ∧ r x y = true := by
  unfold unionL
  simp [List.mem_flatMap, mem_fl]
theorem relP_mem {n : Nat} {r : Nat → Nat → Bool} {p : Nat → Bool} {y : Nat} : y ∈ unionL n r (fl n p) ↔ y < n ∧ relP n r p y = true := by
  rw [unionL_mem]
  unfold relP
  simp [List.any_eq_true, mem_fl]
  constructor
  · rintro ⟨x, ⟨hx, px⟩, hy, rx⟩
    exact ⟨hy, x, hx, px, rx⟩
  · rintro ⟨hy, x, hx, px, rx⟩
    exact ⟨x, ⟨hx, px⟩, hy, rx⟩
/-- sorted(set(xs)) of a row of terraces -/
theorem set_fl {n : Nat} (hn : n ≤ 10) {l : List Nat} {p : Nat → Bool} (hl : l.length ≤ 4000) (h : ∀ y, y ∈ l ↔ y < n ∧ p y = true) {K : List D → Prop} (q : K ((fl n p).map fun x : Nat => PyData.int x)) :
    (match numsOf (natL l) with
    | some ns => (ns.length ≤ 4000 ∧ ∃ ms : List Int, ms.length ≤ 60 ∧ ∀ k ∈ ns, k ∈ ms) ∧ ∀ ms : List Int, ms.Pairwise (· < ·) → (∀ k, k ∈ ms ↔ k ∈ ns) → K (ms.map PyData.int)
    | none => False) := by
  unfold natL
  rw [numsOf_nats]
  refine ⟨⟨by rw [List.length_map]; exact hl, (List.range n).map fun x : Nat => (x : Int), by rw [List.length_map, List.length_range]; omega, fun k mk => ?_⟩, fun ms h1 h2 => ?_⟩
  · obtain ⟨x, m, rfl⟩ := List.mem_map.mp mk
    exact List.mem_map.mpr ⟨x, List.mem_range.mpr ((h x).mp m).1, rfl⟩
  · rw [fl_int n p ms h1 fun k => ?_]
    · exact q
    · rw [h2, List.mem_map]
      constructor
      · rintro ⟨x, m, rfl⟩
        exact ⟨x, ((h x).mp m).1, ((h x).mp m).2, rfl⟩
      · rintro ⟨x, hx, hp, rfl⟩
        exact ⟨x, (h x).mpr ⟨hx, hp⟩, rfl⟩
def g__law_closing : Sg := pr (fun x : Nat × (Nat → Nat → Bool) × (Nat → Bool) => [.sh (sideD x.1 x.2.1), .sh (lotD (fl x.1 x.2.2))]) (fun x => x.1 ≤ 10) (fun x dv => dv = .sh (lotD (fl x.1 (relP x.1 x.2.1 x.2.2))))
def n__law_closing : List Str := ["rows", "lot", "found", "at"]
def t__law_closing : DS := dSeq2 (dSet 2 (dLst (dNil))) (dSeq2 (dFor (dSeq (dVar 1)) (gN 3) (dExtend 2 (dOpR fIx (dVar 0) (dVar 3)))) (dRet (dCB (on1 fTuple) (dCons (dSortSetJ (dVar 2)) (dNil)))))
theorem p__law_closing (ds : List DV) (Q : DV → Prop) (h : g__law_closing ds Q) : t__law_closing { nx := fun _ => Q (.sh .none), rt := Q } (startD n__law_closing ds) := by
  obtain ⟨⟨n, r, p⟩, rfl, hn, q⟩ := h
  have hn : n ≤ 10 := hn
  have hz : (1000 : Nat) ≤ sizeLine := by decide
  have q : Q (.sh (lotD (fl n (relP n r p)))) := q _ rfl
  simp [t__law_closing, startD, n__law_closing, sideD, lotD, -List.map_map]
  intro _
  refine forRun_ix (fun x : Nat => PyData.int x) (fl n p) (fun i δ => ∃ y : Option DV, δ = [some (.sh (.list (listsD n fun x => fl n (r x)))), some (.sh (.tuple ((fl n p).map fun x : Nat => PyData.int x))), some (ownL (natL (unionL n r ((fl n p).take i)))), y]) (fun i x δ e hI N hN => ?_) (fun δ hI => ?_) ⟨none, rfl⟩
  · obtain ⟨y, rfl⟩ := hI
    have hx := (mem_fl.mp (List.mem_of_getElem? e)).1
    have l1 := unionL_len hn r ((fl n p).take i)
    have l2 : ((fl n p).take i).length ≤ 10 := by rw [List.length_take]; have := fl_len n p; omega
    have l3 := fl_len n (r x)
    simp [ownL, listsD_get hx, natL_len, -List.map_map, -List.length_take]
    refine ⟨by omega, hN _ ⟨some (.sh (.int (x : Nat))), ?_⟩⟩
    rw [take_one e, unionL_snoc]
    simp [ownL, natL_app]
  · obtain ⟨y, rfl⟩ := hI
    rw [List.take_length]
    have l1 := unionL_len hn r (fl n p)
    have l2 := fl_len n p
    have nl : noLsts (natL (unionL n r (fl n p))) = true := noLsts_natL _
    simp [ownL, sup_br, nl, -List.map_map]
    exact set_fl hn (l := unionL n r (fl n p)) (K := fun ks => Q (.sh (.tuple ks))) (by omega) (fun y => relP_mem) q
def g__law_outer : Sg := pr (fun x : Nat × (Nat → Nat → Bool) × (Nat → Bool) => [.sh (sideD x.1 x.2.1), .sh (lotD (fl x.1 x.2.2))]) (fun x => x.1 ≤ 10) (fun x dv => dv = .sh (lotD (fl x.1 (endsP x.1 x.2.1 x.2.2))))
def n__law_outer : List Str := ["rows", "lot", "found", "a", "b"]
def t__law_outer : DS := dSeq2 (dSet 2 (dLst (dNil))) (dSeq2 (dFor (dSeq (dVar 1)) (gN 3) (dIfS (dTest (dOp (fRel sDep rEqv) (dLc (dSeqQ (dVar 1)) (gN 4) (dAnd (dTest (dOp (fRel sIn rInD) (dVar 4) (dOpR fIx (dVar 0) (dVar 3)))) (dOr (dTest (dOp (fRel sIn fun d e => !rInD d e) (dVar 3) (dOpR fIx (dVar 0) (dVar 4)))) (dTest (dOp (fRel sLt rLtD) (dVar 4) (dVar 3))))) (dVar 4) [4]) (dLst (dNil)))) (dAppend 2 (dVar 3)) (dNext))) (dRet (dCB (on1 fTuple) (dCons (dVar 2) (dNil)))))
theorem outer_iff {n : Nat} {r : Nat → Nat → Bool} {p : Nat → Bool} {x : Nat} (hx : x < n) : (topP n r p x && leastP r p x) = true ↔ ∀ y, y < n → p y = true → r x y = true → r y x = true ∧ ¬ y < x := by
  unfold topP leastP pondP
  rw [Bool.and_eq_true, List.all_eq_true, List.all_eq_true]
  constructor
  · rintro ⟨h1, h2⟩ y hy py rxy
    have a := h1 y (List.mem_range.mpr hy)
    rw [rxy, py] at a
    have ryx : r y x = true := by simpa using a
    refine ⟨ryx, fun l => ?_⟩
    have b := h2 y (List.mem_range.mpr l)
    rw [rxy, ryx, py] at b
    simp at b
  · intro h
    refine ⟨fun y hy => ?_, fun y hy => ?_⟩
    · have hy := List.mem_range.mp hy
      cases e1 : p y <;> cases e2 : r x y <;> simp
      exact (h y hy e1 e2).1
    · have hy := List.mem_range.mp hy
      cases e1 : p y <;> cases e2 : r x y <;> simp
      exact absurd hy (h y (Nat.lt_trans hy hx) e1 e2).2
theorem rIn_natL (l : List Nat) (x : Nat) : rInD (.int (x : Nat)) (.list (natL l)) = decide (x ∈ l) := by
  have := rInD_lot x l
  unfold rInD lotD at this
  unfold rInD natL
  exact this
theorem sIn_natL (l : List Nat) (x : Nat) : sIn (.int (x : Nat)) (.list (natL l)) := by
  have := sIn_lot x l
  unfold sIn lotD at this
  unfold sIn natL
  exact this
theorem p__law_outer (ds : List DV) (Q : DV → Prop) (h : g__law_outer ds Q) : t__law_outer { nx := fun _ => Q (.sh .none), rt := Q } (startD n__law_outer ds) := by
  obtain ⟨⟨n, r, p⟩, rfl, hn, q⟩ := h
  have hn : n ≤ 10 := hn
  have hz : (1000 : Nat) ≤ sizeLine := by decide
  have q : Q (.sh (lotD (fl n (endsP n r p)))) := q _ rfl
  simp [t__law_outer, startD, n__law_outer, sideD, lotD, -List.map_map]
  intro _
  refine forRun_ix (fun x : Nat => PyData.int x) (fl n p) (fun i δ => ∃ y : Option DV, δ = [some (.sh (.list (listsD n fun x => fl n (r x)))), some (.sh (.tuple ((fl n p).map fun x : Nat => PyData.int x))), some (ownL (natL (((fl n p).take i).filter fun x => topP n r p x && leastP r p x))), y, none]) (fun i x δ e hI N hN => ?_) (fun δ hI => ?_) ⟨none, rfl⟩
  · obtain ⟨y, rfl⟩ := hI
    have hx := (mem_fl.mp (List.mem_of_getElem? e)).1
    have l2 : ((fl n p).take i).length ≤ 10 := by rw [List.length_take]; have := fl_len n p; omega
    have l3 := List.length_filter_le (fun x => topP n r p x && leastP r p x) ((fl n p).take i)
    rw [take_one e, List.filter_append] at hN
    simp [ownL, -List.map_map, -List.length_take]
    intro _
    refine lcRun_fn (fun x : Nat => PyData.int x) (fun y => if (r x y && (!r y x || decide (y < x))) = true then some (DV.sh (.int (y : Nat))) else none) (fl n p) [] (by have := fl_len n p; simp; omega) (fun y my P hP => ?_) ?_
    · have hy := (mem_fl.mp my).1
      simp [listsD_get hx, listsD_get hy, rIn_natL, sIn_natL, mem_fl, hx, hy, -List.map_map]
      cases c1 : r x y
      · simp [c1] at hP ⊢; exact hP
      · cases c2 : r y x
        · simp [c1, c2] at hP ⊢; exact hP
        · simp [c1, c2] at hP ⊢
          by_cases c3 : y < x <;> simp [c3] at hP ⊢ <;> exact hP
    · rw [List.nil_append, filterMap_if (fun y => r x y && (!r y x || decide (y < x))) (fun y => DV.sh (.int (y : Nat))), own_nats]
      have key : ((fl n p).filter fun y => r x y && (!r y x || decide (y < x))) = [] ↔ (topP n r p x && leastP r p x) = true := by
        rw [outer_iff hx, List.filter_eq_nil_iff]
        constructor
        · intro h y hy py rxy
          have := h y (mem_fl.mpr ⟨hy, py⟩)
          rw [rxy] at this
          cases c : r y x <;> simp [c] at this ⊢
          exact this
        · intro h y my
          obtain ⟨hy, py⟩ := mem_fl.mp my
          cases c1 : r x y <;> simp
          have := h y hy py c1
          exact ⟨this.1, by omega⟩
      generalize ((fl n p).filter fun y => r x y && (!r y x || decide (y < x))) = L at key ⊢
      have c3 : L = [] → [x].filter (fun x => topP n r p x && leastP r p x) = [x] := fun c => List.filter_cons_of_pos (key.mp c)
      have c4 : L ≠ [] → [x].filter (fun x => topP n r p x && leastP r p x) = [] := fun c => List.filter_cons_of_neg fun z => c (key.mpr z)
      clear key
      have nil1 : rEqv (.list []) (.list []) = true := rfl
      rcases L with _ | ⟨z, L⟩
      · rw [c3 rfl, natL_app] at hN
        simp [nil1, -List.map_map, -List.length_take]
        refine ⟨sDep_nil _, by rw [natL_len]; omega, hN _ ⟨some (.sh (.int (x : Nat))), ?_⟩⟩
        simp [ownL, natL]
      · rw [c4 (by simp), List.append_nil] at hN
        have nil2 : rEqv (.list ((z :: L).map fun y : Nat => PyData.int y)) (.list []) = false := rfl
        rw [on2_on, fRel_e, nil2]
        simp [-List.map_map, -List.length_take]
        first | exact hN _ ⟨_, rfl⟩ | exact ⟨sDep_nil _, hN _ ⟨_, rfl⟩⟩
  · obtain ⟨y, rfl⟩ := hI
    rw [List.take_length]
    have e : ((fl n p).filter fun x => topP n r p x && leastP r p x) = fl n (endsP n r p) := by
      unfold fl endsP
      rw [List.filter_filter]
      refine List.filter_congr fun x _ => ?_
      rw [Bool.and_comm]
    rw [e]
    simp [ownL, -List.map_map]
    rw [fTuple_b (noLsts_natL _)]
    simp [-List.map_map]
    exact q
/-! ### the last deeds by rows -/
def optsD (n : Nat) (f : Nat → Option Nat) : List D := (List.range n).map fun y => optD (f y)
theorem optsD_len (n : Nat) (f : Nat → Option Nat) : (optsD n f).length = n := by unfold optsD; simp
theorem optsD_set {n b : Nat} {f : Nat → Option Nat} {v : Nat} (h : b < n) : ((optsD n f).map DV.sh).set b (.sh (.int (v : Nat))) = (optsD n fun y => if y = b then some v else f y).map DV.sh := by
  rw [set_own]
  congr 1
  unfold optsD
  refine List.ext_getElem (by simp) fun i h1 h2 => ?_
  simp only [List.length_map, List.length_range] at h2
  rw [List.getElem_set]
  by_cases e : b = i
  · subst e; simp [optD]
  · rw [if_neg e]
    simp [Ne.symm e]
theorem opts_none (n : Nat) : List.replicate n PyData.none = optsD n fun _ => none := by
  unfold optsD
  exact (List.eq_replicate_iff.mpr ⟨by simp, fun x m => by
    obtain ⟨y, _, rfl⟩ := List.mem_map.mp m
    rfl⟩).symm
def g__law_lasts : Sg := pr (fun x : Nat × List Pr × List Deed => [.sh (sidesD x.1 x.2.1), .sh (scriptD x.2.2)]) (fun x => x.1 ≤ 10 ∧ SOk x.1 x.2.2) (fun x dv => dv = ownL (optsD x.1 (lastAt x.2.1 x.2.2)))
def n__law_lasts : List Str := ["sides", "script", "found", "at", "deed", "terrace"]
def t__law_lasts : DS := dSeq2 (dSet 2 (dOpR fMul (dLst (dCons (dC .none) (dNil))) (dCB (on1 fLen) (dCons (dOpR fIx (dVar 0) (dC (.int 0))) (dNil))))) (dSeq2 (dFor (dEnum true (dVar 1)) (gT 2 (gsCons (gN 3) (gsCons (gN 4) (gsNil)))) (dFor (dSeq (dOpR fIx (dOpR fIx (dVar 0) (dIf (dTest (dOp (fRel sDep rEqv) (dOpR fIx (dVar 4) (dC (.int 0))) (dC (.str "pour")))) (dC (.int 0)) (dC (.int 1)))) (dOpR fIx (dVar 4) (dC (.int 1))))) (gN 5) (dSetIx 2 (dVar 5) (dVar 3)))) (dRetV 2))
theorem p__law_lasts (ds : List DV) (Q : DV → Prop) (h : g__law_lasts ds Q) : t__law_lasts { nx := fun _ => Q (.sh .none), rt := Q } (startD n__law_lasts ds) := by
  obtain ⟨⟨n, ps, s⟩, rfl, ⟨hn, hs⟩, q⟩ := h
  have hn : n ≤ 10 := hn
  have hs : SOk n s := hs
  have hz : (1000 : Nat) ≤ sizeLine := by decide
  have q : Q (ownL (optsD n (lastAt ps s))) := q _ rfl
  have ll : (listsD n fun x => fl n fun y => le ps y x).length = n := by unfold listsD; simp
  simp [t__law_lasts, startD, n__law_lasts, sidesD, sideD, ll, -List.map_map]
  refine fMul_rep (by omega) ?_
  rw [opts_none]
  simp [scriptD, -List.map_map]
  rw [enumD_map]
  refine forRun_ix (fun p : Deed × Nat => .tuple [.int p.2, deedD p.1]) s.zipIdx (fun i δ => ∃ x3 x4 x5 : Option DV, δ = [some (.sh (sidesD n ps)), some (.sh (.tuple (s.map deedD))), some (ownL (optsD n (lastAt ps (s.take i)))), x3, x4, x5]) (fun i z δ e hI N hN => ?_) (fun δ hI => ?_) ⟨none, none, none, rfl⟩
  · obtain ⟨x3, x4, x5, rfl⟩ := hI
    obtain ⟨d, j⟩ := z
    obtain ⟨e1, e2⟩ := zipIdx_at e
    have e2 : j = i := e2
    subst e2
    have e1 : s[j]? = some d := e1
    have hd := hs.1 d (List.mem_of_getElem? e1)
    have lj := (List.getElem?_eq_some_iff.mp e1).1
    have key : ∀ y, lastAt ps (s.take (j + 1)) y = if hits ps d y = true then some j else lastAt ps (s.take j) y := fun y => by
      rw [take_one e1, lastAt_snoc, List.length_take, Nat.min_eq_left (Nat.le_of_lt lj)]
    have fin : ∀ Z : DE → Prop, (∀ δ', (∃ x3 x4 x5 : Option DV, δ' = [some (.sh (sidesD n ps)), some (.sh (.tuple (s.map deedD))), some (ownL (optsD n fun y => if hits ps d y = true then some j else lastAt ps (s.take j) y)), x3, x4, x5]) → Z δ') → ∀ (B : DE → Prop) x4 x5, forRun (gN 5) (dSetIx 2 (dVar 5) (dVar 3)) { nx := Z, rt := Q, bk := B, ct := Z } (natL (fl n (hits ps d))) [some (.sh (sidesD n ps)), some (.sh (.tuple (s.map deedD))), some (ownL (optsD n (lastAt ps (s.take j)))), some (.sh (.int (j : Nat))), x4, x5] := by
      intro Z hZ B x4 x5
      refine forRun_ix (fun x : Nat => PyData.int x) (fl n (hits ps d)) (fun i δ => ∃ x5 : Option DV, δ = [some (.sh (sidesD n ps)), some (.sh (.tuple (s.map deedD))), some (ownL (optsD n fun y => if y ∈ (fl n (hits ps d)).take i then some j else lastAt ps (s.take j) y)), some (.sh (.int (j : Nat))), x4, x5]) (fun i x δ e hI N hN => ?_) (fun δ hI => ?_) ⟨x5, by simp⟩
      · obtain ⟨x5, rfl⟩ := hI
        have hx := (mem_fl.mp (List.mem_of_getElem? e)).1
        simp [ownL, optsD_len, hx, optsD_set hx, -List.map_map]
        refine hN _ ⟨some (.sh (.int (x : Nat))), ?_⟩
        have e4 : (fun y => if y ∈ (fl n (hits ps d)).take (i + 1) then some j else lastAt ps (s.take j) y) = fun y => if y = x then some j else if y ∈ (fl n (hits ps d)).take i then some j else lastAt ps (s.take j) y := funext fun y => by
          rw [take_one e]
          simp only [List.mem_append, List.mem_singleton]
          by_cases c : y = x <;> simp [c]
        rw [e4]
      · obtain ⟨x5, rfl⟩ := hI
        rw [List.take_length]
        refine hZ _ ⟨some (.sh (.int (j : Nat))), x4, x5, ?_⟩
        have : optsD n (fun y => if y ∈ fl n (hits ps d) then some j else lastAt ps (s.take j) y) = optsD n fun y => if hits ps d y = true then some j else lastAt ps (s.take j) y := by
          unfold optsD
          refine List.map_congr_left fun y my => ?_
          have hy := List.mem_range.mp my
          simp [mem_fl, hy]
        rw [this]
    have e3 : lastAt ps (s.take (j + 1)) = fun y => if hits ps d y = true then some j else lastAt ps (s.take j) y := funext key
    rw [e3] at hN
    obtain ⟨b, x⟩ := d
    have hd : x < n := hd
    cases b with
    | true =>
      simp [sidesD, sideD, deedD, wordD, listsD_get hd, -List.map_map]
      intro _
      exact fin _ hN _ _ _
    | false =>
      simp [sidesD, sideD, deedD, wordD, listsD_get hd, -List.map_map]
      intro _
      exact fin _ hN _ _ _
  · obtain ⟨x3, x4, x5, rfl⟩ := hI
    rw [List.length_zipIdx, List.take_length]
    simp
    exact q
end HL.R
set_option Elab.async false
set_option linter.all false
set_option maxRecDepth 100000
set_option maxHeartbeats 1000000
namespace HL.R
open PySem PySem.Spec L2 DL
open PyProof.Rows hiding St
def g__law_couple : Sg := pr (fun x : Nat × List Pr × List Deed => [.sh (sidesD x.1 x.2.1), .sh (scriptD x.2.2)]) (fun x => x.1 ≤ 10 ∧ SOk x.1 x.2.2) (fun x dv => dv = .sh (coupD x.1 (cplOf x.2.1 x.2.2)))
def n__law_couple : List Str := ["sides", "script", "lasts", "wet", "dry", "x", "at"]
def t__law_couple : DS := dSeq2 (dSet 2 (dCall g__law_lasts (dCons (dVar 0) (dCons (dVar 1) (dNil))))) (dSeq2 (dSet 3 (dLc (dEnum false (dVar 2)) (gT 2 (gsCons (gN 5) (gsCons (gN 6) (gsNil)))) (dAnd (dTest (dOp (fRel sIs fun d e => !rIsD d e) (dVar 6) (dC .none))) (dTest (dOp (fRel sDep rEqv) (dOpR fIx (dOpR fIx (dVar 1) (dVar 6)) (dC (.int 0))) (dC (.str "pour"))))) (dVar 5) [5, 6])) (dSeq2 (dSet 4 (dLc (dEnum false (dVar 2)) (gT 2 (gsCons (gN 5) (gsCons (gN 6) (gsNil)))) (dAnd (dTest (dOp (fRel sIs fun d e => !rIsD d e) (dVar 6) (dC .none))) (dTest (dOp (fRel sDep rEqv) (dOpR fIx (dOpR fIx (dVar 1) (dVar 6)) (dC (.int 0))) (dC (.str "open"))))) (dVar 5) [5, 6])) (dRet (dTup (dCons (dCB (on1 fTuple) (dCons (dVar 3) (dNil))) (dCons (dCB (on1 fTuple) (dCons (dVar 4) (dNil))) (dNil)))))))
theorem noLsts_opts (n : Nat) (f : Nat → Option Nat) : noLsts (optsD n f) = true := noLsts_all fun d m => by
  unfold optsD at m
  obtain ⟨x, _, rfl⟩ := List.mem_map.mp m
  cases f x <;> simp [optD, noLst]
theorem p__law_couple (ds : List DV) (Q : DV → Prop) (h : g__law_couple ds Q) : t__law_couple { nx := fun _ => Q (.sh .none), rt := Q } (startD n__law_couple ds) := by
  obtain ⟨⟨n, ps, s⟩, rfl, ⟨hn, hs⟩, q⟩ := h
  have hn : n ≤ 10 := hn
  have hz : (1000 : Nat) ≤ sizeLine := by decide
  have q : Q (.sh (coupD n (cplOf ps s))) := q _ rfl
  simp [t__law_couple, startD, n__law_couple, -List.map_map]
  refine pr_call (n, ps, s) rfl ⟨hn, hs⟩ ?_
  rintro dv rfl
  simp [ownL, sup_br, noLsts_opts, -List.map_map]
  have en : enumD (optsD n (lastAt ps s)) = (List.range n).map fun y => .tuple [.int (y : Nat), optD (lastAt ps s y)] := enum_range n _
  rw [en]
  refine lcRun_fn (fun y : Nat => .tuple [.int (y : Nat), optD (lastAt ps s y)]) (fun y => if (cplOf ps s).wet y = true then some (DV.sh (.int (y : Nat))) else none) (List.range n) [] (by simp; omega) (fun y m P hP => ?_) ?_
  · simp [scriptD]
    cases e1 : lastAt ps s y with
    | none =>
      have : (cplOf ps s).wet y = false := by simp [cplOf, last_at, e1]
      simp [optD] at hP ⊢
      simpa [this] using hP
    | some i =>
      obtain ⟨d, h1, h2⟩ := last_word e1
      have ai : atI (s.map deedD) (i : Int) = some (deedD d) := atI_nat (by rw [List.getElem?_map, h1]; rfl)
      have hw : (cplOf ps s).wet y = d.1 := by simp [cplOf, h2]
      simp [optD, ai, deedD]
      rw [hw] at hP
      cases ew : d.1 <;> simp [ew] at hP ⊢ <;> exact hP
  · rw [List.nil_append, filterMap_if (fun y => (cplOf ps s).wet y) (fun y => DV.sh (.int (y : Nat))), own_nats]
    simp [sup_br, noLsts_opts, -List.map_map]
    refine lcRun_fn (fun y : Nat => .tuple [.int (y : Nat), optD (lastAt ps s y)]) (fun y => if (cplOf ps s).dry y = true then some (DV.sh (.int (y : Nat))) else none) (List.range n) [] (by simp; omega) (fun y m P hP => ?_) ?_
    · simp [scriptD]
      cases e1 : lastAt ps s y with
      | none =>
        have : (cplOf ps s).dry y = false := by simp [cplOf, last_at, e1]
        simp [optD] at hP ⊢
        simpa [this] using hP
      | some i =>
        obtain ⟨d, h1, h2⟩ := last_word e1
        have ai : atI (s.map deedD) (i : Int) = some (deedD d) := atI_nat (by rw [List.getElem?_map, h1]; rfl)
        have hw : (cplOf ps s).dry y = !d.1 := by simp [cplOf, h2]
        simp [optD, ai, deedD]
        rw [hw] at hP
        cases ew : d.1 <;> simp [ew] at hP ⊢ <;> exact hP
    · rw [List.nil_append, filterMap_if (fun y => (cplOf ps s).dry y) (fun y => DV.sh (.int (y : Nat))), own_nats]
      have nl : ∀ l : List Nat, noLsts (l.map fun y : Nat => PyData.int y) = true := fun l => noLsts_natl l
      simp [-List.map_map]
      rw [fTuple_b (nl _)]
      simp [-List.map_map]
      rw [fTuple_b (nl _)]
      simp [-List.map_map]
      exact q
def g__law_script : Sg := pr (fun x : Nat × Nat => [.tok 0, .sh (.int x.1), .sh (.int x.2)]) (fun x => 1 ≤ x.1 ∧ x.1 ≤ 10 ∧ x.2 ≤ 100) (fun x dv => ∃ s : List Deed, (∀ d ∈ s, d.2 < x.1) ∧ s.length ≤ x.2 ∧ dv = .sh (scriptD s))
def n__law_script : List Str := ["deck", "n", "most", "found", "place", "turn"]
def t__law_script : DS := dSeq2 (dPar 3 4 (dCons (dLst (dNil)) (dCons (dCall g__law_draw (dCons (dVar 0) (dCons (dVar 1) (dNil)))) (dNil)))) (dSeq2 (dFor (dRange1 (dCall g__law_draw (dCons (dVar 0) (dCons (dOpR fAdd (dVar 2) (dC (.int 1))) (dNil))))) (gN 5) (dSeq2 (dIfS (dTest (dOp (fRel sLt fun d e => rLtD e d) (dCall g__law_draw (dCons (dVar 0) (dCons (dC (.int 4)) (dNil)))) (dC (.int 0)))) (dSet 4 (dCall g__law_draw (dCons (dVar 0) (dCons (dVar 1) (dNil))))) (dNext)) (dAppend 3 (dTup (dCons (dCall g__law_pick (dCons (dVar 0) (dCons (dLst (dCons (dC (.str "pour")) (dCons (dC (.str "open")) (dNil)))) (dNil)))) (dCons (dVar 4) (dNil))))))) (dRet (dCB (on1 fTuple) (dCons (dVar 3) (dNil)))))
theorem p__law_script (ds : List DV) (Q : DV → Prop) (h : g__law_script ds Q) : t__law_script { nx := fun _ => Q (.sh .none), rt := Q } (startD n__law_script ds) := by
  obtain ⟨⟨n, most⟩, rfl, ⟨h1, h2, h3⟩, q⟩ := h
  have h1 : 1 ≤ n := h1
  have h2 : n ≤ 10 := h2
  have h3 : most ≤ 100 := h3
  have hz : (1000 : Nat) ≤ sizeLine := by decide
  simp [t__law_script, startD, n__law_script]
  refine draw_nat (many := n) rfl (by omega) fun y0 hy0 => ?_
  refine draw_nat (many := most + 1) rfl (by omega) fun k hk => ?_
  simp
  refine ⟨small_n (by omega), ?_⟩
  rw [rangeD_nat]
  refine forRun_nat k (fun i δ => ∃ (s : List Deed) (y : Nat) (x5 : Option DV), δ = [some (.tok 0), some (.sh (.int (n : Nat))), some (.sh (.int (most : Nat))), some (ownL (s.map deedD)), some (.sh (.int (y : Nat))), x5] ∧ y < n ∧ (∀ d ∈ s, d.2 < n) ∧ s.length = i) (fun i δ hi hI N hN => ?_) (fun δ hI => ?_) ⟨[], y0, none, rfl, hy0, (fun d m => by cases m), rfl⟩
  · obtain ⟨s, y, x5, rfl, hy, hs, hl⟩ := hI
    simp [ownL, -List.map_map]
    have put : ∀ y', y' < n → s.length < sizeLine ∧ g__law_pick [.tok 0, .sh (.list [.str "pour", .str "open"])] fun dv => (match fdL [R.val dv, R.val (.sh (.int (y' : Nat)))] with
        | some ds => N [some (.tok 0), some (.sh (.int (n : Nat))), some (.sh (.int (most : Nat))), some (.own ((s.map deedD).map DV.sh ++ [DV.sh (.tuple ds)])), some (.sh (.int (y' : Nat))), some (.sh (.int (i : Nat)))]
        | none => False) := by
      intro y' hy'
      refine ⟨by omega, pr_call (true, [.str "pour", .str "open"]) rfl ⟨by simp, by simp⟩ ?_⟩
      rintro dv ⟨d, hd, rfl⟩
      have : ∃ w : Bool, d = wordD w := by
        simp at hd
        rcases hd with rfl | rfl
        · exact ⟨true, rfl⟩
        · exact ⟨false, rfl⟩
      obtain ⟨w, rfl⟩ := this
      simp [-List.map_map]
      have := hN _ ⟨s ++ [(w, y')], y', some (.sh (.int (i : Nat))), rfl, hy', fun d m => ?_, by simp [hl]⟩
      · rw [ownL, List.map_append, List.map_append] at this
        exact this
      · rcases List.mem_append.mp m with m | m
        · exact hs d m
        · rw [List.mem_singleton.mp m]; exact hy'
    refine draw_nat (many := 4) rfl (by omega) fun z hz => ?_
    simp [-List.map_map]
    split
    · refine draw_nat (many := n) rfl (by omega) fun y' hy' => ?_
      exact put y' hy'
    · exact put y hy
  · obtain ⟨s, y, x5, rfl, hy, hs, hl⟩ := hI
    have nl : noLsts (s.map deedD) = true := noLsts_all fun d m => by
      obtain ⟨e, _, rfl⟩ := List.mem_map.mp m
      unfold deedD wordD
      simp [noLst, noLsts]
    simp [ownL, -List.map_map]
    rw [fTuple_b nl]
    simp [-List.map_map]
    exact q _ ⟨s, hs, by have : s.length = k := hl; omega, rfl⟩
def g__law_lot : Sg := pr (fun n : Nat => [.tok 0, .sh (.int n)]) (fun n => n ≤ 10) (fun n dv => ∃ p, dv = .sh (lotD (fl n p)))
def n__law_lot : List Str := ["deck", "n", "part", "at"]
def t__law_lot : DS := dSeq2 (dSet 2 (dCall g__law_pick (dCons (dVar 0) (dCons (dLst (dCons (dC (.int 2)) (dCons (dC (.int 3)) (dCons (dC (.int 2)) (dCons (dC (.int 1)) (dNil)))))) (dNil))))) (dRet (dCB (on1 fTuple) (dCons (dLc (dRange1 (dVar 1)) (gN 3) (dTest (dOp (fRel sDep rEqv) (dCall g__law_draw (dCons (dVar 0) (dCons (dVar 2) (dNil)))) (dC (.int 0)))) (dVar 3) [3]) (dNil))))
theorem p__law_lot (ds : List DV) (Q : DV → Prop) (h : g__law_lot ds Q) : t__law_lot { nx := fun _ => Q (.sh .none), rt := Q } (startD n__law_lot ds) := by
  obtain ⟨n, rfl, hn, q⟩ := h
  have hs : (100 : Nat) ≤ sizeLine := by decide
  simp [t__law_lot, startD, n__law_lot]
  refine pr_call (true, [.int 2, .int 3, .int 2, .int 1]) rfl ⟨by simp, by simp⟩ ?_
  rintro dv ⟨d, hd, rfl⟩
  have : ∃ k : Nat, d = .int k ∧ 0 < k ∧ k < 4 := by
    simp at hd
    rcases hd with rfl | rfl | rfl | rfl
    · exact ⟨2, rfl, by omega⟩
    · exact ⟨3, rfl, by omega⟩
    · exact ⟨2, rfl, by omega⟩
    · exact ⟨1, rfl, by omega⟩
  obtain ⟨k, rfl, k0, k4⟩ := this
  refine ⟨small_n (by omega), ?_⟩
  rw [rangeD_nat]
  refine lcRun_rel (fun i : Nat => PyData.int i) (fun (x : Nat) (o : Option DV) => o = some (.sh (.int (x : Nat))) ∨ o = none) _ _ (by simp; omega) (fun x m P hP => ?_) fun os p => ?_
  · simp
    refine draw_nat (many := k) rfl (by omega) fun r hr => ?_
    simp
    split
    · exact hP _ (.inl rfl)
    · exact hP _ (.inr rfl)
  · obtain ⟨ys, e, L, _⟩ := lot_sub (n := n) p (range_sorted n) fun x m => by simpa using m
    simp only [List.nil_append]
    rw [e, fTuple_o]
    exact q _ ⟨fun x => decide (x ∈ ys), by have := L.eq; unfold fl; rw [← this]; rfl⟩
def g__law_carried : Sg := pr (fun x : List Nat × Nat × (Nat → Bool) × Bool => [.sh (lotD x.1), .sh (maskArg x.2.2.2 (fl x.2.1 x.2.2.1))]) (fun x => x.1.length ≤ 10 ∧ ∀ y ∈ x.1, y < x.2.1) (fun x dv => dv = .sh (lotD (fl x.1.length fun a => x.2.2.1 (pl x.1 a))))
def n__law_carried : List Str := ["places", "lot", "at", "place"]
def t__law_carried : DS := dRet (dCB (on1 fTuple) (dCons (dLc (dEnum false (dVar 0)) (gT 2 (gsCons (gN 2) (gsCons (gN 3) (gsNil)))) (dTest (dOp (fRel sIn rInD) (dVar 3) (dVar 1))) (dVar 2) [2, 3]) (dNil)))
theorem in_arg {m x : Nat} {p : Nat → Bool} (hx : x < m) (b : Bool) : rInD (.int (x : Nat)) (maskArg b (fl m p)) = p x := by
  cases b with
  | false => exact in_fl hx
  | true =>
    have := rIn_natL (fl m p) x
    unfold natL at this
    show rInD _ (.list _) = _
    rw [this]
    cases c : p x <;> simp [mem_fl, hx, c]
theorem sin_arg (x : Nat) (b : Bool) (l : List Nat) : sIn (.int (x : Nat)) (maskArg b l) := by
  cases b with
  | false => exact sIn_lot x l
  | true => exact sIn_natL l x
theorem p__law_carried (ds : List DV) (Q : DV → Prop) (h : g__law_carried ds Q) : t__law_carried { nx := fun _ => Q (.sh .none), rt := Q } (startD n__law_carried ds) := by
  obtain ⟨⟨xs, m, p, bb⟩, rfl, ⟨hl, hx⟩, q⟩ := h
  have hl : xs.length ≤ 10 := hl
  have hz : (1000 : Nat) ≤ sizeLine := by decide
  have f1 : ∀ x ∈ xs, rInD (.int (x : Nat)) (maskArg bb (fl m p)) = p x := fun x mx => in_arg (hx x mx) bb
  have f2 : ∀ x : Nat, sIn (.int (x : Nat)) (maskArg bb (fl m p)) := fun x => sin_arg x bb _
  generalize hA : maskArg bb (fl m p) = A at f1 f2
  simp only [hA]
  simp [t__law_carried, startD, n__law_carried, lotD, -List.map_map]
  rw [enumD_map]
  refine lcRun_fn (fun p : Nat × Nat => .tuple [.int p.2, .int p.1]) (fun z : Nat × Nat => if p z.1 = true then some (.sh (.int z.2)) else none) xs.zipIdx [] (by simp; omega) (fun z mz P hP => ?_) ?_
  · obtain ⟨x, i⟩ := z
    have mx : x ∈ xs := by
      obtain ⟨j, hj⟩ := List.getElem?_of_mem mz
      exact List.mem_of_getElem? (zipIdx_at hj).1
    simp [f1 x mx, f2, -List.map_map]
    cases b : p x <;> simp [b] at hP ⊢ <;> exact hP
  · have e : xs.zipIdx.filterMap (fun z : Nat × Nat => if p z.1 = true then some (DV.sh (.int z.2)) else none) = (((xs.zipIdx.filter fun z => p z.1).map (·.2)).map fun x : Nat => PyData.int x).map DV.sh := by
      rw [filterMap_map (fun z : Nat × Nat => p z.1) fun z => DV.sh (.int z.2), List.map_map, List.map_map]
      rfl
    rw [List.nil_append, e, zipIdx_filter xs p]
    simp [-List.map_map]
    exact q _ rfl
def g__law_due : Sg := pr (fun x : MapD => mapArgs x.1 ++ [.sh (deedD x.2)]) (fun x => MapPre x.1 ∧ x.2.2 < x.1.2.2.1) (fun x dv => dv = .sh (scriptD (carD x.1.1 x.1.2.1 x.1.2.2.2.1 x.1.2.2.2.2 x.2)))
def n__law_due : List Str := ["one", "other", "places", "deed", "rows", "lot", "at"]
def t__law_due : DS := dSeq2 (dSet 4 (dIf (dTest (dOp (fRel sDep rEqv) (dOpR fIx (dVar 3) (dC (.int 0))) (dC (.str "pour")))) (dC (.int 0)) (dC (.int 1)))) (dSeq2 (dSet 5 (dCall g__law_carried (dCons (dVar 2) (dCons (dOpR fIx (dOpR fIx (dCall g__law_sides (dCons (dVar 1) (dNil))) (dVar 4)) (dOpR fIx (dVar 3) (dC (.int 1)))) (dNil))))) (dRet (dCB (on1 fTuple) (dCons (dLc (dSeqQ (dCall g__law_outer (dCons (dOpR fIx (dCall g__law_sides (dCons (dVar 0) (dNil))) (dOp fSub (dC (.int 1)) (dVar 4))) (dCons (dVar 5) (dNil))))) (gN 6) (dYes) (dTup (dCons (dOpR fIx (dVar 3) (dC (.int 0))) (dCons (dVar 6) (dNil)))) [6]) (dNil)))))
theorem p__law_due (ds : List DV) (Q : DV → Prop) (h : g__law_due ds Q) : t__law_due { nx := fun _ => Q (.sh .none), rt := Q } (startD n__law_due ds) := by
  obtain ⟨⟨⟨n, ps, m, qs, xs⟩, b, x⟩, rfl, ⟨⟨H1, H2, M⟩, hx⟩, q⟩ := h
  have H1 : Hill n ps := H1
  have H2 : Hill m qs := H2
  have M : MapOk n ps m qs xs := M
  have hn := H1.good.hi
  have hx : x < m := hx
  have hz : (1000 : Nat) ≤ sizeLine := by decide
  have q : Q (.sh (scriptD (carD n ps qs xs (b, x)))) := q _ rfl
  have e1 : carT n ps qs xs (b, x) = fl n (endsP n (if b = true then HL.le ps else ge ps) fun a => hits qs (b, x) (pl xs a)) := rfl
  have l1 := carT_len n ps qs xs (b, x)
  have fin : ∀ b', b' = b → (carT n ps qs xs (b, x)).map (fun y => DV.sh (deedD (b', y))) = ((carD n ps qs xs (b, x)).map deedD).map DV.sh := fun b' e => by subst e; unfold carD; rw [List.map_map, List.map_map]; rfl
  cases b with
  | true =>
    simp [t__law_due, startD, n__law_due, deedD, wordD, -List.map_map]
    refine pr_call (m, qs) rfl H2.good ?_
    rintro dv rfl
    simp [sidesD, sideD, listsD_get hx, -List.map_map]
    refine pr_call (xs, m, (fun y => HL.le qs y x), true) rfl ⟨by rw [M.len]; exact hn, M.lt⟩ ?_
    rintro dv rfl
    refine pr_call (n, ps) rfl H1.good ?_
    rintro dv rfl
    simp [sidesD, M.len, -List.map_map]
    refine pr_call (n, HL.le ps, fun a => HL.le qs (pl xs a) x) rfl hn ?_
    rintro dv rfl
    simp [lotD, -List.map_map]
    intro _
    refine lcRun_map (fun y : Nat => PyData.int y) (fun y => .sh (deedD (true, y))) (carT n ps qs xs (true, x)) (by omega) (fun y my P hP => ?_) ?_
    · simp
      exact hP
    · rw [fin true rfl]
      simp [-List.map_map]
      exact q
  | false =>
    simp [t__law_due, startD, n__law_due, deedD, wordD, -List.map_map]
    refine pr_call (m, qs) rfl H2.good ?_
    rintro dv rfl
    simp [sidesD, sideD, listsD_get hx, -List.map_map]
    refine pr_call (xs, m, (fun y => HL.le qs x y), true) rfl ⟨by rw [M.len]; exact hn, M.lt⟩ ?_
    rintro dv rfl
    refine pr_call (n, ps) rfl H1.good ?_
    rintro dv rfl
    simp [sidesD, M.len, -List.map_map]
    refine pr_call (n, ge ps, fun a => HL.le qs x (pl xs a)) rfl hn ?_
    rintro dv rfl
    simp [lotD, -List.map_map]
    intro _
    refine lcRun_map (fun y : Nat => PyData.int y) (fun y => .sh (deedD (false, y))) (carT n ps qs xs (false, x)) (by omega) (fun y my P hP => ?_) ?_
    · simp
      exact hP
    · rw [fin false rfl]
      simp [-List.map_map]
      exact q
end HL.R
set_option Elab.async false
set_option linter.all false
set_option maxRecDepth 100000
set_option maxHeartbeats 1000000
namespace HL.R
open PySem PySem.Spec L2 DL
open PyProof.Rows hiding St
def g_need_water_scripts : Sg := pr (fun x : Nat × List Pr × (Nat → Bool) => [.sh (bookD x.1 x.2.1), .sh (lotD (fl x.1 x.2.2))]) (fun x => Hill x.1 x.2.1 ∧ Dn x.1 x.2.1 x.2.2) (fun _ dv => dv = .sh .none)
def n_need_water_scripts : List Str := ["hill", "water"]
def t_need_water_scripts : DS := dSeq2 (dExpr (dCall g_need_hill (dCons (dVar 0) (dNil)))) (dIfS (dNot (dTest (dCall g_is_lower_value (dCons (dVar 0) (dCons (dVar 1) (dNil)))))) (dNever) (dNext))
theorem p_need_water_scripts (ds : List DV) (Q : DV → Prop) (h : g_need_water_scripts ds Q) : t_need_water_scripts { nx := fun _ => Q (.sh .none), rt := Q } (startD n_need_water_scripts ds) := by
  obtain ⟨⟨n, ps, p⟩, rfl, ⟨G, hp⟩, q⟩ := h
  have hp : Dn n ps p := hp
  simp [t_need_water_scripts, startD, n_need_water_scripts]
  refine pr_call (n, ps) rfl G ?_
  rintro dv rfl
  refine pr_call (n, ps, p) rfl (Hill.good G) ?_
  rintro dv rfl
  have : isDn n ps p = true := isDn_iff.mpr hp
  simp [this]
  exact q _ rfl
def g_run : Sg := pr (fun x : Nat × List Pr × (Nat → Bool) × List Deed => [.sh (bookD x.1 x.2.1), .sh (lotD (fl x.1 x.2.2.1)), .sh (scriptD x.2.2.2)]) (fun x => Hill x.1 x.2.1 ∧ Dn x.1 x.2.1 x.2.2.1 ∧ SOk x.1 x.2.2.2) (fun x dv => dv = .sh (lotD (fl x.1 (ranP x.2.1 x.2.2.1 x.2.2.2))))
def n_run : List Str := ["hill", "water", "script"]
def t_run : DS := dSeq2 (dExpr (dCall g_need_water_scripts (dCons (dVar 0) (dCons (dVar 1) (dNil))))) (dSeq2 (dExpr (dCall g_need_script (dCons (dOpR fIx (dVar 0) (dC (.int 0))) (dCons (dVar 2) (dNil))))) (dRet (dCall g_lot_of (dCons (dCall g_done (dCons (dVar 0) (dCons (dCall g_mask_of (dCons (dVar 1) (dNil))) (dCons (dVar 2) (dNil))))) (dNil)))))
theorem p_run (ds : List DV) (Q : DV → Prop) (h : g_run ds Q) : t_run { nx := fun _ => Q (.sh .none), rt := Q } (startD n_run ds) := by
  obtain ⟨⟨n, ps, p, s⟩, rfl, ⟨G, hp, hs⟩, q⟩ := h
  have G : Hill n ps := G
  simp [t_run, startD, n_run]
  refine pr_call (n, ps, p) rfl ⟨G, hp⟩ ?_
  rintro dv rfl
  simp [bookD, -List.map_map]
  refine pr_call (n, s) rfl hs ?_
  rintro dv rfl
  refine mask_call G.good.hi fun m hm => ?_
  simp [-List.map_map]
  refine pr_call (n, ps, p, m, s) rfl ⟨G.good, hm, hs⟩ ?_
  rintro dv ⟨k, rfl, hk⟩
  refine lot_call hk ?_
  exact q _ rfl
theorem le_clo {n : Nat} {rs : List Pr} {a b : Nat} (ha : a < n) (hb : b < n) (h : a = b ∨ (a, b) ∈ rs) : le (clo n rs) a b = true := by
  rw [le_iff]
  by_cases e : a = b
  · exact .inl e
  · rcases h with h | h
    · exact .inl h
    · exact .inr (mem_prs.mpr ⟨ha, hb, e, reach_iff.mpr (.step .refl h)⟩)
/-- drawn places -/
theorem places_lc {n m : Nat} {pat : DP} {elt : DT} {δ : DE} {Q : List DV → Prop} (hn : n ≤ 1000) (st : ∀ x, x < n → ∀ P : DV → Prop, (∀ y, y < m → P (.sh (.int (y : Nat)))) → pat (.int (x : Nat)) δ fun δ' => elt δ' fun r => (match r.fx with | some dv => P dv | none => False))
    (h : ∀ xs : List Nat, xs.length = n → (∀ x ∈ xs, x < m) → Q ((xs.map fun x : Nat => PyData.int x).map DV.sh)) : lcRun pat dYes elt δ ((List.range n).map fun i : Nat => PyData.int i) [] Q := by
  have hz : (1000 : Nat) ≤ sizeLine := by decide
  refine lcRun_rel (fun i : Nat => PyData.int i) (fun (_ : Nat) (o : Option DV) => ∃ y, y < m ∧ o = some (.sh (.int (y : Nat)))) _ _ (by simp; omega) (fun x mx P hP => ?_) fun os p => ?_
  · exact st x (List.mem_range.mp mx) (fun dv => P (some dv)) fun y hy => hP _ ⟨y, hy, rfl⟩
  · have key : ∀ {ws : List Nat} {os : List (Option DV)}, Paired (fun (_ : Nat) (o : Option DV) => ∃ y, y < m ∧ o = some (.sh (.int (y : Nat)))) ws os → ∃ xs : List Nat, xs.length = ws.length ∧ (∀ x ∈ xs, x < m) ∧ os.filterMap id = (xs.map fun x : Nat => PyData.int x).map DV.sh := by
      intro ws os p
      induction p with
      | nil => exact ⟨[], rfl, (fun _ m => by cases m), rfl⟩
      | cons r t ih =>
        obtain ⟨y, hy, rfl⟩ := r
        obtain ⟨xs, a1, a2, a3⟩ := ih
        refine ⟨y :: xs, by simp [a1], fun x mx => ?_, by rw [List.filterMap_cons]; simp [a3]⟩
        rcases List.mem_cons.mp mx with rfl | mx
        · exact hy
        · exact a2 x mx
    obtain ⟨xs, a1, a2, a3⟩ := key p
    rw [List.nil_append, a3]
    exact h xs (by rw [a1, List.length_range]) a2
def g__law_led : Sg := pr (fun x : Nat × List Pr × Nat => [.tok 0, .sh (bookD x.1 x.2.1), .sh (.int x.2.2)]) (fun x => Hill x.1 x.2.1 ∧ 1 ≤ x.2.2 ∧ x.2.2 ≤ 10) (fun x dv => ∃ qs xs, Hill x.2.2 qs ∧ MapOk x.1 x.2.1 x.2.2 qs xs ∧ dv = .sh (.tuple [bookD x.2.2 qs, lotD xs]))
def n__law_led : List Str := ["deck", "one", "n", "places", "pairs", "at", "a", "b", "turn"]
def t__law_led : DS := dSeq2 (dSet 3 (dCB (on1 fTuple) (dCons (dLc (dRange1 (dOpR fIx (dVar 1) (dC (.int 0)))) (gN 5) (dYes) (dCall g__law_draw (dCons (dVar 0) (dCons (dVar 2) (dNil)))) [5]) (dNil)))) (dSeq2 (dSet 4 (dLc (dSeqQ (dOpR fIx (dVar 1) (dC (.int 1)))) (gT 2 (gsCons (gN 6) (gsCons (gN 7) (gsNil)))) (dYes) (dTup (dCons (dOpR fIx (dVar 3) (dVar 6)) (dCons (dOpR fIx (dVar 3) (dVar 7)) (dNil)))) [6, 7])) (dSeq2 (dExtend 4 (dLc (dRange1 (dCall g__law_draw (dCons (dVar 0) (dCons (dC (.int 4)) (dNil))))) (gN 8) (dYes) (dTup (dCons (dCall g__law_draw (dCons (dVar 0) (dCons (dVar 2) (dNil)))) (dCons (dCall g__law_draw (dCons (dVar 0) (dCons (dVar 2) (dNil)))) (dNil)))) [8])) (dRet (dTup (dCons (dCall g__law_closed (dCons (dVar 2) (dCons (dLc (dSeqQ (dVar 4)) (gT 2 (gsCons (gN 6) (gsCons (gN 7) (gsNil)))) (dTest (dOp (fRel sDep fun d e => !rEqv d e) (dVar 6) (dVar 7))) (dTup (dCons (dVar 6) (dCons (dVar 7) (dNil)))) [6, 7]) (dNil)))) (dCons (dVar 3) (dNil)))))))
theorem p__law_led (ds : List DV) (Q : DV → Prop) (h : g__law_led ds Q) : t__law_led { nx := fun _ => Q (.sh .none), rt := Q } (startD n__law_led ds) := by
  obtain ⟨⟨k, ps, n⟩, rfl, ⟨H, n1, n10⟩, q⟩ := h
  have H : Hill k ps := H
  have n1 : 1 ≤ n := n1
  have n10 : n ≤ 10 := n10
  have hk := H.good.hi
  have bl := book_len H.good
  have hz : (1000 : Nat) ≤ sizeLine := by decide
  simp [t__law_led, startD, n__law_led, bookD, -List.map_map]
  refine ⟨small_n (by omega), ?_⟩
  rw [rangeD_nat]
  refine places_lc (m := n) (by omega) (fun x hx P hP => ?_) fun xs hl hx => ?_
  · simp [-List.map_map]
    exact draw_nat (many := n) rfl (by omega) fun r hr => hP r hr
  have M1 : ∀ a, a < k → pl xs a < n := fun a ha => hx _ (List.mem_of_getElem? (pl_get (by omega)))
  simp [-List.map_map]
  intro _
  refine lcRun_map prD (fun p => .sh (prD (pl xs p.1, pl xs p.2))) ps (by omega) (fun p mp P hP => ?_) ?_
  · have hp := H.good.ok p mp
    simp [prD, lot_atI (xs := xs) (a := p.1) (by omega), lot_atI (xs := xs) (a := p.2) (by omega), -List.map_map]
    exact hP
  have e1 : ps.map (fun p : Pr => DV.sh (prD (pl xs p.1, pl xs p.2))) = ((ps.map fun p : Pr => ((pl xs p.1, pl xs p.2) : Pr)).map prD).map DV.sh := by rw [List.map_map, List.map_map]; rfl
  rw [e1]
  generalize hR : (ps.map fun p : Pr => ((pl xs p.1, pl xs p.2) : Pr)) = R
  have hR1 : ∀ p ∈ R, p.1 < n ∧ p.2 < n := fun p mp => by
    rw [← hR] at mp
    obtain ⟨r, mr, rfl⟩ := List.mem_map.mp mp
    have := H.good.ok r mr
    exact ⟨M1 _ this.1, M1 _ this.2.1⟩
  have hR2 : R.length ≤ 100 := by rw [← hR, List.length_map]; exact bl
  refine draw_nat (many := 4) rfl (by omega) fun t ht => ?_
  simp [-List.map_map]
  refine ⟨small_n (by omega), ?_⟩
  rw [rangeD_nat]
  refine lcP (ok := fun p => p.1 < n ∧ p.2 < n) (fun i : Nat => PyData.int i) _ (by simp; omega) (fun x mx P hP hN => ?_) fun ts ht1 ht2 => ?_
  · simp [-List.map_map]
    refine draw_nat (many := n) rfl (by omega) fun a ha => ?_
    simp [-List.map_map]
    refine draw_nat (many := n) rfl (by omega) fun b hb => ?_
    simp [-List.map_map]
    exact hP (a, b) ⟨ha, hb⟩
  simp at ht2
  simp [-List.map_map]
  refine ⟨by omega, ?_⟩
  rw [← List.map_append, ← List.map_append]
  have hl2 : (R ++ ts).length ≤ 200 := by simp; omega
  have hl3 : ∀ p ∈ R ++ ts, p.1 < n ∧ p.2 < n := fun p mp => (List.mem_append.mp mp).elim (hR1 p) (ht1 p)
  have hl4 : ∀ p ∈ R, p ∈ R ++ ts := fun p mp => List.mem_append_left _ mp
  generalize R ++ ts = S at hl2 hl3 hl4 ⊢
  simp [sup_br, noLsts_prs, -List.map_map]
  intro _
  refine lcRun_fn prD (fun p => if decide (p.1 ≠ p.2) = true then some (.sh (prD p)) else none) S [] (by simp; omega) (fun p mp P hP => ?_) ?_
  · simp [prD, -List.map_map]
    by_cases c : p.1 = p.2
    · simp [c] at hP ⊢; exact hP
    · have c' : ¬ ((p.1 : Int) = p.2) := by omega
      simp [c] at hP
      simp [c']
      exact hP
  rw [List.nil_append, filterMap_if (fun p : Pr => decide (p.1 ≠ p.2)) (fun p => DV.sh (prD p))]
  have e2 : (S.filter fun p : Pr => decide (p.1 ≠ p.2)).map (fun p => DV.sh (prD p)) = ((S.filter fun p : Pr => decide (p.1 ≠ p.2)).map prD).map DV.sh := by rw [List.map_map]; rfl
  rw [e2]
  generalize hU : (S.filter fun p : Pr => decide (p.1 ≠ p.2)) = U
  have hU1 : ∀ p, p ∈ U ↔ p ∈ S ∧ p.1 ≠ p.2 := fun p => by rw [← hU, List.mem_filter]; simp
  have hU2 : U.length ≤ 200 := by rw [← hU]; exact Nat.le_trans (List.length_filter_le _ _) hl2
  simp [-List.map_map]
  refine pr_call (n, U) rfl ⟨n10, fun p mp => hl3 p ((hU1 p).mp mp).1, Nat.le_trans hU2 (by omega)⟩ ?_
  rintro dv rfl
  simp [-List.map_map]
  refine q _ ⟨clo n U, xs, hill_clo n1 n10, ⟨by omega, hx, fun p mp => ?_⟩, rfl⟩
  have hp := H.good.ok p mp
  refine le_clo (M1 _ hp.1) (M1 _ hp.2.1) ?_
  by_cases c : pl xs p.1 = pl xs p.2
  · exact .inl c
  · refine .inr ((hU1 _).mpr ⟨hl4 _ ?_, c⟩)
    rw [← hR]
    exact List.mem_map.mpr ⟨p, mp, rfl⟩
theorem rch_le {m : Nat} {qs rs : List Pr} {xs : List Nat} (H : Hill m qs) (h : ∀ p ∈ rs, le qs (pl xs p.1) (pl xs p.2) = true) {a b : Nat} (r : Rch rs a b) : le qs (pl xs a) (pl xs b) = true := by
  induction r with
  | refl => exact le_refl' _ _
  | step _ mp ih => exact H.letr ih (h _ mp)
def g__law_leading : Sg := pr (fun x : Nat × List Pr × Nat => [.tok 0, .sh (bookD x.1 x.2.1), .sh (.int x.2.2)]) (fun x => Hill x.1 x.2.1 ∧ 1 ≤ x.2.2 ∧ x.2.2 ≤ 10) (fun x dv => ∃ ps xs, Hill x.2.2 ps ∧ MapOk x.2.2 ps x.1 x.2.1 xs ∧ dv = .sh (.tuple [bookD x.2.2 ps, lotD xs]))
def n__law_leading : List Str := ["deck", "other", "n", "places", "above", "some", "pairs", "a", "near", "at", "b"]
def t__law_leading : DS := dSeq2 (dUnp [3, 4, 5] (dCons (dCB (on1 fTuple) (dCons (dLc (dRange1 (dVar 2)) (gN 9) (dYes) (dCall g__law_draw (dCons (dVar 0) (dCons (dOpR fIx (dVar 1) (dC (.int 0))) (dNil)))) [9]) (dNil))) (dCons (dOpR fIx (dCall g__law_sides (dCons (dVar 1) (dNil))) (dC (.int 1))) (dCons (dOpR fAdd (dCall g__law_draw (dCons (dVar 0) (dCons (dC (.int 3)) (dNil)))) (dC (.int 1))) (dNil))))) (dSeq2 (dSet 6 (dLst (dNil))) (dSeq2 (dFor (dRange1 (dVar 2)) (gN 7) (dSeq2 (dSet 8 (dLc (dRange1 (dVar 2)) (gN 10) (dAnd (dTest (dOp (fRel sDep fun d e => !rEqv d e) (dVar 10) (dVar 7))) (dTest (dOp (fRel sIn rInD) (dOpR fIx (dVar 3) (dVar 10)) (dOpR fIx (dVar 4) (dOpR fIx (dVar 3) (dVar 7)))))) (dVar 10) [10])) (dExtend 6 (dLc (dSeqQ (dVar 8)) (gN 10) (dTest (dOp (fRel sDep rEqv) (dCall g__law_draw (dCons (dVar 0) (dCons (dVar 5) (dNil)))) (dC (.int 0)))) (dTup (dCons (dVar 7) (dCons (dVar 10) (dNil)))) [10])))) (dFrz 6 (dRet (dTup (dCons (dCall g__law_closed (dCons (dVar 2) (dCons (dVar 6) (dNil)))) (dCons (dVar 3) (dNil))))))))
theorem p__law_leading (ds : List DV) (Q : DV → Prop) (h : g__law_leading ds Q) : t__law_leading { nx := fun _ => Q (.sh .none), rt := Q } (startD n__law_leading ds) := by
  obtain ⟨⟨m, qs, n⟩, rfl, ⟨H, n1, n10⟩, q⟩ := h
  have H : Hill m qs := H
  have n1 : 1 ≤ n := n1
  have n10 : n ≤ 10 := n10
  have hm := H.good.hi
  have hm1 := H.good.lo
  have hz : (1000 : Nat) ≤ sizeLine := by decide
  simp [t__law_leading, startD, n__law_leading, -List.map_map]
  refine ⟨small_n (by omega), ?_⟩
  rw [rangeD_nat]
  refine places_lc (m := m) (by omega) (fun x hx P hP => ?_) fun xs hl hx => ?_
  · simp [bookD, -List.map_map]
    exact draw_nat (many := m) rfl (by omega) fun r hr => hP r hr
  have M1 : ∀ a, a < n → pl xs a < m := fun a ha => hx _ (List.mem_of_getElem? (pl_get (by omega)))
  simp [-List.map_map]
  refine pr_call (m, qs) rfl H.good ?_
  rintro dv rfl
  simp [sidesD, sideD, -List.map_map]
  refine draw_nat (many := 3) rfl (by omega) fun t ht => ?_
  simp [-List.map_map]
  have e1 : (t : Int) + 1 = ((t + 1 : Nat) : Int) := by omega
  rw [e1]
  generalize hc : t + 1 = c
  refine ⟨small_n (by omega), ?_⟩
  rw [rangeD_nat]
  refine forRun_nat n (fun i δ => ∃ (rs : List Pr) (x7 x8 : Option DV), δ = [some (.tok 0), some (.sh (bookD m qs)), some (.sh (.int (n : Nat))), some (.sh (.tuple (xs.map fun x : Nat => PyData.int x))), some (.sh (.list (listsD m fun x => fl m fun y => le qs x y))), some (.sh (.int (c : Nat))), some (ownL (rs.map prD)), x7, x8, none, none] ∧ (∀ p ∈ rs, p.1 < n ∧ p.2 < n ∧ le qs (pl xs p.1) (pl xs p.2) = true) ∧ rs.length ≤ 10 * i) (fun i δ hi hI N hN => ?_) (fun δ hI => ?_) ⟨[], none, none, rfl, (fun p mp => by cases mp), by simp⟩
  · obtain ⟨rs, x7, x8, rfl, h1, h2⟩ := hI
    simp [-List.map_map]
    refine ⟨small_n (by omega), ?_⟩
    rw [rangeD_nat]
    refine lcRun_fn (fun i : Nat => PyData.int i) (fun b => if (decide (b ≠ i) && le qs (pl xs i) (pl xs b)) = true then some (.sh (.int (b : Nat))) else none) (List.range n) [] (by simp; omega) (fun b mb P hP => ?_) ?_
    · have hb := List.mem_range.mp mb
      have f1 := in_arg (p := fun y => le qs (pl xs i) y) (M1 b hb) true
      have f2 := sin_arg (pl xs b) true (fl m fun y => le qs (pl xs i) y)
      have f3 : maskArg true (fl m fun y => le qs (pl xs i) y) = .list (natL (fl m fun y => le qs (pl xs i) y)) := rfl
      rw [f3] at f1 f2
      simp [lot_atI (xs := xs) (a := b) (by omega), lot_atI (xs := xs) (a := i) (by omega), listsD_get (M1 i hi), f1, f2, -List.map_map]
      by_cases c1 : b = i
      · simp [c1] at hP ⊢; exact hP
      · have c2 : ¬ ((b : Int) = i) := by omega
        cases c3 : le qs (pl xs i) (pl xs b) <;> simp [c1, c3] at hP <;> simp [c2] <;> exact hP
    rw [List.nil_append, filterMap_if (fun b => decide (b ≠ i) && le qs (pl xs i) (pl xs b)) (fun b => DV.sh (.int (b : Nat))), own_nats]
    generalize hB : ((List.range n).filter fun b => decide (b ≠ i) && le qs (pl xs i) (pl xs b)) = B
    have hB1 : ∀ b ∈ B, b < n ∧ le qs (pl xs i) (pl xs b) = true := fun b mb => by
      rw [← hB] at mb
      obtain ⟨m1, m2⟩ := List.mem_filter.mp mb
      rw [Bool.and_eq_true] at m2
      exact ⟨List.mem_range.mp m1, m2.2⟩
    have hB2 : B.length ≤ n := by rw [← hB]; have := List.length_filter_le (fun b => decide (b ≠ i) && le qs (pl xs i) (pl xs b)) (List.range n); simpa using this
    have nl : noLsts (B.map fun y : Nat => PyData.int y) = true := noLsts_natl B
    simp [ownL, sup_br, nl, -List.map_map]
    intro _
    refine lcP (ok := fun p => p.1 < n ∧ p.2 < n ∧ le qs (pl xs p.1) (pl xs p.2) = true) (fun i : Nat => PyData.int i) B (by omega) (fun x mx P hP hN => ?_) fun ts ht1 ht2 => ?_
    · simp [-List.map_map]
      refine draw_nat (many := c) rfl (by omega) fun z hz => ?_
      simp [-List.map_map]
      split
      · exact hP (i, x) ⟨hi, (hB1 x mx).1, (hB1 x mx).2⟩
      · exact hN
    · simp [-List.map_map]
      refine ⟨by omega, ?_⟩
      rw [← List.map_append, ← List.map_append]
      refine hN _ ⟨rs ++ ts, _, _, rfl, fun p mp => (List.mem_append.mp mp).elim (h1 p) (ht1 p), by rw [List.length_append]; omega⟩
  · obtain ⟨rs, x7, x8, rfl, h1, h2⟩ := hI
    simp [ownL, DV.fz, -List.map_map]
    refine pr_call (n, rs) rfl ⟨n10, fun p mp => ⟨(h1 p mp).1, (h1 p mp).2.1⟩, Nat.le_trans h2 (by omega)⟩ ?_
    rintro dv rfl
    simp [-List.map_map]
    exact q _ ⟨clo n rs, xs, hill_clo n1 n10, ⟨by omega, hx, fun p mp => rch_le H (fun p mp => (h1 p mp).2.2) (reach_iff.mp (mem_prs.mp mp).2.2.2)⟩, rfl⟩
def g__law_mapped : Sg := pr (fun most : Nat => [.tok 0, .sh (.int most)]) (fun most => 1 ≤ most ∧ most ≤ 10) (fun _ dv => ∃ x : MapA, MapPre x ∧ dv = .sh (.tuple [bookD x.1 x.2.1, bookD x.2.2.1 x.2.2.2.1, lotD x.2.2.2.2]))
def n__law_mapped : List Str := ["deck", "most", "n", "hill", "other", "places", "one"]
def t__law_mapped : DS := dSeq2 (dPar 2 3 (dCons (dOpR fAdd (dC (.int 1)) (dCall g__law_draw (dCons (dVar 0) (dCons (dVar 1) (dNil))))) (dCons (dCall g__law_hill (dCons (dVar 0) (dCons (dVar 1) (dNil)))) (dNil)))) (dSeq2 (dIfS (dTest (dOp (fRel sDep rEqv) (dCall g__law_draw (dCons (dVar 0) (dCons (dC (.int 2)) (dNil)))) (dC (.int 0)))) (dSeq2 (dAsg (dCall g__law_led (dCons (dVar 0) (dCons (dVar 3) (dCons (dVar 2) (dNil))))) (gT 2 (gsCons (gN 4) (gsCons (gN 5) (gsNil))))) (dRet (dTup (dCons (dVar 3) (dCons (dVar 4) (dCons (dVar 5) (dNil))))))) (dNext)) (dSeq2 (dAsg (dCall g__law_leading (dCons (dVar 0) (dCons (dVar 3) (dCons (dVar 2) (dNil))))) (gT 2 (gsCons (gN 6) (gsCons (gN 5) (gsNil))))) (dRet (dTup (dCons (dVar 6) (dCons (dVar 3) (dCons (dVar 5) (dNil))))))))
theorem p__law_mapped (ds : List DV) (Q : DV → Prop) (h : g__law_mapped ds Q) : t__law_mapped { nx := fun _ => Q (.sh .none), rt := Q } (startD n__law_mapped ds) := by
  obtain ⟨k, rfl, ⟨k1, k10⟩, q⟩ := h
  simp [t__law_mapped, startD, n__law_mapped]
  refine draw_nat (many := k) rfl (by omega) fun t ht => ?_
  simp
  have e1 : (1 : Int) + t = ((1 + t : Nat) : Int) := by omega
  rw [e1]
  refine pr_call k rfl ⟨k1, k10⟩ ?_
  rintro dv ⟨n, ps, n1, nk, H, rfl⟩
  simp
  refine draw_nat (many := 2) rfl (by omega) fun z hz => ?_
  simp
  split
  · refine pr_call (n, ps, 1 + t) rfl ⟨H, by simp, by simp; omega⟩ ?_
    rintro dv ⟨qs, xs, H2, M, rfl⟩
    simp
    exact q _ ⟨(n, ps, 1 + t, qs, xs), ⟨H, H2, M⟩, rfl⟩
  · refine pr_call (n, ps, 1 + t) rfl ⟨H, by simp, by simp; omega⟩ ?_
    rintro dv ⟨qs, xs, H2, M, rfl⟩
    simp
    exact q _ ⟨(1 + t, qs, n, ps, xs), ⟨H2, H, M⟩, rfl⟩
end HL.R
set_option Elab.async false
set_option linter.all false
set_option maxRecDepth 100000
set_option maxHeartbeats 1000000
namespace HL.R
open PySem PySem.Spec L2 DL
open PyProof.Rows hiding St
/-! ### what carried scripts do -/
theorem ends_any {n : Nat} {r : Nat → Nat → Bool} {p : Nat → Bool} (h : Pre n r) (cl : ∀ a b, a < n → b < n → r a b = true → p b = true → p a = true) {y : Nat} (hy : y < n) : ((fl n (endsP n r p)).any fun x => r y x) = p y := by
  rw [Bool.eq_iff_iff, List.any_eq_true]
  constructor
  · rintro ⟨x, mx, ryx⟩
    obtain ⟨hx, ex⟩ := mem_fl.mp mx
    have px : p x = true := by
      unfold endsP at ex
      rw [Bool.and_eq_true] at ex
      exact ex.1
    exact cl y x hy hx ryx px
  · intro py
    obtain ⟨x, hx, ex, ryx⟩ := ends_cover h hy py
    exact ⟨x, mem_fl.mpr ⟨hx, ex⟩, ryx⟩
theorem car_any {n m : Nat} {ps qs : List Pr} {xs : List Nat} (H1 : Hill n ps) (H2 : Hill m qs) (M : MapOk n ps m qs xs) (d : Deed) {y : Nat} (hy : y < n) : ((carT n ps qs xs d).any fun x => hits ps (d.1, x) y) = hits qs d (pl xs y) := by
  obtain ⟨w, x0⟩ := d
  cases w with
  | true =>
    refine ends_any (r := HL.le ps) (p := fun a => hits qs (true, x0) (pl xs a)) H1.pre (fun a b ha hb l hb' => ?_) hy
    exact H2.letr (M.le l) hb'
  | false =>
    refine ends_any (r := ge ps) (p := fun a => hits qs (false, x0) (pl xs a)) H1.pre' (fun a b ha hb l hb' => ?_) hy
    exact H2.letr hb' (M.le l)
theorem fold_blk {β : Type} (g : Bool → β) (ps : List Pr) (w : Bool) (y : Nat) : ∀ (E : List Nat) (o : β), (E.map fun x => (w, x)).foldl (fun o (d : Deed) => if hits ps d y = true then g d.1 else o) o = if (E.any fun x => hits ps (w, x) y) = true then g w else o
  | [], o => by simp
  | x :: E, o => by
    rw [List.map_cons, List.foldl_cons, fold_blk g ps w y E]
    cases h : hits ps (w, x) y <;> simp [h]
theorem fold_car {β : Type} (g : Bool → β) {n m : Nat} {ps qs : List Pr} {xs : List Nat} (H1 : Hill n ps) (H2 : Hill m qs) (M : MapOk n ps m qs xs) {y : Nat} (hy : y < n) : ∀ (s : List Deed) (o : β), (carS n ps qs xs s).foldl (fun o (d : Deed) => if hits ps d y = true then g d.1 else o) o = s.foldl (fun o (d : Deed) => if hits qs d (pl xs y) = true then g d.1 else o) o
  | [], o => rfl
  | d :: s, o => by
    have e : carS n ps qs xs (d :: s) = carD n ps qs xs d ++ carS n ps qs xs s := by unfold carS; rw [List.flatMap_cons]
    rw [e, List.foldl_append, List.foldl_cons]
    unfold carD
    rw [fold_blk g ps d.1 y, car_any H1 H2 M d hy]
    exact fold_car g H1 H2 M hy s _
section
variable {n m : Nat} {ps qs : List Pr} {xs : List Nat} (H1 : Hill n ps) (H2 : Hill m qs) (M : MapOk n ps m qs xs)
include H1 H2 M
theorem car_last (s : List Deed) {y : Nat} (hy : y < n) : lastD ps (carS n ps qs xs s) y = lastD qs s (pl xs y) := fold_car some H1 H2 M hy s none
theorem car_ran (p : Nat → Bool) (s : List Deed) {y : Nat} (hy : y < n) : ranP ps (fun a => p (pl xs a)) (carS n ps qs xs s) y = ranP qs p s (pl xs y) := fold_car id H1 H2 M hy s (p (pl xs y))
theorem car_coup (s : List Deed) : coupD n (cplOf ps (carS n ps qs xs s)) = .tuple [lotD (fl n fun a => (cplOf qs s).wet (pl xs a)), lotD (fl n fun a => (cplOf qs s).dry (pl xs a))] := by
  unfold coupD
  rw [fl_congr (q := fun a => (cplOf qs s).wet (pl xs a)) fun y hy => ?_, fl_congr (p := (cplOf ps (carS n ps qs xs s)).dry) (q := fun a => (cplOf qs s).dry (pl xs a)) fun y hy => ?_]
  · unfold cplOf
    simp only
    rw [car_last H1 H2 M s hy]
  · unfold cplOf
    simp only
    rw [car_last H1 H2 M s hy]
theorem car_ok (s : List Deed) (hs : SOk m s) (hl : s.length ≤ 100) : SOk n (carS n ps qs xs s) := by
  refine ⟨fun d md => ?_, ?_⟩
  · unfold carS at md
    obtain ⟨e, me, md⟩ := List.mem_flatMap.mp md
    unfold carD at md
    obtain ⟨y, my, rfl⟩ := List.mem_map.mp md
    exact (mem_fl.mp my).1
  · have := carS_len n ps qs xs s
    have : n * s.length ≤ 10 * 100 := Nat.mul_le_mul H1.good.hi hl
    omega
theorem car_dn {p : Nat → Bool} (hp : Dn m qs p) : Dn n ps fun a => p (pl xs a) := fun a b ha hb l pb => hp _ _ (M.lt' ha) (M.lt' hb) (M.le l) pb
end
theorem sh_word (b : Bool) : Sh 10 0 (wordD b) := by
  cases b <;> exact ⟨rfl, by decide, by decide, by decide⟩
theorem sh_deed {n : Nat} {d : Deed} (hn : n ≤ 10) (h : d.2 < n) : Sh 22 1 (deedD d) := sh_tup (w := 10) (k := 0) (n := 2) (ds := [wordD d.1, .int d.2]) (fun x m => by
  simp at m
  rcases m with rfl | rfl
  · exact sh_word _
  · exact sh_int _ (by omega)) (by simp)
theorem sh_script {n : Nat} {s : List Deed} (hn : n ≤ 10) (h : SOk n s) : Sh 23000 2 (scriptD s) := sh_tup (n := 1000) (w := 22) (k := 1) (fun x m => by
  obtain ⟨d, md, rfl⟩ := List.mem_map.mp m
  exact sh_deed hn (h.1 d md)) (by rw [List.length_map]; exact h.2)
theorem sh_l2 {w k : Nat} {a b : D} (ha : Sh w k a) (hb : Sh w k b) : Sh (2 * (w + 1)) (k + 1) (.list [a, b]) := sh_list (by simp; exact ⟨ha, hb⟩) (by simp)
theorem fRepr_o {Q : R → Prop} (a b : D) : fRepr (.val (.own [.sh a, .sh b])) Q = (sShow (.list [a, b]) ∧ Q (.val (.sh (.str (PyData.list [a, b]).shown)))) := by
  have : (R.val (.own [.sh a, .sh b])).rd = some (.list [a, b]) := rd_own [a, b]
  unfold fRepr
  rw [this]
theorem onV_two {K : R → Prop} (a b : D) : onV (some (some (.own [.sh a, .sh b]))) K = K (.br (.list [a, b])) := onV_own [a, b]
theorem fRepr_br {Q : R → Prop} (d : D) : fRepr (.br d) Q = (sShow d ∧ Q (.val (.sh (.str d.shown)))) := by unfold fRepr; rfl
theorem fMul_two {d : D} {Q : R → Prop} (q : Q (.val (.own [.sh d, .sh d]))) : fMul (.val (.own [.sh d])) (.val (.sh (.int 2))) Q := fMul_rep (n := 2) (by omega) q
def g__law_told_couple : Sg := pr (fun x : Nat × List Pr × List Deed => [.sh (bookD x.1 x.2.1), .sh (scriptD x.2.2)]) (fun x => Hill x.1 x.2.1 ∧ SOk x.1 x.2.2) (fun x dv => dv = .sh (coupD x.1 (cplOf x.2.1 x.2.2)))
def n__law_told_couple : List Str := ["hill", "script"]
def t__law_told_couple : DS := dRet (dIf (dTest (dOp (fRel sLt rLeD) (dCB (on1 fLen) (dCons (dVar 1) (dNil))) (dC (.int 60)))) (dCall g_couple_of (dCons (dVar 0) (dCons (dVar 1) (dNil)))) (dCall g__law_couple (dCons (dCall g__law_sides (dCons (dVar 0) (dNil))) (dCons (dVar 1) (dNil)))))
theorem p__law_told_couple (ds : List DV) (Q : DV → Prop) (h : g__law_told_couple ds Q) : t__law_told_couple { nx := fun _ => Q (.sh .none), rt := Q } (startD n__law_told_couple ds) := by
  obtain ⟨⟨n, ps, s⟩, rfl, ⟨H, hs⟩, q⟩ := h
  have H : Hill n ps := H
  have q : Q (.sh (coupD n (cplOf ps s))) := q _ rfl
  simp [t__law_told_couple, startD, n__law_told_couple, scriptD, -List.map_map]
  split
  · refine pr_call (n, ps, s) rfl ⟨H, hs⟩ ?_
    rintro dv rfl
    exact q
  · refine pr_call (n, ps) rfl H.good ?_
    rintro dv rfl
    refine pr_call (n, ps, s) rfl ⟨H.good.hi, hs⟩ ?_
    rintro dv rfl
    exact q
theorem set_flK {n : Nat} (hn : n ≤ 10) {l : List Nat} (p : Nat → Bool) (hl : l.length ≤ 4000) (h : ∀ y, y ∈ l ↔ y < n ∧ p y = true) {K : List Int → Prop} (q : ∀ ms : List Int, ms.map PyData.int = (fl n p).map (fun x : Nat => PyData.int x) → K ms) :
    (match numsOf (natL l) with
    | some ns => (ns.length ≤ 4000 ∧ ∃ ms : List Int, ms.length ≤ 60 ∧ ∀ k ∈ ns, k ∈ ms) ∧ ∀ ms : List Int, ms.Pairwise (· < ·) → (∀ k, k ∈ ms ↔ k ∈ ns) → K ms
    | none => False) := by
  unfold natL
  rw [numsOf_nats]
  refine ⟨⟨by rw [List.length_map]; exact hl, (List.range n).map fun x : Nat => (x : Int), by rw [List.length_map, List.length_range]; omega, fun k mk => ?_⟩, fun ms h1 h2 => q ms (fl_int n p ms h1 fun k => ?_)⟩
  · obtain ⟨x, m, rfl⟩ := List.mem_map.mp mk
    exact List.mem_map.mpr ⟨x, List.mem_range.mpr ((h x).mp m).1, rfl⟩
  · rw [h2, List.mem_map]
    constructor
    · rintro ⟨x, m, rfl⟩
      exact ⟨x, ((h x).mp m).1, ((h x).mp m).2, rfl⟩
    · rintro ⟨x, hx, hp, rfl⟩
      exact ⟨x, (h x).mpr ⟨hx, hp⟩, rfl⟩
theorem seqOf_script (s : List Deed) : seqOf (scriptD s) = some (s.map deedD) := rfl
/-- the reaches of deeds, one behind the other -/
def unionD (n : Nat) (ps : List Pr) (l : List Deed) : List Nat := l.flatMap fun d => fl n (hits ps d)
theorem unionD_snoc (n : Nat) (ps : List Pr) (l : List Deed) (d : Deed) : unionD n ps (l ++ [d]) = unionD n ps l ++ fl n (hits ps d) := by unfold unionD; rw [List.flatMap_append]; simp
theorem unionD_len {n : Nat} (hn : n ≤ 10) (ps : List Pr) (l : List Deed) : (unionD n ps l).length ≤ l.length * 10 := flatMap_len (k := 10) (fun a => Nat.le_trans (fl_len n _) hn) l
theorem unionD_mem {n : Nat} {ps : List Pr} {l : List Deed} {y : Nat} : y ∈ unionD n ps l ↔ ∃ d ∈ l, y < n ∧ hits ps d y = true := by
  unfold unionD
  simp [List.mem_flatMap, mem_fl]
theorem depth_list {m : Nat} {ds : List D} (h : ∀ d ∈ ds, d.depth ≤ m) : (PyData.list ds).depth ≤ m + 1 := by
  rw [PyData.depth]
  have := depthAll_le h
  omega
theorem depth_natsL (l : List Nat) : (PyData.list (l.map fun x : Nat => PyData.int x)).depth ≤ 1 := depth_list (m := 0) fun d m => by
  obtain ⟨x, _, rfl⟩ := List.mem_map.mp m
  simp [depth_int]
theorem rEqv_nats (l m : List Nat) : rEqv (.list (l.map fun x : Nat => PyData.int x)) (.list (m.map fun x : Nat => PyData.int x)) = decide (l = m) := by
  rw [rEqv_eq, PyData.eqv]
  exact eqvAll_map (fun a b => by rw [PyData.eqv]; exact decide_eq_decide.mpr (by omega)) l m
def g__law_are_deeds_right : Sg := pr (fun x : MapA × List Deed => mapArgs x.1 ++ [.sh (scriptD x.2)]) (fun x => MapPre x.1 ∧ SOk x.1.2.2.1 x.2 ∧ x.2.length ≤ 100) (fun _ dv => dv = .sh (.bool true))
def n__law_are_deeds_right : List Str := ["one", "other", "places", "script", "whole", "deed", "due", "told", "reached", "it"]
def t__law_are_deeds_right : DS := dSeq2 (dSet 4 (dTup (dNil))) (dSeq2 (dFor (dSeq (dVar 3)) (gN 5) (dSeq2 (dSet 6 (dCall g__law_due (dCons (dVar 0) (dCons (dVar 1) (dCons (dVar 2) (dCons (dVar 5) (dNil))))))) (dSeq2 (dSet 7 (dLst (dCons (dCall g_carried_deed (dCons (dVar 0) (dCons (dVar 1) (dCons (dVar 2) (dCons (dVar 5) (dNil)))))) (dCons (dCallK g_carried_deed (pick [3, 2, 1, 0]) (dCons (dVar 5) (dCons (dVar 2) (dCons (dVar 1) (dCons (dVar 0) (dNil)))))) (dNil))))) (dSeq2 (dIfS (dTest (dOp (fRel sDep fun d e => !rEqv d e) (dCB (on1 fRepr) (dCons (dVar 7) (dNil))) (dCB (on1 fRepr) (dCons (dOpR fMul (dLst (dCons (dVar 6) (dNil))) (dC (.int 2))) (dNil))))) (dRet (dC (.bool false))) (dNext)) (dSeq2 (dSet 8 (dLst (dNil))) (dSeq2 (dFor (dSeq (dVar 6)) (gN 9) (dExtend 8 (dCB (on1 fList) (dCons (dCall g_reach (dCons (dVar 0) (dCons (dVar 9) (dNil)))) (dNil))))) (dSeq2 (dIfS (dTest (dOp (fRel sDep fun d e => !rEqv d e) (dSortSetJ (dVar 8)) (dCB (on1 fList) (dCons (dCall g__law_carried (dCons (dVar 2) (dCons (dCall g_reach (dCons (dVar 1) (dCons (dVar 5) (dNil)))) (dNil)))) (dNil))))) (dRet (dC (.bool false))) (dNext)) (dSet 4 (dOpR fAdd (dVar 4) (dVar 6)))))))))) (dSeq2 (dSet 7 (dLst (dCons (dCall g_carried_script (dCons (dVar 0) (dCons (dVar 1) (dCons (dVar 2) (dCons (dVar 3) (dNil)))))) (dCons (dCallK g_carried_script (pick [2, 3, 1, 0]) (dCons (dVar 3) (dCons (dVar 2) (dCons (dVar 0) (dCons (dVar 1) (dNil)))))) (dNil))))) (dRet (dOp (fRel sDep rEqv) (dCB (on1 fRepr) (dCons (dVar 7) (dNil))) (dCB (on1 fRepr) (dCons (dOpR fMul (dLst (dCons (dVar 4) (dNil))) (dC (.int 2))) (dNil)))))))
theorem p__law_are_deeds_right (ds : List DV) (Q : DV → Prop) (h : g__law_are_deeds_right ds Q) : t__law_are_deeds_right { nx := fun _ => Q (.sh .none), rt := Q } (startD n__law_are_deeds_right ds) := by
  obtain ⟨⟨⟨n, ps, m, qs, xs⟩, s⟩, rfl, ⟨⟨H1, H2, M⟩, hs, hl⟩, q⟩ := h
  have H1 : Hill n ps := H1
  have H2 : Hill m qs := H2
  have M : MapOk n ps m qs xs := M
  have hs : SOk m s := hs
  have hl : s.length ≤ 100 := hl
  have hn := H1.good.hi
  have hm := H2.good.hi
  have hz : (10000 : Nat) ≤ sizeLine := by decide
  have q : Q (.sh (.bool true)) := q _ rfl
  simp [t__law_are_deeds_right, startD, n__law_are_deeds_right, scriptD, -List.map_map]
  intro _
  refine forRun_ix deedD s (fun i δ => ∃ x5 x6 x7 x8 x9 : Option DV, δ = [some (.sh (bookD n ps)), some (.sh (bookD m qs)), some (.sh (lotD xs)), some (.sh (.tuple (s.map deedD))), some (.sh (scriptD (carS n ps qs xs (s.take i)))), x5, x6, x7, x8, x9]) (fun i d δ e hI N hN => ?_) (fun δ hI => ?_) ⟨none, none, none, none, none, rfl⟩
  · obtain ⟨x5, x6, x7, x8, x9, rfl⟩ := hI
    have hd := hs.1 d (List.mem_of_getElem? e)
    have pre : MapPre (n, ps, m, qs, xs) := ⟨H1, H2, M⟩
    have ok1 : SOk n (carD n ps qs xs d) := by
      have := car_ok H1 H2 M [d] ⟨fun e me => by rw [List.mem_singleton.mp me]; exact hd, by simp⟩ (by simp)
      unfold carS at this
      simpa using this
    have sh1 : Sh 23000 2 (scriptD (carD n ps qs xs d)) := sh_script hn ok1
    simp [-List.map_map]
    refine pr_call ((n, ps, m, qs, xs), d) rfl ⟨pre, hd⟩ ?_
    rintro dv rfl
    refine pr_call ((n, ps, m, qs, xs), d) rfl ⟨pre, hd⟩ ?_
    rintro dv rfl
    simp [pick, -List.map_map]
    refine pr_call ((n, ps, m, qs, xs), d) rfl ⟨pre, hd⟩ ?_
    rintro dv rfl
    simp [onV_two, fRepr_br, -List.map_map]
    refine ⟨(sh_l2 sh1 sh1).show, fMul_two ?_⟩
    rw [fRepr_o]
    simp [seqOf_script, -List.map_map]
    refine ⟨(sh_l2 sh1 sh1).show, fun _ => ?_⟩
    have lE := carD_len n ps qs xs d
    refine forRun_ix deedD (carD n ps qs xs d) (fun i' δ => ∃ x9 : Option DV, δ = [some (.sh (bookD n ps)), some (.sh (bookD m qs)), some (.sh (lotD xs)), some (.sh (.tuple (s.map deedD))), some (.sh (scriptD (carS n ps qs xs (s.take i)))), some (.sh (deedD d)), some (.sh (scriptD (carD n ps qs xs d))), some (.own [.sh (scriptD (carD n ps qs xs d)), .sh (scriptD (carD n ps qs xs d))]), some (ownL (natL (unionD n ps ((carD n ps qs xs d).take i')))), x9]) (fun i' it δ e' hI' N' hN' => ?_) (fun δ hI' => ?_) ⟨x9, rfl⟩
    · obtain ⟨x9, rfl⟩ := hI'
      have hit := ok1.1 it (List.mem_of_getElem? e')
      simp [-List.map_map]
      refine pr_call (n, ps, it) rfl ⟨H1, hit⟩ ?_
      rintro dv rfl
      have l1 := unionD_len hn ps ((carD n ps qs xs d).take i')
      have l2 : ((carD n ps qs xs d).take i').length ≤ 10 := by rw [List.length_take]; omega
      have l3 := fl_len n (hits ps it)
      have e1 : fList (.val (.sh (lotD (fl n (hits ps it))))) = fun Q => Q (.val (.own ((natL (fl n (hits ps it))).map DV.sh))) := by
        funext Q
        simp [lotD, natL, -List.map_map]
      rw [e1]
      simp [ownL, natL_len, -List.map_map, -List.length_take]
      refine ⟨by omega, hN' _ ⟨some (.sh (deedD it)), ?_⟩⟩
      rw [take_one e', unionD_snoc]
      simp [ownL, natL_app]
    · obtain ⟨x9, rfl⟩ := hI'
      rw [List.take_length]
      have l1 := unionD_len hn ps (carD n ps qs xs d)
      have nl : noLsts (natL (unionD n ps (carD n ps qs xs d))) = true := noLsts_natL _
      simp [ownL, sup_br, nl, -List.map_map]
      refine set_flK hn (l := unionD n ps (carD n ps qs xs d)) (fun a => hits qs d (pl xs a)) (by omega) (fun y => ?_) fun ms hms => ?_
      · rw [unionD_mem]
        constructor
        · rintro ⟨it, mit, hy, hh⟩
          refine ⟨hy, ?_⟩
          obtain ⟨x, mx, rfl⟩ := List.mem_map.mp mit
          rw [← car_any H1 H2 M d hy, List.any_eq_true]
          exact ⟨x, mx, hh⟩
        · rintro ⟨hy, hh⟩
          rw [← car_any H1 H2 M d hy, List.any_eq_true] at hh
          obtain ⟨x, mx, hh⟩ := hh
          exact ⟨_, List.mem_map.mpr ⟨x, mx, rfl⟩, hy, hh⟩
      · rw [hms]
        refine pr_call (m, qs, d) rfl ⟨H2, hd⟩ ?_
        rintro dv rfl
        simp [-List.map_map]
        refine pr_call (xs, m, hits qs d, false) rfl ⟨by rw [M.len]; exact hn, M.lt⟩ ?_
        rintro dv rfl
        simp only [M.len]
        simp [lotD, rEqv_nats, -List.map_map]
        have k1 := carS_len n ps qs xs (s.take i)
        have k2 : (s.take i).length ≤ 100 := by rw [List.length_take]; omega
        have k3 : n * (s.take i).length ≤ 10 * 100 := Nat.mul_le_mul hn k2
        have e5 : carS n ps qs xs (s.take (i + 1)) = carS n ps qs xs (s.take i) ++ carD n ps qs xs d := by
          rw [take_one e]
          unfold carS
          rw [List.flatMap_append]
          simp
        rw [e5] at hN
        exact ⟨sDep_le (depth_natsL _), by omega, hN _ ⟨_, _, _, _, _, rfl⟩⟩
  · obtain ⟨x5, x6, x7, x8, x9, rfl⟩ := hI
    rw [List.take_length]
    have pre : MapPre (n, ps, m, qs, xs) := ⟨H1, H2, M⟩
    have ok1 := car_ok H1 H2 M s hs hl
    have sh1 : Sh 23000 2 (scriptD (carS n ps qs xs s)) := sh_script hn ok1
    simp [-List.map_map]
    refine pr_call ((n, ps, m, qs, xs), s) rfl ⟨pre, hs⟩ ?_
    rintro dv rfl
    simp [pick, -List.map_map]
    refine pr_call ((n, ps, m, qs, xs), s) rfl ⟨pre, hs⟩ ?_
    rintro dv rfl
    simp [onV_two, fRepr_br, -List.map_map]
    refine ⟨(sh_l2 sh1 sh1).show, fMul_two ?_⟩
    rw [fRepr_o]
    simp [-List.map_map]
    exact ⟨(sh_l2 sh1 sh1).show, q⟩
end HL.R
set_option Elab.async false
set_option linter.all false
set_option maxRecDepth 100000
set_option maxHeartbeats 1000000
namespace HL
open PySem PySem.Spec L2 DL
open PyProof.Rows hiding St
theorem nodup_perm {α : Type} [DecidableEq α] {l m : List α} (nl : l.Nodup) (nm : m.Nodup) (h : ∀ x, x ∈ l ↔ x ∈ m) : l.Perm m := (List.perm_ext_iff_of_nodup nl nm).mpr h
/-! ### all waters of a hill, ascending -/
def IsW (n : Nat) (ps : List Pr) (l : List Nat) : Prop := ∃ p, Dn n ps p ∧ l = fl n p
def SW (n : Nat) (ps : List Pr) (S : List (List Nat)) : Prop := S.Pairwise ltL ∧ ∀ l, l ∈ S ↔ IsW n ps l
theorem SW.nodup {n : Nat} {ps : List Pr} {S : List (List Nat)} (h : SW n ps S) : S.Nodup := strict_nodup ltL_irrefl h.1
theorem msk_ex (p : Nat → Bool) : ∀ n, ∃ m, m < 2 ^ n ∧ ∀ y, m.testBit y = (decide (y < n) && p y)
  | 0 => ⟨0, by simp, fun y => by simp⟩
  | n + 1 => by
    obtain ⟨m, hm, h⟩ := msk_ex p n
    cases e : p n with
    | true =>
      refine ⟨m ||| 2 ^ n, Nat.or_lt_two_pow (Nat.lt_of_lt_of_le hm (Nat.pow_le_pow_right (by omega) (by omega))) (Nat.pow_lt_pow_right (by omega) (by omega)), fun y => ?_⟩
      rw [Nat.testBit_or, h, Nat.testBit_two_pow]
      by_cases z : n = y
      · subst z; simp [e]
      · by_cases c : y < n
        · have : y < n + 1 := by omega
          simp [z, c, this]
        · have : ¬ y < n + 1 := by omega
          simp [z, c, this]
    | false =>
      refine ⟨m, Nat.lt_of_lt_of_le hm (Nat.pow_le_pow_right (by omega) (by omega)), fun y => ?_⟩
      rw [h]
      by_cases z : n = y
      · subst z; simp [e]
      · by_cases c : y < n
        · have : y < n + 1 := by omega
          simp [c, this]
        · have : ¬ y < n + 1 := by omega
          simp [c, this]
theorem mem_wat {n : Nat} {ps : List Pr} (hn : n ≤ 10) {l : List Nat} : l ∈ watL n ps ↔ IsW n ps l := by
  unfold watL
  rw [List.mem_map]
  constructor
  · rintro ⟨m, mm, rfl⟩
    obtain ⟨m1, m2⟩ := List.mem_filter.mp mm
    have hm := msk_own hn (List.mem_range.mp m1)
    exact ⟨m.testBit, isDn_iff.mp m2, hm.bits⟩
  · rintro ⟨p, hp, rfl⟩
    obtain ⟨m, hm, h⟩ := msk_ex p n
    have e : ∀ x, x < n → p x = m.testBit x := fun x hx => by rw [h]; simp [hx]
    refine ⟨m, List.mem_filter.mpr ⟨List.mem_range.mpr hm, isDn_iff.mpr (dn_congr e hp)⟩, ?_⟩
    rw [(msk_own hn hm).bits]
    exact fl_congr fun x hx => (e x hx).symm
theorem nodup_mapOn {α β : Type} {f : α → β} : ∀ {l : List α}, l.Nodup → (∀ x ∈ l, ∀ y ∈ l, f x = f y → x = y) → (l.map f).Nodup
  | [], _, _ => List.nodup_nil
  | a :: l, nd, h => by
    rw [List.nodup_cons] at nd
    rw [List.map_cons, List.nodup_cons]
    refine ⟨fun m => ?_, nodup_mapOn nd.2 fun x mx y my => h x (List.mem_cons_of_mem _ mx) y (List.mem_cons_of_mem _ my)⟩
    obtain ⟨y, my, e⟩ := List.mem_map.mp m
    have := h y (List.mem_cons_of_mem _ my) a List.mem_cons_self e
    rw [this] at my
    exact nd.1 my
theorem wat_nodup {n : Nat} {ps : List Pr} (hn : n ≤ 10) : (watL n ps).Nodup := by
  unfold watL
  refine nodup_mapOn ((List.nodup_range).filter _) fun x mx y my e => ?_
  have hx := msk_own hn (List.mem_range.mp (List.mem_filter.mp mx).1)
  have hy := msk_own hn (List.mem_range.mp (List.mem_filter.mp my).1)
  rw [hx.bits, hy.bits] at e
  exact (hx.uniq hy).mpr (fl_inj e)
theorem SW.len {n : Nat} {ps : List Pr} {S : List (List Nat)} (hn : n ≤ 10) (h : SW n ps S) : S.length = (watL n ps).length :=
  (nodup_perm h.nodup (wat_nodup hn) fun l => by rw [h.2, mem_wat hn]).length_eq
def g_is_water : Sg := pr (fun x : Nat × List Pr × (Nat → Bool) => [.sh (bookD x.1 x.2.1), .sh (lotD (fl x.1 x.2.2))]) (fun x => Hill x.1 x.2.1) (fun x dv => dv = .sh (.bool (isDn x.1 x.2.1 x.2.2)))
def n_is_water : List Str := ["hill", "thing"]
def t_is_water : DS := dSeq2 (dExpr (dCall g_need_hill (dCons (dVar 0) (dNil)))) (dRet (dCall g_is_lower_value (dCons (dVar 0) (dCons (dVar 1) (dNil)))))
theorem p_is_water (ds : List DV) (Q : DV → Prop) (h : g_is_water ds Q) : t_is_water { nx := fun _ => Q (.sh .none), rt := Q } (startD n_is_water ds) := by
  obtain ⟨⟨n, ps, p⟩, rfl, H, q⟩ := h
  have H : Hill n ps := H
  simp [t_is_water, startD, n_is_water]
  refine pr_call (n, ps) rfl H ?_
  rintro dv rfl
  refine pr_call (n, ps, p) rfl H.good ?_
  rintro dv rfl
  exact q _ rfl
end HL
set_option Elab.async false
set_option linter.all false
set_option maxRecDepth 100000
set_option maxHeartbeats 1000000
namespace HL.R
open PySem PySem.Spec L2 DL
open PyProof.Rows hiding St
def g__law_is_led_right : Sg := pr (fun x : MapA × (Nat → Bool) × List Deed => mapArgs x.1 ++ [.sh (lotD (fl x.1.2.2.1 x.2.1)), .sh (scriptD x.2.2)]) (fun x => MapPre x.1 ∧ Dn x.1.2.2.1 x.1.2.2.2.1 x.2.1 ∧ SOk x.1.2.2.1 x.2.2 ∧ x.2.2.length ≤ 100) (fun _ dv => dv = .sh (.bool true))
def n__law_is_led_right : List Str := ["one", "other", "places", "water", "script", "back", "whole", "later", "wet", "dry", "due"]
def t__law_is_led_right : DS := dSeq2 (dPar 5 6 (dCons (dCall g_carried_water (dCons (dVar 0) (dCons (dVar 1) (dCons (dVar 2) (dCons (dVar 3) (dNil)))))) (dCons (dCall g_carried_script (dCons (dVar 0) (dCons (dVar 1) (dCons (dVar 2) (dCons (dVar 4) (dNil)))))) (dNil)))) (dSeq2 (dIfS (dOr (dTest (dOp (fRel sDep fun d e => !rEqv d e) (dCB (on1 fRepr) (dCons (dVar 5) (dNil))) (dCB (on1 fRepr) (dCons (dCall g__law_carried (dCons (dVar 2) (dCons (dVar 3) (dNil)))) (dNil))))) (dNot (dTest (dCall g_is_water (dCons (dVar 0) (dCons (dVar 5) (dNil))))))) (dRet (dC (.bool false))) (dNext)) (dSeq2 (dIfS (dTest (dOp (fRel sDep fun d e => !rEqv d e) (dCB (on1 fRepr) (dCons (dCallK g_carried_water (pick [3, 2, 1, 0]) (dCons (dVar 3) (dCons (dVar 2) (dCons (dVar 1) (dCons (dVar 0) (dNil)))))) (dNil))) (dCB (on1 fRepr) (dCons (dVar 5) (dNil))))) (dRet (dC (.bool false))) (dNext)) (dSeq2 (dSet 7 (dCall g_run (dCons (dVar 1) (dCons (dVar 3) (dCons (dVar 4) (dNil)))))) (dSeq2 (dIfS (dAnd (dTest (dOp (fRel sLt rLeD) (dCB (on1 fLen) (dCons (dVar 6) (dNil))) (dC (.int 60)))) (dTest (dOp (fRel sDep fun d e => !rEqv d e) (dCB (on1 fRepr) (dCons (dCall g_run (dCons (dVar 0) (dCons (dVar 5) (dCons (dVar 6) (dNil))))) (dNil))) (dCB (on1 fRepr) (dCons (dCall g_carried_water (dCons (dVar 0) (dCons (dVar 1) (dCons (dVar 2) (dCons (dVar 7) (dNil)))))) (dNil)))))) (dRet (dC (.bool false))) (dNext)) (dSeq2 (dAsg (dCall g__law_couple (dCons (dCall g__law_sides (dCons (dVar 1) (dNil))) (dCons (dVar 4) (dNil)))) (gT 2 (gsCons (gN 8) (gsCons (gN 9) (gsNil))))) (dSeq2 (dSet 10 (dTup (dCons (dCall g__law_carried (dCons (dVar 2) (dCons (dVar 8) (dNil)))) (dCons (dCall g__law_carried (dCons (dVar 2) (dCons (dVar 9) (dNil)))) (dNil))))) (dRet (dOp (fRel sDep rEqv) (dCB (on1 fRepr) (dCons (dLst (dCons (dCall g__law_told_couple (dCons (dVar 0) (dCons (dVar 6) (dNil)))) (dCons (dCall g_couple_of (dCons (dVar 1) (dCons (dVar 4) (dNil)))) (dNil)))) (dNil))) (dCB (on1 fRepr) (dCons (dLst (dCons (dVar 10) (dCons (dTup (dCons (dVar 8) (dCons (dVar 9) (dNil)))) (dNil)))) (dNil)))))))))))
theorem p__law_is_led_right (ds : List DV) (Q : DV → Prop) (h : g__law_is_led_right ds Q) : t__law_is_led_right { nx := fun _ => Q (.sh .none), rt := Q } (startD n__law_is_led_right ds) := by
  obtain ⟨⟨⟨n, ps, m, qs, xs⟩, p, s⟩, rfl, ⟨pre, hp, hs, hl⟩, q⟩ := h
  have pre : MapPre (n, ps, m, qs, xs) := pre
  obtain ⟨H1, H2, M⟩ := id pre
  have H1 : Hill n ps := H1
  have H2 : Hill m qs := H2
  have M : MapOk n ps m qs xs := M
  have hp : Dn m qs p := hp
  have hs : SOk m s := hs
  have hl : s.length ≤ 100 := hl
  have hn := H1.good.hi
  have hm := H2.good.hi
  have ok1 := car_ok H1 H2 M s hs hl
  have dn1 := car_dn H1 H2 M hp
  have dn2 := ran_dn H2 hp s
  have q : Q (.sh (.bool true)) := q _ rfl
  have cw : ∀ p', Dn m qs p' → ∀ Z : DV → Prop, Z (.sh (lotD (fl n fun a => p' (pl xs a)))) → g_carried_water [.sh (bookD n ps), .sh (bookD m qs), .sh (lotD xs), .sh (lotD (fl m p'))] Z := fun p' hp' Z hZ => pr_call ((n, ps, m, qs, xs), p') rfl ⟨pre, hp'⟩ fun dv e => by subst e; exact hZ
  have lc : ∀ p', ∀ Z : DV → Prop, Z (.sh (lotD (fl n fun a => p' (pl xs a)))) → g__law_carried [.sh (lotD xs), .sh (lotD (fl m p'))] Z := fun p' Z hZ => pr_call (xs, m, p', false) rfl ⟨by rw [M.len]; exact hn, M.lt⟩ fun dv e => by subst e; rw [M.len]; exact hZ
  simp [t__law_is_led_right, startD, n__law_is_led_right, -List.map_map]
  refine cw p hp _ ?_
  refine pr_call ((n, ps, m, qs, xs), s) rfl ⟨pre, hs⟩ ?_
  rintro dv rfl
  simp [-List.map_map]
  refine ⟨(sh_fl hn).show, lc p _ ?_⟩
  simp [-List.map_map]
  refine ⟨(sh_fl hn).show, ?_⟩
  refine pr_call (n, ps, fun a => p (pl xs a)) rfl H1 ?_
  rintro dv rfl
  have w1 : isDn n ps (fun a => p (pl xs a)) = true := isDn_iff.mpr dn1
  simp [w1, pick, -List.map_map]
  refine cw p hp _ ?_
  simp [-List.map_map]
  refine ⟨(sh_fl hn).show, ?_⟩
  refine pr_call (m, qs, p, s) rfl ⟨H2, hp, hs⟩ ?_
  rintro dv rfl
  have e1 : fl n (ranP ps (fun a => p (pl xs a)) (carS n ps qs xs s)) = fl n fun a => ranP qs p s (pl xs a) := fl_congr fun y hy => car_ran H1 H2 M p s hy
  have e2 : (PyData.tuple [lotD (fl n fun a => (cplOf qs s).wet (pl xs a)), lotD (fl n fun a => (cplOf qs s).dry (pl xs a))]) = coupD n (cplOf ps (carS n ps qs xs s)) := (car_coup H1 H2 M s).symm
  simp [scriptD, -List.map_map]
  split
  · refine pr_call (n, ps, (fun a => p (pl xs a)), carS n ps qs xs s) rfl ⟨H1, dn1, ok1⟩ ?_
    rintro dv rfl
    rw [e1]
    simp [-List.map_map]
    refine ⟨(sh_fl hn).show, cw _ dn2 _ ?_⟩
    simp [-List.map_map]
    refine ⟨(sh_fl hn).show, ?_⟩
    refine pr_call (m, qs) rfl H2.good ?_
    rintro dv rfl
    refine pr_call (m, qs, s) rfl ⟨hm, hs⟩ ?_
    rintro dv rfl
    unfold coupD
    simp [-List.map_map]
    refine lc _ _ ?_
    refine lc _ _ ?_
    simp [-List.map_map]
    refine pr_call (n, ps, carS n ps qs xs s) rfl ⟨H1, ok1⟩ ?_
    rintro dv rfl
    refine pr_call (m, qs, s) rfl ⟨H2, hs⟩ ?_
    rintro dv rfl
    rw [← e2]
    simp [fRepr_o, -List.map_map]
    have g1 : Sh 222 2 (.tuple [lotD (fl n fun a => (cplOf qs s).wet (pl xs a)), lotD (fl n fun a => (cplOf qs s).dry (pl xs a))]) := sh_2 (sh_fl hn) (sh_fl hn)
    have g2 : Sh 222 2 (coupD m (cplOf qs s)) := sh_coup _ hm
    have g3 := (sh_l2 g1 g2).show
    unfold coupD at g3 ⊢
    exact ⟨g3, g3, by simpa using q⟩
  · skip
    refine pr_call (m, qs) rfl H2.good ?_
    rintro dv rfl
    refine pr_call (m, qs, s) rfl ⟨hm, hs⟩ ?_
    rintro dv rfl
    unfold coupD
    simp [-List.map_map]
    refine lc _ _ ?_
    refine lc _ _ ?_
    simp [-List.map_map]
    refine pr_call (n, ps, carS n ps qs xs s) rfl ⟨H1, ok1⟩ ?_
    rintro dv rfl
    refine pr_call (m, qs, s) rfl ⟨H2, hs⟩ ?_
    rintro dv rfl
    rw [← e2]
    simp [fRepr_o, -List.map_map]
    have g1 : Sh 222 2 (.tuple [lotD (fl n fun a => (cplOf qs s).wet (pl xs a)), lotD (fl n fun a => (cplOf qs s).dry (pl xs a))]) := sh_2 (sh_fl hn) (sh_fl hn)
    have g2 : Sh 222 2 (coupD m (cplOf qs s)) := sh_coup _ hm
    have g3 := (sh_l2 g1 g2).show
    unfold coupD at g3 ⊢
    exact ⟨g3, g3, by simpa using q⟩
theorem cut_last (ds : List D) : DL.cutD ds none (some (-1)) = ds.take (ds.length - 1) := by
  unfold DL.cutD
  rw [HT.sIx_none]
  have e : HT.sIx ds.length ds.length (some (-1)) = ds.length - 1 := by
    unfold HT.sIx
    simp
    omega
  rw [e, List.drop_zero, Nat.sub_zero]
abbrev TwA : Type := (Nat × List Pr) × (Nat × List Pr) × (Nat × List Pr) × List Nat × List Nat × (Nat → Bool) × List Deed
def g__law_is_twice_right : Sg := pr (fun x : TwA => [.sh (bookD x.1.1 x.1.2), .sh (bookD x.2.1.1 x.2.1.2), .sh (bookD x.2.2.1.1 x.2.2.1.2), .sh (.tuple [lotD x.2.2.2.1, lotD x.2.2.2.2.1, lotD (fl x.2.2.1.1 x.2.2.2.2.2.1), scriptD x.2.2.2.2.2.2])])
  (fun x => Hill x.1.1 x.1.2 ∧ Hill x.2.1.1 x.2.1.2 ∧ Hill x.2.2.1.1 x.2.2.1.2 ∧ MapOk x.1.1 x.1.2 x.2.1.1 x.2.1.2 x.2.2.2.1 ∧ MapOk x.2.1.1 x.2.1.2 x.2.2.1.1 x.2.2.1.2 x.2.2.2.2.1 ∧ Dn x.2.2.1.1 x.2.2.1.2 x.2.2.2.2.2.1 ∧ SOk x.2.2.1.1 x.2.2.2.2.2.2 ∧ x.2.2.2.2.2.2.length ≤ 10) (fun _ dv => dv = .sh (.bool true))
def n__law_is_twice_right : List Str := ["one", "other", "third", "maps", "places", "later", "water", "script", "both", "between", "back", "turn", "once", "place"]
def t__law_is_twice_right : DS := dSeq2 (dAsg (dVar 3) (gT 4 (gsCons (gN 4) (gsCons (gN 5) (gsCons (gN 6) (gsCons (gN 7) (gsNil))))))) (dSeq2 (dPar 8 9 (dCons (dCB (on1 fTuple) (dCons (dLc (dSeqQ (dVar 4)) (gN 13) (dYes) (dOpR fIx (dVar 5) (dVar 13)) [13]) (dNil))) (dCons (dCall g_carried_script (dCons (dVar 1) (dCons (dVar 2) (dCons (dVar 5) (dCons (dVar 7) (dNil)))))) (dNil)))) (dSeq2 (dSet 10 (dCall g_carried_water (dCons (dVar 0) (dCons (dVar 1) (dCons (dVar 4) (dCons (dCall g_carried_water (dCons (dVar 1) (dCons (dVar 2) (dCons (dVar 5) (dCons (dVar 6) (dNil)))))) (dNil))))))) (dSeq2 (dIfS (dTest (dOp (fRel sDep fun d e => !rEqv d e) (dCB (on1 fRepr) (dCons (dCall g_carried_water (dCons (dVar 0) (dCons (dVar 2) (dCons (dVar 8) (dCons (dVar 6) (dNil)))))) (dNil))) (dCB (on1 fRepr) (dCons (dVar 10) (dNil))))) (dRet (dC (.bool false))) (dNext)) (dSeq2 (dFor (dRange1 (dC (.int 4))) (gN 11) (dIfS (dTest (dOp (fRel sLt fun d e => rLtD e d) (dCB (on1 fLen) (dCons (dVar 9) (dNil))) (dC (.int 7)))) (dSeq2 (dSet 7 (dSlice (dVar 7) (dNoPart) (dPart (dUn (fU fun i => -i) (dC (.int 1)))))) (dSet 9 (dCall g_carried_script (dCons (dVar 1) (dCons (dVar 2) (dCons (dVar 5) (dCons (dVar 7) (dNil)))))))) (dNext))) (dSeq2 (dSet 12 (dCall g_carried_script (dCons (dVar 0) (dCons (dVar 2) (dCons (dVar 8) (dCons (dVar 7) (dNil))))))) (dRet (dOp (fRel sDep rEqv) (dCB (on1 fRepr) (dCons (dCall g__law_told_couple (dCons (dVar 0) (dCons (dVar 12) (dNil)))) (dNil))) (dCB (on1 fRepr) (dCons (dCall g__law_told_couple (dCons (dVar 0) (dCons (dCall g_carried_script (dCons (dVar 0) (dCons (dVar 1) (dCons (dVar 4) (dCons (dVar 9) (dNil)))))) (dNil)))) (dNil))))))))))
theorem p__law_is_twice_right (ds : List DV) (Q : DV → Prop) (h : g__law_is_twice_right ds Q) : t__law_is_twice_right { nx := fun _ => Q (.sh .none), rt := Q } (startD n__law_is_twice_right ds) := by
  obtain ⟨⟨⟨n, ps⟩, ⟨m, qs⟩, ⟨k, rs⟩, xs, zs, p, s⟩, rfl, ⟨H1, H2, H3, M1, M2, hp, hs, hl⟩, q⟩ := h
  have H1 : Hill n ps := H1
  have H2 : Hill m qs := H2
  have H3 : Hill k rs := H3
  have M1 : MapOk n ps m qs xs := M1
  have M2 : MapOk m qs k rs zs := M2
  have hp : Dn k rs p := hp
  have hs : SOk k s := hs
  have hl : s.length ≤ 10 := hl
  have hn := H1.good.hi
  have hm := H2.good.hi
  have hk := H3.good.hi
  have hz : (1000 : Nat) ≤ sizeLine := by decide
  have q : Q (.sh (.bool true)) := q _ rfl
  have bp : ∀ a, a < n → pl (xs.map (pl zs)) a = pl zs (pl xs a) := fun a ha => by
    have := M1.get ha
    have h2 : pl (xs.map (pl zs)) a = ((xs.map (pl zs))[a]?).getD 0 := rfl
    rw [h2, List.getElem?_map, this]
    rfl
  have MB : MapOk n ps k rs (xs.map (pl zs)) := ⟨by rw [List.length_map]; exact M1.len, fun x mx => by
    obtain ⟨y, my, rfl⟩ := List.mem_map.mp mx
    exact M2.lt' (M1.lt _ my), fun r mr => by
    have hr := H1.good.ok r mr
    rw [bp _ hr.1, bp _ hr.2.1]
    exact M2.le (M1.mono r mr)⟩
  have pre1 : MapPre (n, ps, m, qs, xs) := ⟨H1, H2, M1⟩
  have pre2 : MapPre (m, qs, k, rs, zs) := ⟨H2, H3, M2⟩
  have preB : MapPre (n, ps, k, rs, xs.map (pl zs)) := ⟨H1, H3, MB⟩
  have sql : seqOf (lotD xs) = some (xs.map fun x : Nat => PyData.int x) := rfl
  simp [t__law_is_twice_right, startD, n__law_is_twice_right, sql, -List.map_map]
  intro _
  refine lcRun_map (fun x : Nat => PyData.int x) (fun x => .sh (.int (pl zs x : Nat))) xs (by have := M1.len; omega) (fun x mx P hP => ?_) ?_
  · have hx : x < zs.length := by rw [M2.len]; exact M1.lt x mx
    simp [lotD, lot_atI hx, -List.map_map]
    exact hP
  have e1 : xs.map (fun x => DV.sh (.int (pl zs x : Nat))) = ((xs.map (pl zs)).map fun x : Nat => PyData.int x).map DV.sh := by rw [List.map_map, List.map_map]; rfl
  have e2 : PyData.tuple ((xs.map (pl zs)).map fun x : Nat => PyData.int x) = lotD (xs.map (pl zs)) := rfl
  rw [e1]
  simp [-List.map_map]
  rw [e2]
  refine pr_call ((m, qs, k, rs, zs), s) rfl ⟨pre2, hs⟩ ?_
  rintro dv rfl
  simp [-List.map_map]
  refine pr_call ((m, qs, k, rs, zs), p) rfl ⟨pre2, hp⟩ ?_
  rintro dv rfl
  refine pr_call ((n, ps, m, qs, xs), fun b => p (pl zs b)) rfl ⟨pre1, car_dn H2 H3 M2 hp⟩ ?_
  rintro dv rfl
  simp [-List.map_map]
  refine pr_call ((n, ps, k, rs, xs.map (pl zs)), p) rfl ⟨preB, hp⟩ ?_
  rintro dv rfl
  have e3 : fl n (fun a => p (pl (xs.map (pl zs)) a)) = fl n fun a => p (pl zs (pl xs a)) := fl_congr fun a ha => by rw [bp a ha]
  simp only [e3]
  simp [-List.map_map]
  refine ⟨(sh_fl hn).show, small_n (n := 4) (by omega), ?_⟩
  have r4 : rangeD 0 4 = (List.range 4).map fun i : Nat => PyData.int i := rangeD_nat 4
  rw [r4]
  refine forRun_nat 4 (fun i δ => ∃ (t : List Deed) (x11 : Option DV), δ = [some (.sh (bookD n ps)), some (.sh (bookD m qs)), some (.sh (bookD k rs)), some (.sh (.tuple [lotD xs, lotD zs, lotD (fl k p), scriptD s])), some (.sh (lotD xs)), some (.sh (lotD zs)), some (.sh (lotD (fl k p))), some (.sh (scriptD t)), some (.sh (lotD (xs.map (pl zs)))), some (.sh (scriptD (carS m qs rs zs t))), some (.sh (lotD (fl n fun a => p (pl zs (pl xs a))))), x11, none, none] ∧ SOk k t ∧ t.length ≤ 10) (fun i δ hi hI N hN => ?_) (fun δ hI => ?_) ⟨s, none, rfl, hs, hl⟩
  · obtain ⟨t, x11, rfl, ht, tl⟩ := hI
    simp [scriptD, cut_last, -List.map_map]
    split
    · have e4 : (t.map deedD).take (t.length - 1) = (t.take (t.length - 1)).map deedD := (List.map_take).symm
      have ht' : SOk k (t.take (t.length - 1)) := ⟨fun d md => ht.1 d (List.mem_of_mem_take md), by rw [List.length_take]; have := ht.2; omega⟩
      rw [e4]
      refine pr_call ((m, qs, k, rs, zs), t.take (t.length - 1)) rfl ⟨pre2, ht'⟩ ?_
      rintro dv rfl
      exact hN _ ⟨_, _, rfl, ht', by rw [List.length_take]; omega⟩
    · exact hN _ ⟨_, _, rfl, ht, tl⟩
  · obtain ⟨t, x11, rfl, ht, tl⟩ := hI
    have okB := car_ok H1 H3 MB t ht (by omega)
    have ok2 := car_ok H2 H3 M2 t ht (by omega)
    have l2 : (carS m qs rs zs t).length ≤ 100 := by
      have := carS_len m qs rs zs t
      have : m * t.length ≤ 10 * 10 := Nat.mul_le_mul hm tl
      omega
    have ok1 := car_ok H1 H2 M1 _ ok2 l2
    simp [-List.map_map]
    refine pr_call ((n, ps, k, rs, xs.map (pl zs)), t) rfl ⟨preB, ht⟩ ?_
    rintro dv rfl
    simp [-List.map_map]
    refine pr_call (n, ps, carS n ps rs (xs.map (pl zs)) t) rfl ⟨H1, okB⟩ ?_
    rintro dv rfl
    simp [-List.map_map]
    refine ⟨(sh_coup _ hn).show, ?_⟩
    refine pr_call ((n, ps, m, qs, xs), carS m qs rs zs t) rfl ⟨pre1, ok2⟩ ?_
    rintro dv rfl
    refine pr_call (n, ps, carS n ps qs xs (carS m qs rs zs t)) rfl ⟨H1, ok1⟩ ?_
    rintro dv rfl
    have same : coupD n (cplOf ps (carS n ps rs (xs.map (pl zs)) t)) = coupD n (cplOf ps (carS n ps qs xs (carS m qs rs zs t))) := by
      have key : ∀ y, y < n → lastD ps (carS n ps rs (xs.map (pl zs)) t) y = lastD ps (carS n ps qs xs (carS m qs rs zs t)) y := fun y hy => by
        rw [car_last H1 H3 MB t hy, car_last H1 H2 M1 _ hy, car_last H2 H3 M2 t (M1.lt' hy), bp y hy]
      unfold coupD cplOf
      rw [fl_congr fun y hy => show (lastD ps (carS n ps rs (xs.map (pl zs)) t) y == some true) = (lastD ps (carS n ps qs xs (carS m qs rs zs t)) y == some true) from by rw [key y hy]]
      rw [fl_congr fun y hy => show (lastD ps (carS n ps rs (xs.map (pl zs)) t) y == some false) = (lastD ps (carS n ps qs xs (carS m qs rs zs t)) y == some false) from by rw [key y hy]]
    rw [same]
    simp [-List.map_map]
    exact ⟨(sh_coup _ hn).show, q⟩
theorem same_map {m : Nat} {qs : List Pr} (H : Hill m qs) : MapOk m qs m qs (List.range m) := ⟨by simp, fun x mx => List.mem_range.mp mx, fun p mp => by
  have hp := H.good.ok p mp
  have e : ∀ a, a < m → pl (List.range m) a = a := fun a ha => by unfold pl; simp [ha]
  rw [e _ hp.1, e _ hp.2.1]
  exact le_iff.mpr (.inr mp)⟩
theorem pl_range {m a : Nat} (ha : a < m) : pl (List.range m) a = a := by unfold pl; simp [ha]
theorem low_dn {n : Nat} {ps : List Pr} (H : Hill n ps) (p : Nat → Bool) : Dn n ps (lowP n ps p) := fun a b ha hb l h => by
  obtain ⟨x, hx, px, l'⟩ := lowP_iff.mp h
  exact lowP_iff.mpr ⟨x, hx, px, H.letr l l'⟩
def t_law : DS := dSeq2 (dAsg (dCall g__law_mapped (dCons (dVar 1) (dCons (dCall g__law_pick (dCons (dVar 1) (dCons (dLst (dCons (dC (.int 8)) (dCons (dC (.int 5)) (dCons (dC (.int 3)) (dCons (dC (.int 8)) (dCons (dC (.int 8)) (dCons (dC (.int 5)) (dCons (dC (.int 3)) (dCons (dC (.int 10)) (dNil)))))))))) (dNil)))) (dNil)))) (gT 3 (gsCons (gN 2) (gsCons (gN 3) (gsCons (gN 4) (gsNil)))))) (dSeq2 (dSet 5 (dCall g__law_script (dCons (dVar 1) (dCons (dOpR fIx (dVar 3) (dC (.int 0))) (dCons (dIf (dTest (dOp (fRel sLt fun d e => rLtD e d) (dCall g__law_draw (dCons (dVar 1) (dCons (dC (.int 8)) (dNil)))) (dC (.int 0)))) (dC (.int 7)) (dC (.int 20))) (dNil)))))) (dSeq2 (dSet 6 (dCall g__law_closing (dCons (dOpR fIx (dCall g__law_sides (dCons (dVar 3) (dNil))) (dC (.int 0))) (dCons (dCall g__law_lot (dCons (dVar 1) (dCons (dOpR fIx (dVar 3) (dC (.int 0))) (dNil)))) (dNil))))) (dSeq2 (dIfS (dOr (dNot (dTest (dCall g__law_are_deeds_right (dCons (dVar 2) (dCons (dVar 3) (dCons (dVar 4) (dCons (dVar 5) (dNil)))))))) (dNot (dTest (dCall g__law_is_led_right (dCons (dVar 2) (dCons (dVar 3) (dCons (dVar 4) (dCons (dVar 6) (dCons (dVar 5) (dNil)))))))))) (dRet (dC (.bool false))) (dNext)) (dSeq2 (dSet 7 (dTupRg1 (dOpR fIx (dVar 3) (dC (.int 0))))) (dSeq2 (dSet 8 (dLst (dCons (dCall g_carried_water (dCons (dVar 3) (dCons (dVar 3) (dCons (dVar 7) (dCons (dVar 6) (dNil)))))) (dCons (dCall g_run (dCons (dVar 3) (dCons (dVar 6) (dCons (dCall g_carried_script (dCons (dVar 3) (dCons (dVar 3) (dCons (dVar 7) (dCons (dVar 5) (dNil)))))) (dNil))))) (dNil))))) (dSeq2 (dIfS (dTest (dOp (fRel sDep fun d e => !rEqv d e) (dCB (on1 fRepr) (dCons (dVar 8) (dNil))) (dCB (on1 fRepr) (dCons (dLst (dCons (dVar 6) (dCons (dCall g_run (dCons (dVar 3) (dCons (dVar 6) (dCons (dVar 5) (dNil))))) (dNil)))) (dNil))))) (dRet (dC (.bool false))) (dNext)) (dSeq2 (dAsg (dCall g__law_led (dCons (dVar 1) (dCons (dVar 3) (dCons (dOpR fAdd (dC (.int 1)) (dCall g__law_draw (dCons (dVar 1) (dCons (dC (.int 6)) (dNil))))) (dNil))))) (gT 2 (gsCons (gN 9) (gsCons (gN 10) (gsNil))))) (dSeq2 (dSet 11 (dCall g__law_closing (dCons (dOpR fIx (dCall g__law_sides (dCons (dVar 9) (dNil))) (dC (.int 0))) (dCons (dCall g__law_lot (dCons (dVar 1) (dCons (dOpR fIx (dVar 9) (dC (.int 0))) (dNil)))) (dNil))))) (dRet (dCall g__law_is_twice_right (dCons (dVar 2) (dCons (dVar 3) (dCons (dVar 9) (dCons (dTup (dCons (dVar 4) (dCons (dVar 10) (dCons (dVar 11) (dCons (dCall g__law_script (dCons (dVar 1) (dCons (dOpR fIx (dVar 9) (dC (.int 0))) (dCons (dC (.int 4)) (dNil))))) (dNil)))))) (dNil)))))))))))))))
theorem p_law : t_law { nx := fun _ => False, rt := fun dv => dv = .sh (.bool true) } (lawD 10) := by
  simp [t_law, lawD, -List.map_map]
  refine pr_call (true, [.int 8, .int 5, .int 3, .int 8, .int 8, .int 5, .int 3, .int 10]) rfl ⟨by simp, by simp⟩ ?_
  rintro dv ⟨d, hd, rfl⟩
  have : ∃ k : Nat, d = .int k ∧ 1 ≤ k ∧ k ≤ 10 := by
    simp at hd
    have : ∀ j : Nat, 1 ≤ j → j ≤ 10 → ∃ k : Nat, PyData.int j = .int k ∧ 1 ≤ k ∧ k ≤ 10 := fun j a b => ⟨j, rfl, a, b⟩
    rcases hd with rfl | rfl | rfl | rfl | rfl | rfl | rfl
    all_goals first | exact this 8 (by omega) (by omega) | exact this 5 (by omega) (by omega) | exact this 3 (by omega) (by omega) | exact this 10 (by omega) (by omega)
  obtain ⟨k, rfl, k1, k10⟩ := this
  simp [-List.map_map]
  refine pr_call k rfl ⟨k1, k10⟩ ?_
  rintro dv ⟨⟨n, ps, m, qs, xs⟩, pre, rfl⟩
  obtain ⟨H1, H2, M⟩ := id pre
  have H1 : Hill n ps := H1
  have H2 : Hill m qs := H2
  have M : MapOk n ps m qs xs := M
  have hn := H1.good.hi
  have hm := H2.good.hi
  have hm1 := H2.good.lo
  simp [-List.map_map]
  refine draw_nat (many := 8) rfl (by omega) fun z hz => ?_
  simp [-List.map_map]
  split
  · refine pr_call (m, 7) rfl ⟨hm1, hm, by simp⟩ ?_
    rintro dv ⟨s, hs1, hs2, rfl⟩
    have hs2 : s.length ≤ 20 := Nat.le_trans hs2 (by simp)
    have hs : SOk m s := ⟨hs1, by omega⟩
    refine pr_call (m, qs) rfl H2.good ?_
    rintro dv rfl
    simp [sidesD, -List.map_map]
    refine pr_call m rfl hm ?_
    rintro dv ⟨p0, rfl⟩
    simp [-List.map_map]
    refine pr_call (m, (fun x y => le qs y x), p0) rfl hm ?_
    rintro dv rfl
    rw [relP_low]
    have hp := low_dn H2 p0
    generalize lowP m qs p0 = p at hp ⊢
    simp [-List.map_map]
    refine pr_call ((n, ps, m, qs, xs), s) rfl ⟨pre, hs, by show s.length ≤ 100; omega⟩ ?_
    rintro dv rfl
    simp [-List.map_map]
    refine pr_call ((n, ps, m, qs, xs), p, s) rfl ⟨pre, hp, hs, by show s.length ≤ 100; omega⟩ ?_
    rintro dv rfl
    simp [bookD, -List.map_map]
    refine ⟨rgOk_n (by omega), ?_⟩
    rw [rangeD_nat]
    have pre2 : MapPre (m, qs, m, qs, List.range m) := ⟨H2, H2, same_map H2⟩
    have e1 : fl m (fun a => p (pl (List.range m) a)) = fl m p := fl_congr fun a ha => by rw [pl_range ha]
    refine pr_call ((m, qs, m, qs, List.range m), p) rfl ⟨pre2, hp⟩ ?_
    rintro dv rfl
    refine pr_call ((m, qs, m, qs, List.range m), s) rfl ⟨pre2, hs⟩ ?_
    rintro dv rfl
    simp [-List.map_map]
    have okS := car_ok H2 H2 (same_map H2) s hs (by omega)
    refine pr_call (m, qs, p, carS m qs qs (List.range m) s) rfl ⟨H2, hp, okS⟩ ?_
    rintro dv rfl
    simp only [e1]
    have e2 : fl m (ranP qs p (carS m qs qs (List.range m) s)) = fl m (ranP qs p s) := fl_congr fun y hy => by
      have h1 := car_ran H2 H2 (same_map H2) p s hy
      rw [pl_range hy] at h1
      rw [← h1]
      have h2 : ∀ (t : List Deed) (u v : Bool), u = v → t.foldl (fun o (d : Deed) => if hits qs d y = true then d.1 else o) u = t.foldl (fun o (d : Deed) => if hits qs d y = true then d.1 else o) v := fun t u v e => by rw [e]
      exact h2 _ _ _ (by show p y = p (pl (List.range m) y); rw [pl_range hy])
    rw [e2]
    simp [onV_two, fRepr_br, -List.map_map]
    refine ⟨(sh_l2 (sh_fl hm) (sh_fl hm)).show, ?_⟩
    refine pr_call (m, qs, p, s) rfl ⟨H2, hp, hs⟩ ?_
    rintro dv rfl
    rw [fRepr_o]
    simp [-List.map_map]
    refine ⟨(sh_l2 (sh_fl hm) (sh_fl hm)).show, ?_⟩
    refine draw_nat (many := 6) rfl (by omega) fun t ht => ?_
    simp [-List.map_map]
    have e3 : (1 : Int) + t = ((1 + t : Nat) : Int) := by omega
    rw [e3]
    have h3 : 1 ≤ 1 + t := by omega
    have h4 : 1 + t ≤ 10 := by omega
    generalize 1 + t = k at h3 h4 ⊢
    refine pr_call (m, qs, k) rfl ⟨H2, h3, h4⟩ ?_
    rintro dv ⟨rs, zs, H3, M2, rfl⟩
    have H3 : Hill k rs := H3
    have M2 : MapOk m qs k rs zs := M2
    simp [-List.map_map]
    refine pr_call (k, rs) rfl H3.good ?_
    rintro dv rfl
    simp [sidesD, -List.map_map]
    refine pr_call k rfl h4 ?_
    rintro dv ⟨p1, rfl⟩
    simp [-List.map_map]
    refine pr_call (k, (fun x y => le rs y x), p1) rfl h4 ?_
    rintro dv rfl
    rw [relP_low]
    have hp1 := low_dn H3 p1
    generalize lowP k rs p1 = u at hp1 ⊢
    simp [-List.map_map]
    refine pr_call (k, 4) rfl ⟨h3, h4, by simp⟩ ?_
    rintro dv ⟨s2, g1, g2, rfl⟩
    simp [-List.map_map]
    refine pr_call ((n, ps), (m, qs), (k, rs), xs, zs, u, s2) rfl ⟨H1, H2, H3, M, M2, hp1, ⟨g1, Nat.le_trans g2 (by simp)⟩, Nat.le_trans g2 (by simp)⟩ ?_
    rintro dv rfl
    rfl
  · refine pr_call (m, 20) rfl ⟨hm1, hm, by simp⟩ ?_
    rintro dv ⟨s, hs1, hs2, rfl⟩
    have hs2 : s.length ≤ 20 := Nat.le_trans hs2 (by simp)
    have hs : SOk m s := ⟨hs1, by omega⟩
    refine pr_call (m, qs) rfl H2.good ?_
    rintro dv rfl
    simp [sidesD, -List.map_map]
    refine pr_call m rfl hm ?_
    rintro dv ⟨p0, rfl⟩
    simp [-List.map_map]
    refine pr_call (m, (fun x y => le qs y x), p0) rfl hm ?_
    rintro dv rfl
    rw [relP_low]
    have hp := low_dn H2 p0
    generalize lowP m qs p0 = p at hp ⊢
    simp [-List.map_map]
    refine pr_call ((n, ps, m, qs, xs), s) rfl ⟨pre, hs, by show s.length ≤ 100; omega⟩ ?_
    rintro dv rfl
    simp [-List.map_map]
    refine pr_call ((n, ps, m, qs, xs), p, s) rfl ⟨pre, hp, hs, by show s.length ≤ 100; omega⟩ ?_
    rintro dv rfl
    simp [bookD, -List.map_map]
    refine ⟨rgOk_n (by omega), ?_⟩
    rw [rangeD_nat]
    have pre2 : MapPre (m, qs, m, qs, List.range m) := ⟨H2, H2, same_map H2⟩
    have e1 : fl m (fun a => p (pl (List.range m) a)) = fl m p := fl_congr fun a ha => by rw [pl_range ha]
    refine pr_call ((m, qs, m, qs, List.range m), p) rfl ⟨pre2, hp⟩ ?_
    rintro dv rfl
    refine pr_call ((m, qs, m, qs, List.range m), s) rfl ⟨pre2, hs⟩ ?_
    rintro dv rfl
    simp [-List.map_map]
    have okS := car_ok H2 H2 (same_map H2) s hs (by omega)
    refine pr_call (m, qs, p, carS m qs qs (List.range m) s) rfl ⟨H2, hp, okS⟩ ?_
    rintro dv rfl
    simp only [e1]
    have e2 : fl m (ranP qs p (carS m qs qs (List.range m) s)) = fl m (ranP qs p s) := fl_congr fun y hy => by
      have h1 := car_ran H2 H2 (same_map H2) p s hy
      rw [pl_range hy] at h1
      rw [← h1]
      have h2 : ∀ (t : List Deed) (u v : Bool), u = v → t.foldl (fun o (d : Deed) => if hits qs d y = true then d.1 else o) u = t.foldl (fun o (d : Deed) => if hits qs d y = true then d.1 else o) v := fun t u v e => by rw [e]
      exact h2 _ _ _ (by show p y = p (pl (List.range m) y); rw [pl_range hy])
    rw [e2]
    simp [onV_two, fRepr_br, -List.map_map]
    refine ⟨(sh_l2 (sh_fl hm) (sh_fl hm)).show, ?_⟩
    refine pr_call (m, qs, p, s) rfl ⟨H2, hp, hs⟩ ?_
    rintro dv rfl
    rw [fRepr_o]
    simp [-List.map_map]
    refine ⟨(sh_l2 (sh_fl hm) (sh_fl hm)).show, ?_⟩
    refine draw_nat (many := 6) rfl (by omega) fun t ht => ?_
    simp [-List.map_map]
    have e3 : (1 : Int) + t = ((1 + t : Nat) : Int) := by omega
    rw [e3]
    have h3 : 1 ≤ 1 + t := by omega
    have h4 : 1 + t ≤ 10 := by omega
    generalize 1 + t = k at h3 h4 ⊢
    refine pr_call (m, qs, k) rfl ⟨H2, h3, h4⟩ ?_
    rintro dv ⟨rs, zs, H3, M2, rfl⟩
    have H3 : Hill k rs := H3
    have M2 : MapOk m qs k rs zs := M2
    simp [-List.map_map]
    refine pr_call (k, rs) rfl H3.good ?_
    rintro dv rfl
    simp [sidesD, -List.map_map]
    refine pr_call k rfl h4 ?_
    rintro dv ⟨p1, rfl⟩
    simp [-List.map_map]
    refine pr_call (k, (fun x y => le rs y x), p1) rfl h4 ?_
    rintro dv rfl
    rw [relP_low]
    have hp1 := low_dn H3 p1
    generalize lowP k rs p1 = u at hp1 ⊢
    simp [-List.map_map]
    refine pr_call (k, 4) rfl ⟨h3, h4, by simp⟩ ?_
    rintro dv ⟨s2, g1, g2, rfl⟩
    simp [-List.map_map]
    refine pr_call ((n, ps), (m, qs), (k, rs), xs, zs, u, s2) rfl ⟨H1, H2, H3, M, M2, hp1, ⟨g1, Nat.le_trans g2 (by simp)⟩, Nat.le_trans g2 (by simp)⟩ ?_
    rintro dv rfl
    rfl
end HL.R
set_option Elab.async false
set_option linter.all false
set_option maxRecDepth 100000
set_option maxHeartbeats 4000000
namespace HL.R.K87
open PySem PySem.Spec L2 DL
open PyProof.Rows hiding St
abbrev dkZ (P : Program) (w : World) (aD aC aS : Addr) : Zn := deckZ "left" "draws" P w aD aC aS
def topS (i : Nat) : Stmt := PySem.Challenge.pw_pourasked_k87_whole_carried_back.main.body.getD i (.Pass ⟨0, 0, 0, 0⟩)
abbrev s__law_deck : Stmt := topS 58
theorem sc__law_deck : FnScope ["script", "mixed", "cell"] ["script"] (defScope s__law_deck) := ⟨rfl, rfl, rfl, by decide +kernel, rfl, by decide +kernel, by decide +kernel⟩
theorem b__law_deck : Bnd "_law_deck" s__law_deck ["script"] := fun _ _ _ _ _ _ us hl => match us, hl with | [_], _ => rfl
abbrev s__law_closed : Stmt := topS 62
theorem sc__law_closed : FnScope ["n", "pairs", "rows", "a", "b", "c", "found", "at", "to", "one", "other"] ["n", "pairs"] (defScope s__law_closed) := ⟨rfl, rfl, rfl, by decide +kernel, rfl, by decide +kernel, by decide +kernel⟩
theorem b__law_closed : Bnd "_law_closed" s__law_closed ["n", "pairs"] := fun _ _ _ _ _ _ us hl => match us, hl with | [_, _], _ => rfl
abbrev s__law_sides : Stmt := topS 64
theorem sc__law_sides : FnScope ["hill", "n", "pairs", "below", "above", "a", "b", "at", "row"] ["hill"] (defScope s__law_sides) := ⟨rfl, rfl, rfl, by decide +kernel, rfl, by decide +kernel, by decide +kernel⟩
theorem b__law_sides : Bnd "_law_sides" s__law_sides ["hill"] := fun _ _ _ _ _ _ us hl => match us, hl with | [_], _ => rfl
abbrev s__law_draw : Stmt := topS 59
theorem sc__law_draw : FnScope ["deck", "many", "figure", "cell"] ["deck", "many"] (defScope s__law_draw) := ⟨rfl, rfl, rfl, by decide +kernel, rfl, by decide +kernel, by decide +kernel⟩
theorem b__law_draw : Bnd "_law_draw" s__law_draw ["deck", "many"] := fun _ _ _ _ _ _ us hl => match us, hl with | [_, _], _ => rfl
abbrev s__law_leading : Stmt := topS 72
theorem sc__law_leading : FnScope ["deck", "other", "n", "places", "above", "some", "pairs", "a", "near", "at", "b"] ["deck", "other", "n"] (defScope s__law_leading) := ⟨rfl, rfl, rfl, by decide +kernel, rfl, by decide +kernel, by decide +kernel⟩
theorem b__law_leading : Bnd "_law_leading" s__law_leading ["deck", "other", "n"] := fun _ _ _ _ _ _ us hl => match us, hl with | [_, _, _], _ => rfl
abbrev s__law_shuffled : Stmt := topS 61
theorem sc__law_shuffled : FnScope ["deck", "n", "order", "turn"] ["deck", "n"] (defScope s__law_shuffled) := ⟨rfl, rfl, rfl, by decide +kernel, rfl, by decide +kernel, by decide +kernel⟩
theorem b__law_shuffled : Bnd "_law_shuffled" s__law_shuffled ["deck", "n"] := fun _ _ _ _ _ _ us hl => match us, hl with | [_, _], _ => rfl
abbrev s__law_hill : Stmt := topS 63
theorem sc__law_hill : FnScope ["deck", "most", "n", "way", "pairs", "at", "pair", "names", "to", "step", "turn", "a", "b"] ["deck", "most"] (defScope s__law_hill) := ⟨rfl, rfl, rfl, by decide +kernel, rfl, by decide +kernel, by decide +kernel⟩
theorem b__law_hill : Bnd "_law_hill" s__law_hill ["deck", "most"] := fun _ _ _ _ _ _ us hl => match us, hl with | [_, _], _ => rfl
abbrev s__law_led : Stmt := topS 71
theorem sc__law_led : FnScope ["deck", "one", "n", "places", "pairs", "at", "a", "b", "turn"] ["deck", "one", "n"] (defScope s__law_led) := ⟨rfl, rfl, rfl, by decide +kernel, rfl, by decide +kernel, by decide +kernel⟩
theorem b__law_led : Bnd "_law_led" s__law_led ["deck", "one", "n"] := fun _ _ _ _ _ _ us hl => match us, hl with | [_, _, _], _ => rfl
abbrev s__law_mapped : Stmt := topS 73
theorem sc__law_mapped : FnScope ["deck", "most", "n", "hill", "other", "places", "one"] ["deck", "most"] (defScope s__law_mapped) := ⟨rfl, rfl, rfl, by decide +kernel, rfl, by decide +kernel, by decide +kernel⟩
theorem b__law_mapped : Bnd "_law_mapped" s__law_mapped ["deck", "most"] := fun _ _ _ _ _ _ us hl => match us, hl with | [_, _], _ => rfl
abbrev s__law_pick : Stmt := topS 60
theorem sc__law_pick : FnScope ["deck", "some"] ["deck", "some"] (defScope s__law_pick) := ⟨rfl, rfl, rfl, by decide +kernel, rfl, by decide +kernel, by decide +kernel⟩
theorem b__law_pick : Bnd "_law_pick" s__law_pick ["deck", "some"] := fun _ _ _ _ _ _ us hl => match us, hl with | [_, _], _ => rfl
abbrev s__law_script : Stmt := topS 69
theorem sc__law_script : FnScope ["deck", "n", "most", "found", "place", "turn"] ["deck", "n", "most"] (defScope s__law_script) := ⟨rfl, rfl, rfl, by decide +kernel, rfl, by decide +kernel, by decide +kernel⟩
theorem b__law_script : Bnd "_law_script" s__law_script ["deck", "n", "most"] := fun _ _ _ _ _ _ us hl => match us, hl with | [_, _, _], _ => rfl
abbrev s__law_closing : Stmt := topS 65
theorem sc__law_closing : FnScope ["rows", "lot", "found", "at"] ["rows", "lot"] (defScope s__law_closing) := ⟨rfl, rfl, rfl, by decide +kernel, rfl, by decide +kernel, by decide +kernel⟩
theorem b__law_closing : Bnd "_law_closing" s__law_closing ["rows", "lot"] := fun _ _ _ _ _ _ us hl => match us, hl with | [_, _], _ => rfl
abbrev s_is_integer : Stmt := topS 9
theorem sc_is_integer : FnScope ["thing"] ["thing"] (defScope s_is_integer) := ⟨rfl, rfl, rfl, by decide +kernel, rfl, by decide +kernel, by decide +kernel⟩
theorem b_is_integer : Bnd "is_integer" s_is_integer ["thing"] := fun _ _ _ _ _ _ us hl => match us, hl with | [_], _ => rfl
abbrev s_is_between : Stmt := topS 10
theorem sc_is_between : FnScope ["thing", "least", "most"] ["thing", "least", "most"] (defScope s_is_between) := ⟨rfl, rfl, rfl, by decide +kernel, rfl, by decide +kernel, by decide +kernel⟩
theorem b_is_between : Bnd "is_between" s_is_between ["thing", "least", "most"] := fun _ _ _ _ _ _ us hl => match us, hl with | [_, _, _], _ => rfl
abbrev s_is_pair_of : Stmt := topS 11
theorem sc_is_pair_of : FnScope ["n", "thing"] ["n", "thing"] (defScope s_is_pair_of) := ⟨rfl, rfl, rfl, by decide +kernel, rfl, by decide +kernel, by decide +kernel⟩
theorem b_is_pair_of : Bnd "is_pair_of" s_is_pair_of ["n", "thing"] := fun _ _ _ _ _ _ us hl => match us, hl with | [_, _], _ => rfl
abbrev s_is_book_value : Stmt := topS 12
theorem sc_is_book_value : FnScope ["thing", "pair", "one", "other"] ["thing"] (defScope s_is_book_value) := ⟨rfl, rfl, rfl, by decide +kernel, rfl, by decide +kernel, by decide +kernel⟩
theorem b_is_book_value : Bnd "is_book_value" s_is_book_value ["thing"] := fun _ _ _ _ _ _ us hl => match us, hl with | [_], _ => rfl
abbrev s_lows : Stmt := topS 15
theorem sc_lows : FnScope ["hill", "found", "a", "b", "x"] ["hill"] (defScope s_lows) := ⟨rfl, rfl, rfl, by decide +kernel, rfl, by decide +kernel, by decide +kernel⟩
theorem b_lows : Bnd "lows" s_lows ["hill"] := fun _ _ _ _ _ _ us hl => match us, hl with | [_], _ => rfl
abbrev s_hill_of_lows : Stmt := topS 17
theorem sc_hill_of_lows : FnScope ["found", "n", "pairs", "a", "b"] ["found"] (defScope s_hill_of_lows) := ⟨rfl, rfl, rfl, by decide +kernel, rfl, by decide +kernel, by decide +kernel⟩
theorem b_hill_of_lows : Bnd "hill_of_lows" s_hill_of_lows ["found"] := fun _ _ _ _ _ _ us hl => match us, hl with | [_], _ => rfl
abbrev s_closing_of : Stmt := topS 18
theorem sc_closing_of : FnScope ["book", "found", "middle", "b"] ["book"] (defScope s_closing_of) := ⟨rfl, rfl, rfl, by decide +kernel, rfl, by decide +kernel, by decide +kernel⟩
theorem b_closing_of : Bnd "closing_of" s_closing_of ["book"] := fun _ _ _ _ _ _ us hl => match us, hl with | [_], _ => rfl
abbrev s_is_hill_value : Stmt := topS 13
theorem sc_is_hill_value : FnScope ["thing"] ["thing"] (defScope s_is_hill_value) := ⟨rfl, rfl, rfl, by decide +kernel, rfl, by decide +kernel, by decide +kernel⟩
theorem b_is_hill_value : Bnd "is_hill_value" s_is_hill_value ["thing"] := fun _ _ _ _ _ _ us hl => match us, hl with | [_], _ => rfl
abbrev s_need_hill : Stmt := topS 14
theorem sc_need_hill : FnScope ["hill"] ["hill"] (defScope s_need_hill) := ⟨rfl, rfl, rfl, by decide +kernel, rfl, by decide +kernel, by decide +kernel⟩
theorem b_need_hill : Bnd "need_hill" s_need_hill ["hill"] := fun _ _ _ _ _ _ us hl => match us, hl with | [_], _ => rfl
abbrev s_need_hills : Stmt := topS 38
theorem sc_need_hills : FnScope ["one", "other"] ["one", "other"] (defScope s_need_hills) := ⟨rfl, rfl, rfl, by decide +kernel, rfl, by decide +kernel, by decide +kernel⟩
theorem b_need_hills : Bnd "need_hills" s_need_hills ["one", "other"] := fun _ _ _ _ _ _ us hl => match us, hl with | [_, _], _ => rfl
abbrev s_is_map_value : Stmt := topS 39
theorem sc_is_map_value : FnScope ["one", "other", "thing", "below", "place", "a", "b"] ["one", "other", "thing"] (defScope s_is_map_value) := ⟨rfl, rfl, rfl, by decide +kernel, rfl, by decide +kernel, by decide +kernel⟩
theorem b_is_map_value : Bnd "is_map_value" s_is_map_value ["one", "other", "thing"] := fun _ _ _ _ _ _ us hl => match us, hl with | [_, _, _], _ => rfl
abbrev s_need_map : Stmt := topS 40
theorem sc_need_map : FnScope ["one", "other", "places"] ["one", "other", "places"] (defScope s_need_map) := ⟨rfl, rfl, rfl, by decide +kernel, rfl, by decide +kernel, by decide +kernel⟩
theorem b_need_map : Bnd "need_map" s_need_map ["one", "other", "places"] := fun _ _ _ _ _ _ us hl => match us, hl with | [_, _, _], _ => rfl
abbrev s_is_lot_value : Stmt := topS 21
theorem sc_is_lot_value : FnScope ["hill", "thing", "x", "one", "other"] ["hill", "thing"] (defScope s_is_lot_value) := ⟨rfl, rfl, rfl, by decide +kernel, rfl, by decide +kernel, by decide +kernel⟩
theorem b_is_lot_value : Bnd "is_lot_value" s_is_lot_value ["hill", "thing"] := fun _ _ _ _ _ _ us hl => match us, hl with | [_, _], _ => rfl
abbrev s_lot_of : Stmt := topS 20
theorem sc_lot_of : FnScope ["mask", "x"] ["mask"] (defScope s_lot_of) := ⟨rfl, rfl, rfl, by decide +kernel, rfl, by decide +kernel, by decide +kernel⟩
theorem b_lot_of : Bnd "lot_of" s_lot_of ["mask"] := fun _ _ _ _ _ _ us hl => match us, hl with | [_], _ => rfl
abbrev s_closed_mask : Stmt := topS 22
theorem sc_closed_mask : FnScope ["masks", "mask", "found", "x"] ["masks", "mask"] (defScope s_closed_mask) := ⟨rfl, rfl, rfl, by decide +kernel, rfl, by decide +kernel, by decide +kernel⟩
theorem b_closed_mask : Bnd "closed_mask" s_closed_mask ["masks", "mask"] := fun _ _ _ _ _ _ us hl => match us, hl with | [_, _], _ => rfl
abbrev s_lower_mask : Stmt := topS 23
theorem sc_lower_mask : FnScope ["hill", "mask"] ["hill", "mask"] (defScope s_lower_mask) := ⟨rfl, rfl, rfl, by decide +kernel, rfl, by decide +kernel, by decide +kernel⟩
theorem b_lower_mask : Bnd "lower_mask" s_lower_mask ["hill", "mask"] := fun _ _ _ _ _ _ us hl => match us, hl with | [_, _], _ => rfl
abbrev s_mask_of : Stmt := topS 19
theorem sc_mask_of : FnScope ["lot", "found", "x"] ["lot"] (defScope s_mask_of) := ⟨rfl, rfl, rfl, by decide +kernel, rfl, by decide +kernel, by decide +kernel⟩
theorem b_mask_of : Bnd "mask_of" s_mask_of ["lot"] := fun _ _ _ _ _ _ us hl => match us, hl with | [_], _ => rfl
abbrev s_is_lower_value : Stmt := topS 24
theorem sc_is_lower_value : FnScope ["hill", "thing"] ["hill", "thing"] (defScope s_is_lower_value) := ⟨rfl, rfl, rfl, by decide +kernel, rfl, by decide +kernel, by decide +kernel⟩
theorem b_is_lower_value : Bnd "is_lower_value" s_is_lower_value ["hill", "thing"] := fun _ _ _ _ _ _ us hl => match us, hl with | [_, _], _ => rfl
abbrev s_need_water_maps : Stmt := topS 41
theorem sc_need_water_maps : FnScope ["hill", "water"] ["hill", "water"] (defScope s_need_water_maps) := ⟨rfl, rfl, rfl, by decide +kernel, rfl, by decide +kernel, by decide +kernel⟩
theorem b_need_water_maps : Bnd "need_water" s_need_water_maps ["hill", "water"] := fun _ _ _ _ _ _ us hl => match us, hl with | [_, _], _ => rfl
abbrev s_carried_mask : Stmt := topS 43
theorem sc_carried_mask : FnScope ["places", "mask", "terrace", "place"] ["places", "mask"] (defScope s_carried_mask) := ⟨rfl, rfl, rfl, by decide +kernel, rfl, by decide +kernel, by decide +kernel⟩
theorem b_carried_mask : Bnd "carried_mask" s_carried_mask ["places", "mask"] := fun _ _ _ _ _ _ us hl => match us, hl with | [_, _], _ => rfl
abbrev s_carried_water : Stmt := topS 44
theorem sc_carried_water : FnScope ["one", "other", "places", "water"] ["one", "other", "places", "water"] (defScope s_carried_water) := ⟨rfl, rfl, rfl, by decide +kernel, rfl, by decide +kernel, by decide +kernel⟩
theorem b_carried_water : Bnd "carried_water" s_carried_water ["one", "other", "places", "water"] := fun _ _ _ _ _ _ us hl => match us, hl with | [_, _, _, _], _ => rfl
abbrev s_is_deed_value : Stmt := topS 30
theorem sc_is_deed_value : FnScope ["n", "thing"] ["n", "thing"] (defScope s_is_deed_value) := ⟨rfl, rfl, rfl, by decide +kernel, rfl, by decide +kernel, by decide +kernel⟩
theorem b_is_deed_value : Bnd "is_deed_value" s_is_deed_value ["n", "thing"] := fun _ _ _ _ _ _ us hl => match us, hl with | [_, _], _ => rfl
abbrev s_is_script_value : Stmt := topS 31
theorem sc_is_script_value : FnScope ["n", "thing", "deed"] ["n", "thing"] (defScope s_is_script_value) := ⟨rfl, rfl, rfl, by decide +kernel, rfl, by decide +kernel, by decide +kernel⟩
theorem b_is_script_value : Bnd "is_script_value" s_is_script_value ["n", "thing"] := fun _ _ _ _ _ _ us hl => match us, hl with | [_, _], _ => rfl
abbrev s_highs : Stmt := topS 16
theorem sc_highs : FnScope ["hill", "found", "a", "b", "x"] ["hill"] (defScope s_highs) := ⟨rfl, rfl, rfl, by decide +kernel, rfl, by decide +kernel, by decide +kernel⟩
theorem b_highs : Bnd "highs" s_highs ["hill"] := fun _ _ _ _ _ _ us hl => match us, hl with | [_], _ => rfl
abbrev s_reaches : Stmt := topS 33
theorem sc_reaches : FnScope ["hill", "script", "below", "above", "word", "x"] ["hill", "script"] (defScope s_reaches) := ⟨rfl, rfl, rfl, by decide +kernel, rfl, by decide +kernel, by decide +kernel⟩
theorem b_reaches : Bnd "reaches" s_reaches ["hill", "script"] := fun _ _ _ _ _ _ us hl => match us, hl with | [_, _], _ => rfl
abbrev s_reach_mask : Stmt := topS 34
theorem sc_reach_mask : FnScope ["hill", "deed"] ["hill", "deed"] (defScope s_reach_mask) := ⟨rfl, rfl, rfl, by decide +kernel, rfl, by decide +kernel, by decide +kernel⟩
theorem b_reach_mask : Bnd "reach_mask" s_reach_mask ["hill", "deed"] := fun _ _ _ _ _ _ us hl => match us, hl with | [_, _], _ => rfl
abbrev s_ends_of : Stmt := topS 25
theorem sc_ends_of : FnScope ["beyond", "behind", "mask", "found", "x", "pond"] ["beyond", "behind", "mask"] (defScope s_ends_of) := ⟨rfl, rfl, rfl, by decide +kernel, rfl, by decide +kernel, by decide +kernel⟩
theorem b_ends_of : Bnd "ends_of" s_ends_of ["beyond", "behind", "mask"] := fun _ _ _ _ _ _ us hl => match us, hl with | [_, _, _], _ => rfl
abbrev s_highest_of : Stmt := topS 26
theorem sc_highest_of : FnScope ["hill", "mask"] ["hill", "mask"] (defScope s_highest_of) := ⟨rfl, rfl, rfl, by decide +kernel, rfl, by decide +kernel, by decide +kernel⟩
theorem b_highest_of : Bnd "highest_of" s_highest_of ["hill", "mask"] := fun _ _ _ _ _ _ us hl => match us, hl with | [_, _], _ => rfl
abbrev s_lowest_of : Stmt := topS 27
theorem sc_lowest_of : FnScope ["hill", "mask"] ["hill", "mask"] (defScope s_lowest_of) := ⟨rfl, rfl, rfl, by decide +kernel, rfl, by decide +kernel, by decide +kernel⟩
theorem b_lowest_of : Bnd "lowest_of" s_lowest_of ["hill", "mask"] := fun _ _ _ _ _ _ us hl => match us, hl with | [_, _], _ => rfl
abbrev s_carried_terraces : Stmt := topS 45
theorem sc_carried_terraces : FnScope ["one", "other", "places", "deed", "mask"] ["one", "other", "places", "deed"] (defScope s_carried_terraces) := ⟨rfl, rfl, rfl, by decide +kernel, rfl, by decide +kernel, by decide +kernel⟩
theorem b_carried_terraces : Bnd "carried_terraces" s_carried_terraces ["one", "other", "places", "deed"] := fun _ _ _ _ _ _ us hl => match us, hl with | [_, _, _, _], _ => rfl
abbrev s_deeds_carried : Stmt := topS 46
theorem sc_deeds_carried : FnScope ["one", "other", "places", "deed", "terrace"] ["one", "other", "places", "deed"] (defScope s_deeds_carried) := ⟨rfl, rfl, rfl, by decide +kernel, rfl, by decide +kernel, by decide +kernel⟩
theorem b_deeds_carried : Bnd "deeds_carried" s_deeds_carried ["one", "other", "places", "deed"] := fun _ _ _ _ _ _ us hl => match us, hl with | [_, _, _, _], _ => rfl
abbrev s_carried_script : Stmt := topS 48
theorem sc_carried_script : FnScope ["one", "other", "places", "script", "found", "deed"] ["one", "other", "places", "script"] (defScope s_carried_script) := ⟨rfl, rfl, rfl, by decide +kernel, rfl, by decide +kernel, by decide +kernel⟩
theorem b_carried_script : Bnd "carried_script" s_carried_script ["one", "other", "places", "script"] := fun _ _ _ _ _ _ us hl => match us, hl with | [_, _, _, _], _ => rfl
abbrev s_need_script : Stmt := topS 32
theorem sc_need_script : FnScope ["n", "script"] ["n", "script"] (defScope s_need_script) := ⟨rfl, rfl, rfl, by decide +kernel, rfl, by decide +kernel, by decide +kernel⟩
theorem b_need_script : Bnd "need_script" s_need_script ["n", "script"] := fun _ _ _ _ _ _ us hl => match us, hl with | [_, _], _ => rfl
abbrev s_couple_masks : Stmt := topS 36
theorem sc_couple_masks : FnScope ["hill", "script", "wet", "dry", "deed", "reach"] ["hill", "script"] (defScope s_couple_masks) := ⟨rfl, rfl, rfl, by decide +kernel, rfl, by decide +kernel, by decide +kernel⟩
theorem b_couple_masks : Bnd "couple_masks" s_couple_masks ["hill", "script"] := fun _ _ _ _ _ _ us hl => match us, hl with | [_, _], _ => rfl
abbrev s_raw_couple : Stmt := topS 55
theorem sc_raw_couple : FnScope ["hill", "script", "wet", "dry"] ["hill", "script"] (defScope s_raw_couple) := ⟨rfl, rfl, rfl, by decide +kernel, rfl, by decide +kernel, by decide +kernel⟩
theorem b_raw_couple : Bnd "raw_couple" s_raw_couple ["hill", "script"] := fun _ _ _ _ _ _ us hl => match us, hl with | [_, _], _ => rfl
abbrev s_couple_of : Stmt := topS 56
theorem sc_couple_of : FnScope ["hill", "script"] ["hill", "script"] (defScope s_couple_of) := ⟨rfl, rfl, rfl, by decide +kernel, rfl, by decide +kernel, by decide +kernel⟩
theorem b_couple_of : Bnd "couple_of" s_couple_of ["hill", "script"] := fun _ _ _ _ _ _ us hl => match us, hl with | [_, _], _ => rfl
abbrev s__law_lasts : Stmt := topS 67
theorem sc__law_lasts : FnScope ["sides", "script", "found", "at", "deed", "terrace"] ["sides", "script"] (defScope s__law_lasts) := ⟨rfl, rfl, rfl, by decide +kernel, rfl, by decide +kernel, by decide +kernel⟩
theorem b__law_lasts : Bnd "_law_lasts" s__law_lasts ["sides", "script"] := fun _ _ _ _ _ _ us hl => match us, hl with | [_, _], _ => rfl
abbrev s__law_couple : Stmt := topS 68
theorem sc__law_couple : FnScope ["sides", "script", "lasts", "wet", "dry", "x", "at"] ["sides", "script"] (defScope s__law_couple) := ⟨rfl, rfl, rfl, by decide +kernel, rfl, by decide +kernel, by decide +kernel⟩
theorem b__law_couple : Bnd "_law_couple" s__law_couple ["sides", "script"] := fun _ _ _ _ _ _ us hl => match us, hl with | [_, _], _ => rfl
abbrev s__law_told_couple : Stmt := topS 77
theorem sc__law_told_couple : FnScope ["hill", "script"] ["hill", "script"] (defScope s__law_told_couple) := ⟨rfl, rfl, rfl, by decide +kernel, rfl, by decide +kernel, by decide +kernel⟩
theorem b__law_told_couple : Bnd "_law_told_couple" s__law_told_couple ["hill", "script"] := fun _ _ _ _ _ _ us hl => match us, hl with | [_, _], _ => rfl
abbrev s__law_is_twice_right : Stmt := topS 79
theorem sc__law_is_twice_right : FnScope ["one", "other", "third", "maps", "places", "later", "water", "script", "both", "between", "back", "turn", "once", "place"] ["one", "other", "third", "maps"] (defScope s__law_is_twice_right) := ⟨rfl, rfl, rfl, by decide +kernel, rfl, by decide +kernel, by decide +kernel⟩
theorem b__law_is_twice_right : Bnd "_law_is_twice_right" s__law_is_twice_right ["one", "other", "third", "maps"] := fun _ _ _ _ _ _ us hl => match us, hl with | [_, _, _, _], _ => rfl
abbrev s__law_lot : Stmt := topS 70
theorem sc__law_lot : FnScope ["deck", "n", "part", "at"] ["deck", "n"] (defScope s__law_lot) := ⟨rfl, rfl, rfl, by decide +kernel, rfl, by decide +kernel, by decide +kernel⟩
theorem b__law_lot : Bnd "_law_lot" s__law_lot ["deck", "n"] := fun _ _ _ _ _ _ us hl => match us, hl with | [_, _], _ => rfl
abbrev s_need_water_scripts : Stmt := topS 51
theorem sc_need_water_scripts : FnScope ["hill", "water"] ["hill", "water"] (defScope s_need_water_scripts) := ⟨rfl, rfl, rfl, by decide +kernel, rfl, by decide +kernel, by decide +kernel⟩
theorem b_need_water_scripts : Bnd "need_water" s_need_water_scripts ["hill", "water"] := fun _ _ _ _ _ _ us hl => match us, hl with | [_, _], _ => rfl
abbrev s_done : Stmt := topS 35
theorem sc_done : FnScope ["hill", "mask", "script", "deed", "reach"] ["hill", "mask", "script"] (defScope s_done) := ⟨rfl, rfl, rfl, by decide +kernel, rfl, by decide +kernel, by decide +kernel⟩
theorem b_done : Bnd "done" s_done ["hill", "mask", "script"] := fun _ _ _ _ _ _ us hl => match us, hl with | [_, _, _], _ => rfl
abbrev s_run : Stmt := topS 54
theorem sc_run : FnScope ["hill", "water", "script"] ["hill", "water", "script"] (defScope s_run) := ⟨rfl, rfl, rfl, by decide +kernel, rfl, by decide +kernel, by decide +kernel⟩
theorem b_run : Bnd "run" s_run ["hill", "water", "script"] := fun _ _ _ _ _ _ us hl => match us, hl with | [_, _, _], _ => rfl
abbrev s__law_carried : Stmt := topS 74
theorem sc__law_carried : FnScope ["places", "lot", "at", "place"] ["places", "lot"] (defScope s__law_carried) := ⟨rfl, rfl, rfl, by decide +kernel, rfl, by decide +kernel, by decide +kernel⟩
theorem b__law_carried : Bnd "_law_carried" s__law_carried ["places", "lot"] := fun _ _ _ _ _ _ us hl => match us, hl with | [_, _], _ => rfl
abbrev s__law_outer : Stmt := topS 66
theorem sc__law_outer : FnScope ["rows", "lot", "found", "a", "b"] ["rows", "lot"] (defScope s__law_outer) := ⟨rfl, rfl, rfl, by decide +kernel, rfl, by decide +kernel, by decide +kernel⟩
theorem b__law_outer : Bnd "_law_outer" s__law_outer ["rows", "lot"] := fun _ _ _ _ _ _ us hl => match us, hl with | [_, _], _ => rfl
abbrev s__law_due : Stmt := topS 75
theorem sc__law_due : FnScope ["one", "other", "places", "deed", "rows", "lot", "at"] ["one", "other", "places", "deed"] (defScope s__law_due) := ⟨rfl, rfl, rfl, by decide +kernel, rfl, by decide +kernel, by decide +kernel⟩
theorem b__law_due : Bnd "_law_due" s__law_due ["one", "other", "places", "deed"] := fun _ _ _ _ _ _ us hl => match us, hl with | [_, _, _, _], _ => rfl
abbrev s_carried_deed : Stmt := topS 47
theorem sc_carried_deed : FnScope ["one", "other", "places", "deed"] ["one", "other", "places", "deed"] (defScope s_carried_deed) := ⟨rfl, rfl, rfl, by decide +kernel, rfl, by decide +kernel, by decide +kernel⟩
theorem b_carried_deed : Bnd "carried_deed" s_carried_deed ["one", "other", "places", "deed"] := fun _ _ _ _ _ _ us hl => match us, hl with | [_, _, _, _], _ => rfl
abbrev s_reach : Stmt := topS 53
theorem sc_reach : FnScope ["hill", "deed"] ["hill", "deed"] (defScope s_reach) := ⟨rfl, rfl, rfl, by decide +kernel, rfl, by decide +kernel, by decide +kernel⟩
theorem b_reach : Bnd "reach" s_reach ["hill", "deed"] := fun _ _ _ _ _ _ us hl => match us, hl with | [_, _], _ => rfl
abbrev s__law_are_deeds_right : Stmt := topS 76
theorem sc__law_are_deeds_right : FnScope ["one", "other", "places", "script", "whole", "deed", "due", "told", "reached", "it"] ["one", "other", "places", "script"] (defScope s__law_are_deeds_right) := ⟨rfl, rfl, rfl, by decide +kernel, rfl, by decide +kernel, by decide +kernel⟩
theorem b__law_are_deeds_right : Bnd "_law_are_deeds_right" s__law_are_deeds_right ["one", "other", "places", "script"] := fun _ _ _ _ _ _ us hl => match us, hl with | [_, _, _, _], _ => rfl
abbrev s_is_water : Stmt := topS 50
theorem sc_is_water : FnScope ["hill", "thing"] ["hill", "thing"] (defScope s_is_water) := ⟨rfl, rfl, rfl, by decide +kernel, rfl, by decide +kernel, by decide +kernel⟩
theorem b_is_water : Bnd "is_water" s_is_water ["hill", "thing"] := fun _ _ _ _ _ _ us hl => match us, hl with | [_, _], _ => rfl
abbrev s__law_is_led_right : Stmt := topS 78
theorem sc__law_is_led_right : FnScope ["one", "other", "places", "water", "script", "back", "whole", "later", "wet", "dry", "due"] ["one", "other", "places", "water", "script"] (defScope s__law_is_led_right) := ⟨rfl, rfl, rfl, by decide +kernel, rfl, by decide +kernel, by decide +kernel⟩
theorem b__law_is_led_right : Bnd "_law_is_led_right" s__law_is_led_right ["one", "other", "places", "water", "script"] := fun _ _ _ _ _ _ us hl => match us, hl with | [_, _, _, _, _], _ => rfl
abbrev s_law : Stmt := topS 80
theorem sc_law : FnScope ["script", "deck", "one", "other", "places", "deeds", "water", "same", "told", "third", "later", "high"] ["script"] (defScope s_law) := ⟨rfl, rfl, rfl, by decide +kernel, rfl, by decide +kernel, by decide +kernel⟩
theorem bk_carried_deed_deed_places_other_one : BndK "carried_deed" s_carried_deed ["one", "other", "places", "deed"] ["deed", "places", "other", "one"] [3, 2, 1, 0] := fun _ _ _ _ _ _ us hl => by
  match us, hl with
  | _ :: _ :: _ :: _ :: _, _ => rfl
  | [], h => simp [pick] at h
  | [_], h => simp [pick] at h
  | [_, _], h => simp [pick] at h
  | [_, _, _], h => simp [pick] at h
theorem bk_carried_script_script_places_one_other : BndK "carried_script" s_carried_script ["one", "other", "places", "script"] ["script", "places", "one", "other"] [2, 3, 1, 0] := fun _ _ _ _ _ _ us hl => by
  match us, hl with
  | _ :: _ :: _ :: _ :: _, _ => rfl
  | [], h => simp [pick] at h
  | [_], h => simp [pick] at h
  | [_, _], h => simp [pick] at h
  | [_, _, _], h => simp [pick] at h
theorem bk_carried_water_water_places_other_one : BndK "carried_water" s_carried_water ["one", "other", "places", "water"] ["water", "places", "other", "one"] [3, 2, 1, 0] := fun _ _ _ _ _ _ us hl => by
  match us, hl with
  | _ :: _ :: _ :: _ :: _, _ => rfl
  | [], h => simp [pick] at h
  | [_], h => simp [pick] at h
  | [_, _], h => simp [pick] at h
  | [_, _, _], h => simp [pick] at h
theorem m__law_closed : MonoG g__law_closed := pr_mono
theorem l__law_closed : ∀ ds Q, g__law_closed ds Q → ds.length = 2 := pr_len fun _ => rfl
theorem m__law_sides : MonoG g__law_sides := pr_mono
theorem l__law_sides : ∀ ds Q, g__law_sides ds Q → ds.length = 1 := pr_len fun _ => rfl
theorem m__law_leading : MonoG g__law_leading := pr_mono
theorem l__law_leading : ∀ ds Q, g__law_leading ds Q → ds.length = 3 := pr_len fun _ => rfl
theorem m__law_shuffled : MonoG g__law_shuffled := pr_mono
theorem l__law_shuffled : ∀ ds Q, g__law_shuffled ds Q → ds.length = 2 := pr_len fun _ => rfl
theorem m__law_hill : MonoG g__law_hill := pr_mono
theorem l__law_hill : ∀ ds Q, g__law_hill ds Q → ds.length = 2 := pr_len fun _ => rfl
theorem m__law_led : MonoG g__law_led := pr_mono
theorem l__law_led : ∀ ds Q, g__law_led ds Q → ds.length = 3 := pr_len fun _ => rfl
theorem m__law_mapped : MonoG g__law_mapped := pr_mono
theorem l__law_mapped : ∀ ds Q, g__law_mapped ds Q → ds.length = 2 := pr_len fun _ => rfl
theorem m__law_pick : MonoG g__law_pick := pr_mono
theorem l__law_pick : ∀ ds Q, g__law_pick ds Q → ds.length = 2 := pr_len fun _ => rfl
theorem m__law_script : MonoG g__law_script := pr_mono
theorem l__law_script : ∀ ds Q, g__law_script ds Q → ds.length = 3 := pr_len fun _ => rfl
theorem m__law_closing : MonoG g__law_closing := pr_mono
theorem l__law_closing : ∀ ds Q, g__law_closing ds Q → ds.length = 2 := pr_len fun _ => rfl
theorem m_is_integer : MonoG g_is_integer := pr_mono
theorem l_is_integer : ∀ ds Q, g_is_integer ds Q → ds.length = 1 := pr_len fun _ => rfl
theorem m_is_between : MonoG g_is_between := pr_mono
theorem l_is_between : ∀ ds Q, g_is_between ds Q → ds.length = 3 := pr_len fun _ => rfl
theorem m_is_pair_of : MonoG g_is_pair_of := pr_mono
theorem l_is_pair_of : ∀ ds Q, g_is_pair_of ds Q → ds.length = 2 := pr_len fun _ => rfl
theorem m_is_book_value : MonoG g_is_book_value := pr_mono
theorem l_is_book_value : ∀ ds Q, g_is_book_value ds Q → ds.length = 1 := pr_len fun _ => rfl
theorem m_lows : MonoG g_lows := pr_mono
theorem l_lows : ∀ ds Q, g_lows ds Q → ds.length = 1 := pr_len fun _ => rfl
theorem m_hill_of_lows : MonoG g_hill_of_lows := pr_mono
theorem l_hill_of_lows : ∀ ds Q, g_hill_of_lows ds Q → ds.length = 1 := pr_len fun _ => rfl
theorem m_closing_of : MonoG g_closing_of := pr_mono
theorem l_closing_of : ∀ ds Q, g_closing_of ds Q → ds.length = 1 := pr_len fun _ => rfl
theorem m_is_hill_value : MonoG g_is_hill_value := pr_mono
theorem l_is_hill_value : ∀ ds Q, g_is_hill_value ds Q → ds.length = 1 := pr_len fun _ => rfl
theorem m_need_hill : MonoG g_need_hill := pr_mono
theorem l_need_hill : ∀ ds Q, g_need_hill ds Q → ds.length = 1 := pr_len fun _ => rfl
theorem m_need_hills : MonoG g_need_hills := pr_mono
theorem l_need_hills : ∀ ds Q, g_need_hills ds Q → ds.length = 2 := pr_len fun _ => rfl
theorem m_is_map_value : MonoG g_is_map_value := pr_mono
theorem l_is_map_value : ∀ ds Q, g_is_map_value ds Q → ds.length = 3 := pr_len fun _ => rfl
theorem m_need_map : MonoG g_need_map := pr_mono
theorem l_need_map : ∀ ds Q, g_need_map ds Q → ds.length = 3 := pr_len fun _ => rfl
theorem m_is_lot_value : MonoG g_is_lot_value := pr_mono
theorem l_is_lot_value : ∀ ds Q, g_is_lot_value ds Q → ds.length = 2 := pr_len fun _ => rfl
theorem m_lot_of : MonoG g_lot_of := pr_mono
theorem l_lot_of : ∀ ds Q, g_lot_of ds Q → ds.length = 1 := pr_len fun _ => rfl
theorem m_closed_mask : MonoG g_closed_mask := pr_mono
theorem l_closed_mask : ∀ ds Q, g_closed_mask ds Q → ds.length = 2 := pr_len fun _ => rfl
theorem m_lower_mask : MonoG g_lower_mask := pr_mono
theorem l_lower_mask : ∀ ds Q, g_lower_mask ds Q → ds.length = 2 := pr_len fun _ => rfl
theorem m_mask_of : MonoG g_mask_of := pr_mono
theorem l_mask_of : ∀ ds Q, g_mask_of ds Q → ds.length = 1 := pr_len fun _ => rfl
theorem m_is_lower_value : MonoG g_is_lower_value := pr_mono
theorem l_is_lower_value : ∀ ds Q, g_is_lower_value ds Q → ds.length = 2 := pr_len fun _ => rfl
theorem m_need_water_maps : MonoG g_need_water_maps := pr_mono
theorem l_need_water_maps : ∀ ds Q, g_need_water_maps ds Q → ds.length = 2 := pr_len fun _ => rfl
theorem m_carried_mask : MonoG g_carried_mask := pr_mono
theorem l_carried_mask : ∀ ds Q, g_carried_mask ds Q → ds.length = 2 := pr_len fun _ => rfl
theorem m_carried_water : MonoG g_carried_water := pr_mono
theorem l_carried_water : ∀ ds Q, g_carried_water ds Q → ds.length = 4 := pr_len fun _ => rfl
theorem m_is_deed_value : MonoG g_is_deed_value := pr_mono
theorem l_is_deed_value : ∀ ds Q, g_is_deed_value ds Q → ds.length = 2 := pr_len fun _ => rfl
theorem m_is_script_value : MonoG g_is_script_value := pr_mono
theorem l_is_script_value : ∀ ds Q, g_is_script_value ds Q → ds.length = 2 := pr_len fun _ => rfl
theorem m_highs : MonoG g_highs := pr_mono
theorem l_highs : ∀ ds Q, g_highs ds Q → ds.length = 1 := pr_len fun _ => rfl
theorem m_reaches : MonoG g_reaches := pr_mono
theorem l_reaches : ∀ ds Q, g_reaches ds Q → ds.length = 2 := pr_len fun _ => rfl
theorem m_reach_mask : MonoG g_reach_mask := pr_mono
theorem l_reach_mask : ∀ ds Q, g_reach_mask ds Q → ds.length = 2 := pr_len fun _ => rfl
theorem m_ends_of : MonoG g_ends_of := pr_mono
theorem l_ends_of : ∀ ds Q, g_ends_of ds Q → ds.length = 3 := pr_len fun _ => rfl
theorem m_highest_of : MonoG g_highest_of := pr_mono
theorem l_highest_of : ∀ ds Q, g_highest_of ds Q → ds.length = 2 := pr_len fun _ => rfl
theorem m_lowest_of : MonoG g_lowest_of := pr_mono
theorem l_lowest_of : ∀ ds Q, g_lowest_of ds Q → ds.length = 2 := pr_len fun _ => rfl
theorem m_carried_terraces : MonoG g_carried_terraces := pr_mono
theorem l_carried_terraces : ∀ ds Q, g_carried_terraces ds Q → ds.length = 4 := pr_len fun _ => rfl
theorem m_deeds_carried : MonoG g_deeds_carried := pr_mono
theorem l_deeds_carried : ∀ ds Q, g_deeds_carried ds Q → ds.length = 4 := pr_len fun _ => rfl
theorem m_carried_script : MonoG g_carried_script := pr_mono
theorem l_carried_script : ∀ ds Q, g_carried_script ds Q → ds.length = 4 := pr_len fun _ => rfl
theorem m_need_script : MonoG g_need_script := pr_mono
theorem l_need_script : ∀ ds Q, g_need_script ds Q → ds.length = 2 := pr_len fun _ => rfl
theorem m_couple_masks : MonoG g_couple_masks := pr_mono
theorem l_couple_masks : ∀ ds Q, g_couple_masks ds Q → ds.length = 2 := pr_len fun _ => rfl
theorem m_raw_couple : MonoG g_raw_couple := pr_mono
theorem l_raw_couple : ∀ ds Q, g_raw_couple ds Q → ds.length = 2 := pr_len fun _ => rfl
theorem m_couple_of : MonoG g_couple_of := pr_mono
theorem l_couple_of : ∀ ds Q, g_couple_of ds Q → ds.length = 2 := pr_len fun _ => rfl
theorem m__law_lasts : MonoG g__law_lasts := pr_mono
theorem l__law_lasts : ∀ ds Q, g__law_lasts ds Q → ds.length = 2 := pr_len fun _ => rfl
theorem m__law_couple : MonoG g__law_couple := pr_mono
theorem l__law_couple : ∀ ds Q, g__law_couple ds Q → ds.length = 2 := pr_len fun _ => rfl
theorem m__law_told_couple : MonoG g__law_told_couple := pr_mono
theorem l__law_told_couple : ∀ ds Q, g__law_told_couple ds Q → ds.length = 2 := pr_len fun _ => rfl
theorem m__law_is_twice_right : MonoG g__law_is_twice_right := pr_mono
theorem l__law_is_twice_right : ∀ ds Q, g__law_is_twice_right ds Q → ds.length = 4 := pr_len fun _ => rfl
theorem m__law_lot : MonoG g__law_lot := pr_mono
theorem l__law_lot : ∀ ds Q, g__law_lot ds Q → ds.length = 2 := pr_len fun _ => rfl
theorem m_need_water_scripts : MonoG g_need_water_scripts := pr_mono
theorem l_need_water_scripts : ∀ ds Q, g_need_water_scripts ds Q → ds.length = 2 := pr_len fun _ => rfl
theorem m_done : MonoG g_done := pr_mono
theorem l_done : ∀ ds Q, g_done ds Q → ds.length = 3 := pr_len fun _ => rfl
theorem m_run : MonoG g_run := pr_mono
theorem l_run : ∀ ds Q, g_run ds Q → ds.length = 3 := pr_len fun _ => rfl
theorem m__law_carried : MonoG g__law_carried := pr_mono
theorem l__law_carried : ∀ ds Q, g__law_carried ds Q → ds.length = 2 := pr_len fun _ => rfl
theorem m__law_outer : MonoG g__law_outer := pr_mono
theorem l__law_outer : ∀ ds Q, g__law_outer ds Q → ds.length = 2 := pr_len fun _ => rfl
theorem m__law_due : MonoG g__law_due := pr_mono
theorem l__law_due : ∀ ds Q, g__law_due ds Q → ds.length = 4 := pr_len fun _ => rfl
theorem m_carried_deed : MonoG g_carried_deed := pr_mono
theorem l_carried_deed : ∀ ds Q, g_carried_deed ds Q → ds.length = 4 := pr_len fun _ => rfl
theorem m_reach : MonoG g_reach := pr_mono
theorem l_reach : ∀ ds Q, g_reach ds Q → ds.length = 2 := pr_len fun _ => rfl
theorem m__law_are_deeds_right : MonoG g__law_are_deeds_right := pr_mono
theorem l__law_are_deeds_right : ∀ ds Q, g__law_are_deeds_right ds Q → ds.length = 4 := pr_len fun _ => rfl
theorem m_is_water : MonoG g_is_water := pr_mono
theorem l_is_water : ∀ ds Q, g_is_water ds Q → ds.length = 2 := pr_len fun _ => rfl
theorem m__law_is_led_right : MonoG g__law_is_led_right := pr_mono
theorem l__law_is_led_right : ∀ ds Q, g__law_is_led_right ds Q → ds.length = 5 := pr_len fun _ => rfl
structure Top (K : PySem.W.Frag) (mg : Str → Option Value) : Prop where
  _law_deck : ∃ f fd, mg "_law_deck" = some (.ref f) ∧ Fun K "_law_deck" "_law_deck" s__law_deck f fd
  _law_closed : ∃ f fd, mg "_law_closed" = some (.ref f) ∧ Fun K "_law_closed" "_law_closed" s__law_closed f fd
  _law_sides : ∃ f fd, mg "_law_sides" = some (.ref f) ∧ Fun K "_law_sides" "_law_sides" s__law_sides f fd
  _law_draw : ∃ f fd, mg "_law_draw" = some (.ref f) ∧ Fun K "_law_draw" "_law_draw" s__law_draw f fd
  _law_leading : ∃ f fd, mg "_law_leading" = some (.ref f) ∧ Fun K "_law_leading" "_law_leading" s__law_leading f fd
  _law_shuffled : ∃ f fd, mg "_law_shuffled" = some (.ref f) ∧ Fun K "_law_shuffled" "_law_shuffled" s__law_shuffled f fd
  _law_hill : ∃ f fd, mg "_law_hill" = some (.ref f) ∧ Fun K "_law_hill" "_law_hill" s__law_hill f fd
  _law_led : ∃ f fd, mg "_law_led" = some (.ref f) ∧ Fun K "_law_led" "_law_led" s__law_led f fd
  _law_mapped : ∃ f fd, mg "_law_mapped" = some (.ref f) ∧ Fun K "_law_mapped" "_law_mapped" s__law_mapped f fd
  _law_pick : ∃ f fd, mg "_law_pick" = some (.ref f) ∧ Fun K "_law_pick" "_law_pick" s__law_pick f fd
  _law_script : ∃ f fd, mg "_law_script" = some (.ref f) ∧ Fun K "_law_script" "_law_script" s__law_script f fd
  _law_closing : ∃ f fd, mg "_law_closing" = some (.ref f) ∧ Fun K "_law_closing" "_law_closing" s__law_closing f fd
  is_integer : ∃ f fd, mg "is_integer" = some (.ref f) ∧ Fun K "is_integer" "is_integer" s_is_integer f fd
  is_between : ∃ f fd, mg "is_between" = some (.ref f) ∧ Fun K "is_between" "is_between" s_is_between f fd
  is_pair_of : ∃ f fd, mg "is_pair_of" = some (.ref f) ∧ Fun K "is_pair_of" "is_pair_of" s_is_pair_of f fd
  is_book_value : ∃ f fd, mg "is_book_value" = some (.ref f) ∧ Fun K "is_book_value" "is_book_value" s_is_book_value f fd
  lows : ∃ f fd, mg "lows" = some (.ref f) ∧ Fun K "lows" "lows" s_lows f fd
  hill_of_lows : ∃ f fd, mg "hill_of_lows" = some (.ref f) ∧ Fun K "hill_of_lows" "hill_of_lows" s_hill_of_lows f fd
  closing_of : ∃ f fd, mg "closing_of" = some (.ref f) ∧ Fun K "closing_of" "closing_of" s_closing_of f fd
  is_hill_value : ∃ f fd, mg "is_hill_value" = some (.ref f) ∧ Fun K "is_hill_value" "is_hill_value" s_is_hill_value f fd
  need_hill : ∃ f fd, mg "need_hill" = some (.ref f) ∧ Fun K "need_hill" "need_hill" s_need_hill f fd
  need_hills : ∃ f fd, mg "need_hills" = some (.ref f) ∧ Fun K "need_hills" "need_hills" s_need_hills f fd
  is_map_value : ∃ f fd, mg "is_map_value" = some (.ref f) ∧ Fun K "is_map_value" "is_map_value" s_is_map_value f fd
  need_map : ∃ f fd, mg "need_map" = some (.ref f) ∧ Fun K "need_map" "need_map" s_need_map f fd
  is_lot_value : ∃ f fd, mg "is_lot_value" = some (.ref f) ∧ Fun K "is_lot_value" "is_lot_value" s_is_lot_value f fd
  lot_of : ∃ f fd, mg "lot_of" = some (.ref f) ∧ Fun K "lot_of" "lot_of" s_lot_of f fd
  closed_mask : ∃ f fd, mg "closed_mask" = some (.ref f) ∧ Fun K "closed_mask" "closed_mask" s_closed_mask f fd
  lower_mask : ∃ f fd, mg "lower_mask" = some (.ref f) ∧ Fun K "lower_mask" "lower_mask" s_lower_mask f fd
  mask_of : ∃ f fd, mg "mask_of" = some (.ref f) ∧ Fun K "mask_of" "mask_of" s_mask_of f fd
  is_lower_value : ∃ f fd, mg "is_lower_value" = some (.ref f) ∧ Fun K "is_lower_value" "is_lower_value" s_is_lower_value f fd
  need_water_maps : ∃ f fd, mg "need_water_maps" = some (.ref f) ∧ Fun K "need_water" "need_water" s_need_water_maps f fd
  carried_mask : ∃ f fd, mg "carried_mask" = some (.ref f) ∧ Fun K "carried_mask" "carried_mask" s_carried_mask f fd
  carried_water : ∃ f fd, mg "carried_water" = some (.ref f) ∧ Fun K "carried_water" "carried_water" s_carried_water f fd
  is_deed_value : ∃ f fd, mg "is_deed_value" = some (.ref f) ∧ Fun K "is_deed_value" "is_deed_value" s_is_deed_value f fd
  is_script_value : ∃ f fd, mg "is_script_value" = some (.ref f) ∧ Fun K "is_script_value" "is_script_value" s_is_script_value f fd
  highs : ∃ f fd, mg "highs" = some (.ref f) ∧ Fun K "highs" "highs" s_highs f fd
  reaches : ∃ f fd, mg "reaches" = some (.ref f) ∧ Fun K "reaches" "reaches" s_reaches f fd
  reach_mask : ∃ f fd, mg "reach_mask" = some (.ref f) ∧ Fun K "reach_mask" "reach_mask" s_reach_mask f fd
  ends_of : ∃ f fd, mg "ends_of" = some (.ref f) ∧ Fun K "ends_of" "ends_of" s_ends_of f fd
  highest_of : ∃ f fd, mg "highest_of" = some (.ref f) ∧ Fun K "highest_of" "highest_of" s_highest_of f fd
  lowest_of : ∃ f fd, mg "lowest_of" = some (.ref f) ∧ Fun K "lowest_of" "lowest_of" s_lowest_of f fd
  carried_terraces : ∃ f fd, mg "carried_terraces" = some (.ref f) ∧ Fun K "carried_terraces" "carried_terraces" s_carried_terraces f fd
  deeds_carried : ∃ f fd, mg "deeds_carried" = some (.ref f) ∧ Fun K "deeds_carried" "deeds_carried" s_deeds_carried f fd
  carried_script : ∃ f fd, mg "carried_script" = some (.ref f) ∧ Fun K "carried_script" "carried_script" s_carried_script f fd
  need_script : ∃ f fd, mg "need_script" = some (.ref f) ∧ Fun K "need_script" "need_script" s_need_script f fd
  couple_masks : ∃ f fd, mg "couple_masks" = some (.ref f) ∧ Fun K "couple_masks" "couple_masks" s_couple_masks f fd
  raw_couple : ∃ f fd, mg "raw_couple" = some (.ref f) ∧ Fun K "raw_couple" "raw_couple" s_raw_couple f fd
  couple_of : ∃ f fd, mg "couple_of" = some (.ref f) ∧ Fun K "couple_of" "couple_of" s_couple_of f fd
  _law_lasts : ∃ f fd, mg "_law_lasts" = some (.ref f) ∧ Fun K "_law_lasts" "_law_lasts" s__law_lasts f fd
  _law_couple : ∃ f fd, mg "_law_couple" = some (.ref f) ∧ Fun K "_law_couple" "_law_couple" s__law_couple f fd
  _law_told_couple : ∃ f fd, mg "_law_told_couple" = some (.ref f) ∧ Fun K "_law_told_couple" "_law_told_couple" s__law_told_couple f fd
  _law_is_twice_right : ∃ f fd, mg "_law_is_twice_right" = some (.ref f) ∧ Fun K "_law_is_twice_right" "_law_is_twice_right" s__law_is_twice_right f fd
  _law_lot : ∃ f fd, mg "_law_lot" = some (.ref f) ∧ Fun K "_law_lot" "_law_lot" s__law_lot f fd
  need_water_scripts : ∃ f fd, mg "need_water_scripts" = some (.ref f) ∧ Fun K "need_water" "need_water" s_need_water_scripts f fd
  done : ∃ f fd, mg "done" = some (.ref f) ∧ Fun K "done" "done" s_done f fd
  run : ∃ f fd, mg "run" = some (.ref f) ∧ Fun K "run" "run" s_run f fd
  _law_carried : ∃ f fd, mg "_law_carried" = some (.ref f) ∧ Fun K "_law_carried" "_law_carried" s__law_carried f fd
  _law_outer : ∃ f fd, mg "_law_outer" = some (.ref f) ∧ Fun K "_law_outer" "_law_outer" s__law_outer f fd
  _law_due : ∃ f fd, mg "_law_due" = some (.ref f) ∧ Fun K "_law_due" "_law_due" s__law_due f fd
  carried_deed : ∃ f fd, mg "carried_deed" = some (.ref f) ∧ Fun K "carried_deed" "carried_deed" s_carried_deed f fd
  reach : ∃ f fd, mg "reach" = some (.ref f) ∧ Fun K "reach" "reach" s_reach f fd
  _law_are_deeds_right : ∃ f fd, mg "_law_are_deeds_right" = some (.ref f) ∧ Fun K "_law_are_deeds_right" "_law_are_deeds_right" s__law_are_deeds_right f fd
  is_water : ∃ f fd, mg "is_water" = some (.ref f) ∧ Fun K "is_water" "is_water" s_is_water f fd
  _law_is_led_right : ∃ f fd, mg "_law_is_led_right" = some (.ref f) ∧ Fun K "_law_is_led_right" "_law_is_led_right" s__law_is_led_right f fd
  law : ∃ f fd, mg "law" = some (.ref f) ∧ Fun K "law" "law" s_law f fd
  z_all : mg "all" = none
  z_bool : mg "bool" = none
  z_enumerate : mg "enumerate" = none
  z_int : mg "int" = none
  z_isinstance : mg "isinstance" = none
  z_len : mg "len" = none
  z_list : mg "list" = none
  z_max : mg "max" = none
  z_range : mg "range" = none
  z_repr : mg "repr" = none
  z_set : mg "set" = none
  z_sorted : mg "sorted" = none
  z_str : mg "str" = none
  z_tuple : mg "tuple" = none
  z_zip : mg "zip" = none
  c_MOST_TERRACES : ∃ t, mg "MOST_TERRACES" = some (.int 10 t)
  c_WORDS : ∃ a, mg "WORDS" = some (.ref a) ∧ ∀ H : Hp, SqT K H a [.str "pour", .str "open"]
section
variable {P : Program} {w : World} {K : PySem.W.Frag} {mg : Str → Option Value} {base : Heap} {aD aC aS : Addr}
theorem valV_cells (aC : Addr) (m t : Int) : valV (deckK "left" "draws" aC m t) (.inr "left") = some (.ref aC) := by rfl
theorem valV_mixed (aC : Addr) (m t : Int) : valV (deckK "left" "draws" aC m t) (.inr "mixed") = some (.int m) := by rfl
theorem valV_draws (aC : Addr) (m t : Int) : valV (deckK "left" "draws" aC m t) (.inr "draws") = some (.int t) := by rfl
theorem put_draws (aC : Addr) (m t k : Int) : putK (deckK "left" "draws" aC m t) (.inr "draws") (.int k) = deckK "left" "draws" aC m k := by rfl
theorem cut63 {ns : List Int} (h : ns.length ≤ 63) : cutV (ns.map V.int) none (some 63) = ns.map V.int := by
  unfold cutV
  rw [HT.sIx_none, show HT.sIx (ns.map V.int).length (ns.map V.int).length (some 63) = min 63 (ns.map V.int).length from HT.sIx_nat _ _ 63]
  rw [List.drop_zero, List.length_map, Nat.min_eq_right h, Nat.sub_zero, ← List.length_map (f := V.int), List.take_length]
theorem upd_none {H : Hp} {a b : Addr} {o : HO} (h : upd H a o b = none) : b ≠ a ∧ H b = none := by
  by_cases e : b = a
  · subst e
    rw [upd_same] at h; cases h
  · rw [upd_ne e] at h
    exact ⟨e, h⟩
theorem sq_upd {K : PySem.W.Frag} {H : Hp} {a p : Addr} {o : HO} {xs : List V} (n : H p = none) (h : SqL K H a xs) : SqL K (upd H p o) a xs := by
  have k : ∀ b u, H b = some u → upd H p o b = some u := fun b u e => by
    rw [upd_ne (fun z => by rw [z, n] at e; cases e)]; exact e
  rcases h with (h | ⟨ob, h⟩) | h
  · exact .inl (.inl (k _ _ h))
  · exact .inl (.inr ⟨ob, k _ _ h⟩)
  · exact .inr h
theorem fn_deck {f : Addr} {fd : FuncData} (T : Top K mg) (U : Fun K "_law_deck" "_law_deck" s__law_deck f fd) : FnG P w K mg base CX0 1 f fd ["script"] (spDeck "left" "draws" K) := by
  have S := sc__law_deck
  refine fnG_of (k := 0) U S (fun vs H Q E h => ?_) fun cdv A fr s H vs Q E hg hr h => ?_
  · obtain ⟨a, ns, rfl, _⟩ := h
    rfl
  · obtain ⟨a, ns, rfl, hs, h63, q⟩ := h
    refine ⟨_, PSs.nox (pss_cons (ps_set (i := 1) S.nd rfl (.inl rfl) pe_int)
      (pss_cons (ps_for PassesOwn.never rfl (pi_seq (pe_slice sl_list (pv 0) po_none (po_some pe_int))) (pg_name (i := 2) S.nd rfl (.inl rfl))
        (pss_one (ps_set (i := 1) S.nd rfl (.inl rfl) (pe_op op_mod (pe_callTy call_int1 (by rfl) T.z_int (by decide +kernel) (pa_cons (pe_op op_add (pe_op op_add (pe_op op_mul (pv 1) pe_int) (pe_op op_mod (pe_callTy call_int1 (by rfl) T.z_int (by decide +kernel) (pa_cons (pv 2) pa_nil)) pe_int)) pe_int) pa_nil)) pe_int))))
      (pss_one (ps_ret (pe_disp (pps_cons pe_str (pe_revL (pe_callTy call_list_of (by rfl) T.z_list (by decide +kernel) (pa_cons (pe_slice sl_list (pv 0) po_none (po_some pe_int)) pa_nil))) (pps_cons pe_str (pv 1) (pps_cons pe_str pe_int pps_nil))) (by rfl) (by rfl) (fun z => by cases z) (by decide)))))), ?_⟩
    refine ⟨.ref a, rfl, 63, rfl, a, ns.map V.int, rfl, hs, fun p np => ?_⟩
    rw [cut63 h63]
    have nx : ∀ b u, H b = some u → (upd H p (.lst (ns.map V.int))) b = some u := fun b u e => by
      rw [upd_ne (fun z => by rw [z, np] at e; cases e)]; exact e
    refine ⟨p, rfl, .inl ⟨_, .inl (.inl upd_same), fun _ => ⟨fun i k σ H1 => k + i = ns.length ∧ (∃ x2 m, σ = [some (.ref a), some (.int m), x2]) ∧ H1 = upd H p (.lst (ns.map V.int)), ⟨ns.length, rfl, ⟨_, _, rfl⟩, rfl⟩, fun i k σ H1 hW => ?_⟩⟩⟩
    obtain ⟨ek, ⟨x2, m, rfl⟩, rfl⟩ := hW
    have sp : SqL K (upd H p (.lst (ns.map V.int))) p (ns.map V.int) := .inl (.inl upd_same)
    by_cases hi : i < ns.length
    · have g : (ns.map V.int)[i]? = some (.int ns[i]) := by
        rw [List.getElem?_map, List.getElem?_eq_getElem hi]; rfl
      refine .inr ⟨⟨_, _, sp, g⟩, fun σ' H' => (∃ x2 m, σ' = [some (.ref a), some (.int m), x2]) ∧ H' = upd H p (.lst (ns.map V.int)), fun σ' H' hN => ⟨k - 1, by omega, by omega, hN.1, hN.2⟩, fun v H' hy => ?_⟩
      obtain ⟨rfl, fv⟩ := hy
      have ev : v = .int ns[i] := Option.some.inj ((fv _ sp).symm.trans g)
      subst ev
      exact ⟨.int m, rfl, m, _, rfl, rfl, .inr ⟨by decide, by decide⟩, .int ns[i], rfl, .inl ⟨_, rfl, _, _, rfl, rfl, (by show (0 : Int) < _; decide), _, _, rfl, rfl, _, _, rfl, rfl, .inl ⟨_, rfl, _, _, rfl, rfl, (by show (0 : Int) < _; decide), ⟨_, _, rfl⟩, rfl⟩⟩⟩
    · refine .inl ⟨⟨_, sp, by rw [List.length_map]; omega⟩, fun p2 np2 => ?_⟩
      obtain ⟨e2, n2⟩ := upd_none np2
      have hs2 := sq_upd (o := .dK []) np2 (sq_upd (o := .lst (ns.map V.int)) np hs)
      refine ⟨.ref a, rfl, 63, rfl, a, ns.map V.int, rfl, hs2, fun p3 np3 => ?_⟩
      rw [cut63 h63]
      obtain ⟨e3, n3'⟩ := upd_none np3
      obtain ⟨e3', n3⟩ := upd_none n3'
      refine ⟨p3, _, rfl, .inl (.inl (.inl upd_same)), fun p4 np4 => ?_⟩
      obtain ⟨e4, n4'⟩ := upd_none np4
      obtain ⟨e4', n4''⟩ := upd_none n4'
      obtain ⟨e4'', n4⟩ := upd_none n4''
      refine ⟨p4, _, rfl, .inl (.inl upd_same), fun p5 np5 => ?_⟩
      obtain ⟨e5, n5'⟩ := upd_none np5
      obtain ⟨e5', n5''⟩ := upd_none n5'
      obtain ⟨e5'', n5'''⟩ := upd_none n5''
      obtain ⟨e5''', n5⟩ := upd_none n5'''
      rw [← List.map_reverse]
      refine ⟨.int m, rfl, ?_, [(.inr "left", .ref p5), (.inr "mixed", .int m), (.inr "draws", .int 0)], rfl, (by show 3 ≤ 15; decide), ?_⟩
      · rw [upd_ne (Ne.symm e5''), upd_ne (Ne.symm e4'), upd_ne (Ne.symm e3), upd_same]
      · refine q _ p2 p5 m (fun b u e => ?_) n2 n5 ⟨upd_same, ?_, by rw [List.length_reverse]; exact h63⟩
        · have no : ∀ c, H c = none → b ≠ c := fun c n z => by rw [z, n] at e; cases e
          rw [upd_ne (no _ n2), upd_ne (no _ n5), upd_ne (no _ n4), upd_ne (no _ n3), upd_ne (no _ n2), upd_ne (no _ np)]
          exact e
        · rw [upd_ne e5'', upd_same]
theorem fn_draw {f : Addr} {fd : FuncData} (T : Top K mg) (U : Fun K "_law_draw" "_law_draw" s__law_draw f fd) : FnG P w K mg base CX0 1 f fd ["deck", "many"] (spD (dkZ P w aD aC aS) K gDraw) := by
  have S := sc__law_draw
  refine fnG_of (k := 0) U S (fun vs H Q E h => ?_) fun cdv A fr s H vs Q E hg hr h => ?_
  · obtain ⟨F, ds, b, r, q⟩ := h
    rw [r.length]; exact len_draw _ _ q
  · obtain ⟨F, ds, b, r, many, rfl, ⟨hm1, hm2⟩, q⟩ := h
    have hu : (A.deeper (envOfC "_law_draw" (defScope s__law_draw) s.heap.objs.size f cdv)).units + 1 < cLine := by
      have := hr.units
      omega
    refine ⟨_, pss_cons (ps_dput hu (pv 0) pe_str (pe_op op_add (pe_dget hu (pv 0) pe_str (fun _ _ => rfl)) pe_int) rfl)
      (pss_cons (ps_set (i := 2) S.nd rfl (.inl rfl) (pe_op op_add (pe_dget hu (pv 0) pe_str (fun _ _ => rfl)) (pe_op op_mul pe_int (pe_dget hu (pv 0) pe_str (fun _ _ => rfl)))))
      (pss_cons (ps_if (pt_cmpR (op_neQ hr.units) (pe_dget hu (pv 0) pe_str (fun _ _ => rfl)) (pe_lst pa_nil) (nomark _))
        (pss_cons (ps_set (i := 3) S.nd rfl (.inl rfl) (pe_bm0 PySem.F.plainAttrs_list PySem.F.slot_list_pop PySem.F.type_list_pop mt_pop (pe_dget hu (pv 0) pe_str (fun _ _ => rfl))))
        (pss_cons (ps_if (pt_cmpR op_ge (pv 3) (pe_op op_pow pe_int pe_int) (nomark _))
          (pss_cons (ps_expr (pe_bm PySem.F.plainAttrs_list PySem.F.slot_list_append PySem.F.type_list_append mt_append (pe_dget hu (pv 0) pe_str (fun _ _ => rfl)) (pa_cons (pe_op op_fdiv (pv 3) (pe_callB (call_max2 rfl) (by rfl) T.z_max (by decide +kernel) (pa_cons pe_int (pa_cons (pv 1) pa_nil)))) pa_nil)))
            (pss_one (ps_ret (pe_op op_mod (pe_callTy call_int1 (by rfl) T.z_int (by decide +kernel) (pa_cons (pv 3) pa_nil)) (pv 1)))))
          pss_nil)
        (pss_one (ps_set (i := 2) S.nd rfl (.inl rfl) (pe_op op_add (pv 2) (pe_op op_mod (pe_callTy call_int1 (by rfl) T.z_int (by decide +kernel) (pa_cons (pv 3) pa_nil)) pe_int))))))
        pss_nil)
      (pss_cons (ps_set (i := 2) S.nd rfl (.inl rfl) (pe_op op_mod (pe_callTy call_int1 (by rfl) T.z_int (by decide +kernel) (pa_cons (pe_op op_add (pe_op op_mul (pv 2) pe_int) pe_int) pa_nil)) pe_int))
      (pss_cons (ps_set (i := 2) S.nd rfl (.inl rfl) (pe_op op_mod (pe_callTy call_int1 (by rfl) T.z_int (by decide +kernel) (pa_cons (pe_op op_add (pe_op op_add (pe_op op_mul (pv 2) (pv 2)) (pe_op op_mul pe_int (pe_dget hu (pv 0) pe_str (fun _ _ => rfl)))) pe_int) pa_nil)) pe_int))
      (pss_cons (ps_set (i := 2) S.nd rfl (.inl rfl) (pe_op op_mod (pe_callTy call_int1 (by rfl) T.z_int (by decide +kernel) (pa_cons (pe_op op_mul (pv 2) pe_int) pa_nil)) pe_int))
      (pss_one (ps_ret (pe_op op_mod (pe_callTy call_int1 (by rfl) T.z_int (by decide +kernel) (pa_cons (pe_op op_fdiv (pv 2) pe_int) pa_nil)) (pv 1))))))))), ?_⟩
    have hvs : vs = [.ref aD, .int many] := draw_args r
    subst hvs
    have fin : ∀ {H' : Hp} {ns : List Int} {m t : Int} (x : Int), DrawSt "left" "draws" aD aC H H' ns m t → Q (.int (x % many)) H' := fun {H' ns m t} x st =>
      q _ (Int.emod_nonneg _ (Int.ne_of_gt hm1)) (Int.emod_lt_of_pos _ hm1) F H' _ (DrawSt.go (kc := "left") (kt := "draws") b st) (.sh (.int _))
    have cm : ∀ j : Int, CMul 61473 j := fun j => .inl ⟨by decide, by decide⟩
    obtain ⟨ns, m, t, at0⟩ : ∃ ns m t, DeckAt "left" "draws" aD aC H ns m t := b.j
    have st0 : DrawSt "left" "draws" aD aC H H ns m t := ⟨at0, fun a o e _ _ => e⟩
    refine ⟨.ref aD, rfl, aD, .int t, rfl, st0.get (valV_draws _ _ _), t, 1, rfl, rfl, .ref aD, rfl, aD, _, rfl, (.inl ⟨deckK "left" "draws" aC m t, .inr "draws", st0.at'.d, rfl, (by show 3 < sizeLine; decide), rfl⟩), ?_⟩
    have st1 := st0.put (t + 1) (put_draws _ _ _ _)
    generalize upd H aD (.dK (putK (deckK "left" "draws" aC m t) (.inr "draws") (.int (t + 1)))) = H1 at st1 ⊢
    refine ⟨.ref aD, rfl, aD, .int m, rfl, st1.get (valV_mixed _ _ _), .ref aD, rfl, aD, .int (t + 1), rfl, st1.get (valV_draws _ _ _), 61473, t + 1, rfl, rfl, .inl ⟨by decide, by decide⟩, m, _, rfl, rfl, ?_⟩
    refine ⟨.ref aD, rfl, aD, .ref aC, rfl, st1.get (valV_cells _ _ _), Nat.zero_le _, fun p np => ?_⟩
    have st2 := st1.new (o := .lst []) np (st1.none0 np)
    refine ⟨.list (ns.map PyData.int), .list [], st2.dq, .lst ⟨upd_same, trivial⟩ .nil, sDep_nil _, _, rfl, ?_⟩
    generalize upd H1 p (.lst []) = H2 at st2 ⊢
    -- behind the cells
    refine ite2 (fun e => ?_) (fun e => ?_)
    · obtain ⟨ks, c, rfl⟩ : ∃ ks c, ns = ks ++ [c] := by
        rcases List.eq_nil_or_concat ns with rfl | ⟨ks, c, rfl⟩
        · cases e
        · exact ⟨ks, c, List.concat_eq_append⟩
      have hk : ks.length ≤ 62 := by
        have := st2.at'.n
        rw [List.length_append, List.length_singleton] at this
        omega
      have hc : ((ks ++ [c]).map V.int)[((ks ++ [c]).map V.int).length - 1]? = some (.int c) := by simp
      refine ⟨.ref aD, rfl, aD, .ref aC, rfl, st2.get (valV_cells _ _ _), .inl ⟨rfl, _, st2.sq⟩, aC, _, _, rfl, rfl, st2.at'.c, hc, ?_⟩
      have st3 := st2.cells (ks := ks) (by omega)
      have hd : ((ks ++ [c]).map V.int).dropLast = ks.map V.int := by simp
      rw [hd]
      generalize upd H2 aC (.lst (ks.map V.int)) = H3 at st3 ⊢
      refine ⟨.int c, rfl, 10, 18, rfl, rfl, ⟨by decide, by decide, by decide⟩, c, _, rfl, rfl, _, rfl, ite2 (fun e => ?_) (fun e => ?_)⟩
      · refine ⟨.ref aD, rfl, aD, .ref aC, rfl, st3.get (valV_cells _ _ _), .inl ⟨rfl, _, st3.sq⟩, .int c, rfl, .int many, rfl, 2, many, rfl, c, _, rfl, rfl, ⟨?_, ?_⟩, aC, _, _, rfl, rfl, st3.at'.c, ?_, ?_⟩
        · split <;> omega
        · split <;> omega
        · rw [List.length_map]
          exact Nat.lt_of_le_of_lt hk (by decide)
        · have st4 := st3.cells (ks := ks ++ [c / (if many > 2 then many else 2)]) (by rw [List.length_append, List.length_singleton]; omega)
          have ea : ks.map V.int ++ [V.int (c / (if many > 2 then many else 2))] = (ks ++ [c / (if many > 2 then many else 2)]).map V.int := by rw [List.map_append]; rfl
          refine ⟨.int c, rfl, .inl ⟨c, rfl, .int many, rfl, c, many, rfl, rfl, hm1, ?_⟩⟩
          rw [ea]
          exact fin _ st4
      · refine ⟨_, rfl, .int c, rfl, .inl ⟨c, rfl, c, _, rfl, rfl, (by show (0 : Int) < _; decide), _, _, rfl, rfl, ?_⟩⟩
        refine ⟨_, rfl, _, _, rfl, rfl, .inr ⟨by decide, by decide⟩, _, _, rfl, rfl, .inl ⟨_, rfl, _, _, rfl, rfl, (by show (0 : Int) < _; decide), ?_⟩⟩
        refine ⟨_, rfl, _, rfl, _, _, rfl, rfl, .inl ⟨by omega, by omega⟩, .ref aD, rfl, aD, _, rfl, st3.get (valV_draws _ _ _), _, _, rfl, rfl, .inl ⟨by decide, by decide⟩, _, _, rfl, rfl, _, _, rfl, rfl, .inl ⟨_, rfl, _, _, rfl, rfl, (by show (0 : Int) < _; decide), ?_⟩⟩
        refine ⟨_, rfl, _, _, rfl, rfl, .inr ⟨by decide, by decide⟩, .inl ⟨_, rfl, _, _, rfl, rfl, (by show (0 : Int) < _; decide), ?_⟩⟩
        exact ⟨_, rfl, _, _, rfl, rfl, ⟨by decide, by decide⟩, .inl ⟨_, rfl, .int many, rfl, _, _, rfl, rfl, hm1, fin _ st3⟩⟩
    · refine ⟨_, rfl, _, _, rfl, rfl, .inr ⟨by decide, by decide⟩, _, _, rfl, rfl, .inl ⟨_, rfl, _, _, rfl, rfl, (by show (0 : Int) < _; decide), ?_⟩⟩
      refine ⟨_, rfl, _, rfl, _, _, rfl, rfl, .inl ⟨by omega, by omega⟩, .ref aD, rfl, aD, _, rfl, st2.get (valV_draws _ _ _), _, _, rfl, rfl, .inl ⟨by decide, by decide⟩, _, _, rfl, rfl, _, _, rfl, rfl, .inl ⟨_, rfl, _, _, rfl, rfl, (by show (0 : Int) < _; decide), ?_⟩⟩
      refine ⟨_, rfl, _, _, rfl, rfl, .inr ⟨by decide, by decide⟩, .inl ⟨_, rfl, _, _, rfl, rfl, (by show (0 : Int) < _; decide), ?_⟩⟩
      exact ⟨_, rfl, _, _, rfl, rfl, ⟨by decide, by decide⟩, .inl ⟨_, rfl, .int many, rfl, _, _, rfl, rfl, hm1, fin _ st2⟩⟩
theorem gd__law_closed (T : Top K mg) : Gd P w K mg base (dkZ P w aD aC aS) "_law_closed" s__law_closed ["n", "pairs"] 1 g__law_closed := by
  obtain ⟨f, fd, hm, U⟩ := T._law_closed
  have S := sc__law_closed
  refine gd_mk hm U m__law_closed (fnD_ok (k := 0) U S l__law_closed fun cdv A fr s H E F0 hg hr => ⟨t__law_closed, ?_, fun ds Q h => p__law_closed ds Q h⟩)
  exact s_cons (s_set (i := 2) S.nd rfl (.inr rfl) (d_lc (own := [("at", 7)]) rfl S.nd (i_range1 (d_var 0) T.z_range) (blkOk_by (N := ["n", "pairs", "rows", "a", "b", "c", "found", "at", "to", "one", "other"]) (sc := defScope s__law_closed) (by decide +kernel)) (by decide) (fun _ _ _ _ _ => g_name (i := 7) S.nd rfl (.inr rfl)) (fun _ _ _ _ _ => ts_nil) (fun _ _ _ _ _ => d_lc (own := [("to", 8)]) rfl S.nd (i_range1 (d_var 0) T.z_range) (blkOk_by (by kernel_rfl)) (by decide) (fun _ _ _ _ _ => g_name (i := 8) S.nd rfl (.inl rfl)) (fun _ _ _ _ _ => ts_nil) (fun _ _ _ _ _ => d_eq hr.units (d_var 7) (d_var 8)))))
          (s_cons (s_for PassesOwn.never rfl (i_seq (d_var 1)) (g_tup rfl (gs_cons (g_name (i := 3) S.nd rfl (.inr rfl)) (gs_cons (g_name (i := 4) S.nd rfl (.inl rfl)) (gs_nil)))) (s_one (s_setIx2 2 rfl (by first | exact Or.inl rfl | exact Or.inr (Or.inl rfl)) (d_var 3) (d_var 4) (d_bl) (fun _ _ => rfl))))
          (s_cons (s_for PassesOwn.never rfl (i_range1 (d_var 0) T.z_range) (g_name (i := 5) S.nd rfl (.inl rfl)) (s_one (s_for PassesOwn.never rfl (i_range1 (d_var 0) T.z_range) (g_name (i := 3) S.nd rfl (.inr rfl)) (s_one (s_if (b_val (d_item (d_item (d_var 2) (d_var 3)) (d_var 5))) (s_one (s_setIx 2 rfl (by first | exact Or.inl rfl | exact Or.inr (Or.inl rfl)) (d_var 3) (d_lc (own := [("one", 9), ("other", 10)]) rfl S.nd (i_zip (l_cons (d_item (d_var 2) (d_var 3)) (l_cons (d_item (d_var 2) (d_var 5)) (l_nil))) T.z_zip) (blkOk_by (N := ["n", "pairs", "rows", "a", "b", "c", "found", "at", "to", "one", "other"]) (sc := defScope s__law_closed) (by decide +kernel)) (by decide) (fun _ _ _ _ _ => g_tup rfl (gs_cons (g_name (i := 9) S.nd rfl (.inl rfl)) (gs_cons (g_name (i := 10) S.nd rfl (.inl rfl)) (gs_nil)))) (fun _ _ _ _ _ => ts_nil) (fun _ _ _ _ _ => d_or (d_var 9) (d_one (d_var 10)))))) (s_nil))))))
          (s_cons (s_set (i := 6) S.nd rfl (.inl rfl) (d_lst (l_nil)))
          (s_cons (s_for PassesOwn.never rfl (i_range1 (d_var 0) T.z_range) (g_name (i := 3) S.nd rfl (.inr rfl)) (s_one (s_extend 6 rfl (by first | exact Or.inl rfl | exact Or.inr (Or.inl rfl) | exact Or.inr (Or.inr rfl)) (d_lc (own := [("to", 8)]) rfl S.nd (i_range1 (d_var 0) T.z_range) (blkOk_by (N := ["n", "pairs", "rows", "a", "b", "c", "found", "at", "to", "one", "other"]) (sc := defScope s__law_closed) (by decide +kernel)) (by decide) (fun _ _ _ _ _ => g_name (i := 8) S.nd rfl (.inl rfl)) (fun _ _ _ _ _ => ts_one ((bw_and (b_val (d_item (d_item (d_var 2) (d_var 3)) (d_var 8))) (bw_and1 (b_cmp (op_neQ hr.units) lk_rel (d_var 8) (d_var 3) (nomark _)))).toB)) (fun _ _ _ _ _ => d_tup (l_cons (d_var 3) (l_cons (d_var 8) (l_nil))))))))
          (s_one (s_ret (d_tup (l_cons (d_var 0) (l_cons (d_tupleC (l_cons (d_var 6) (l_nil)) T.z_tuple) (l_nil))))))))))
theorem gd__law_sides (T : Top K mg) : Gd P w K mg base (dkZ P w aD aC aS) "_law_sides" s__law_sides ["hill"] 1 g__law_sides := by
  obtain ⟨f, fd, hm, U⟩ := T._law_sides
  have S := sc__law_sides
  refine gd_mk hm U m__law_sides (fnD_ok (k := 0) U S l__law_sides fun cdv A fr s H E F0 hg hr => ⟨t__law_sides, ?_, fun ds Q h => p__law_sides ds Q h⟩)
  exact s_cons (s_asg (d_var 0) (g_tup rfl (gs_cons (g_name (i := 1) S.nd rfl (.inl rfl)) (gs_cons (g_name (i := 2) S.nd rfl (.inl rfl)) (gs_nil)))))
          (s_cons (s_par (i := 3) (j := 4) rfl S.nd rfl rfl (by decide) rfl rfl (l_cons (d_lc (own := [("at", 7)]) rfl S.nd (i_range1 (d_var 1) T.z_range) (blkOk_by (N := ["hill", "n", "pairs", "below", "above", "a", "b", "at", "row"]) (sc := defScope s__law_sides) (by decide +kernel)) (by decide) (fun _ _ _ _ _ => g_name (i := 7) S.nd rfl (.inl rfl)) (fun _ _ _ _ _ => ts_nil) (fun _ _ _ _ _ => d_lst (l_cons (d_var 7) (l_nil)))) (l_cons (d_lc (own := [("at", 7)]) rfl S.nd (i_range1 (d_var 1) T.z_range) (blkOk_by (N := ["hill", "n", "pairs", "below", "above", "a", "b", "at", "row"]) (sc := defScope s__law_sides) (by decide +kernel)) (by decide) (fun _ _ _ _ _ => g_name (i := 7) S.nd rfl (.inl rfl)) (fun _ _ _ _ _ => ts_nil) (fun _ _ _ _ _ => d_lst (l_cons (d_var 7) (l_nil)))) (l_nil))) (by rfl))
          (s_cons (s_for PassesOwn.never rfl (i_seq (d_var 2)) (g_tup rfl (gs_cons (g_name (i := 5) S.nd rfl (.inl rfl)) (gs_cons (g_name (i := 6) S.nd rfl (.inl rfl)) (gs_nil)))) (s_cons (s_appendIx 3 rfl (by first | exact Or.inl rfl | exact Or.inr (Or.inl rfl) | exact Or.inr (Or.inr rfl)) (d_var 6) (d_var 5) (fun _ _ => rfl))
          (s_one (s_appendIx 4 rfl (by first | exact Or.inl rfl | exact Or.inr (Or.inl rfl) | exact Or.inr (Or.inr rfl)) (d_var 5) (d_var 6) (fun _ _ => rfl)))))
          (s_frz 3 (s_frz 4 (s_one (s_ret (d_tup (l_cons (d_lc (own := [("row", 8)]) rfl S.nd (i_seqQ (d_var 3)) (blkOk_by (N := ["hill", "n", "pairs", "below", "above", "a", "b", "at", "row"]) (sc := defScope s__law_sides) (by decide +kernel)) (by decide) (fun _ _ _ _ _ => g_name (i := 8) S.nd rfl (.inl rfl)) (fun _ _ _ _ _ => ts_nil) (fun _ _ _ _ _ => d_sorted hr.units (l_cons (d_var 8) (l_nil)) T.z_sorted)) (l_cons (d_lc (own := [("row", 8)]) rfl S.nd (i_seqQ (d_var 4)) (blkOk_by (N := ["hill", "n", "pairs", "below", "above", "a", "b", "at", "row"]) (sc := defScope s__law_sides) (by decide +kernel)) (by decide) (fun _ _ _ _ _ => g_name (i := 8) S.nd rfl (.inl rfl)) (fun _ _ _ _ _ => ts_nil) (fun _ _ _ _ _ => d_sorted hr.units (l_cons (d_var 8) (l_nil)) T.z_sorted)) (l_nil))))))))))
theorem gd__law_leading (T : Top K mg) (G__law_draw : Gd P w K mg base (dkZ P w aD aC aS) "_law_draw" s__law_draw ["deck", "many"] 1 g__law_draw) (G__law_sides : Gd P w K mg base (dkZ P w aD aC aS) "_law_sides" s__law_sides ["hill"] 1 g__law_sides) (G__law_closed : Gd P w K mg base (dkZ P w aD aC aS) "_law_closed" s__law_closed ["n", "pairs"] 1 g__law_closed) : Gd P w K mg base (dkZ P w aD aC aS) "_law_leading" s__law_leading ["deck", "other", "n"] 2 g__law_leading := by
  obtain ⟨f, fd, hm, U⟩ := T._law_leading
  have S := sc__law_leading
  refine gd_mk hm U m__law_leading (fnD_ok (k := 1) U S l__law_leading fun cdv A fr s H E F0 hg hr => ⟨t__law_leading, ?_, fun ds Q h => p__law_leading ds Q h⟩)
  exact s_cons (s_unpack (is := [3, 4, 5]) rfl (n_cons S.nd rfl (.inr rfl) (n_cons S.nd rfl (.inr rfl) (n_cons S.nd rfl (.inr rfl) (n_nil)))) (l_cons (d_tupleC (l_cons (d_lc (own := [("at", 9)]) rfl S.nd (i_range1 (d_var 2) T.z_range) (blkOk_by (N := ["deck", "other", "n", "places", "above", "some", "pairs", "a", "near", "at", "b"]) (sc := defScope s__law_leading) (by decide +kernel)) (by decide) (fun _ _ _ _ _ => g_name (i := 9) S.nd rfl (.inl rfl)) (fun _ _ _ _ _ => ts_nil) (fun _ _ _ _ _ => d_callG G__law_draw b__law_draw (by decide) hg hr pass0 (l_cons (d_var 0) (l_cons (d_item (d_var 1) (d_int)) (l_nil))))) (l_nil)) T.z_tuple) (l_cons (d_item (d_callG G__law_sides b__law_sides (by decide) hg hr pass0 (l_cons (d_var 1) (l_nil))) (d_int)) (l_cons (d_add (d_callG G__law_draw b__law_draw (by decide) hg hr pass0 (l_cons (d_var 0) (l_cons (d_int) (l_nil)))) (d_int)) (l_nil)))))
          (s_cons (s_set (i := 6) S.nd rfl (.inl rfl) (d_lst (l_nil)))
          (s_cons (s_for PassesOwn.never rfl (i_range1 (d_var 2) T.z_range) (g_name (i := 7) S.nd rfl (.inr rfl)) (s_cons (s_setLc (i := 8) (own := [("b", 10)]) rfl S.nd rfl rfl (sw_true rfl rfl rfl (by decide +kernel)) (i_range1 (d_var 2) T.z_range) (blkOk_by (N := ["deck", "other", "n", "places", "above", "some", "pairs", "a", "near", "at", "b"]) (sc := defScope s__law_leading) (by decide +kernel)) (by decide) (fun _ _ _ _ _ => g_name (i := 10) S.nd rfl (.inl rfl)) (fun _ _ _ _ _ => ts_one ((bw_and (b_cmp (op_neQ hr.units) lk_rel (d_var 10) (d_var 7) (nomark _)) (bw_and1 (b_cmp (op_inQ hr.units) lk_rel (d_item (d_var 3) (d_var 10)) (d_item (d_var 4) (d_item (d_var 3) (d_var 7))) (by rfl)))).toB)) (fun _ _ _ _ _ => d_var 10))
          (s_one (s_extend 6 rfl (by first | exact Or.inl rfl | exact Or.inr (Or.inl rfl) | exact Or.inr (Or.inr rfl)) (d_lc (own := [("b", 10)]) rfl S.nd (i_seqQ (d_var 8)) (blkOk_by (N := ["deck", "other", "n", "places", "above", "some", "pairs", "a", "near", "at", "b"]) (sc := defScope s__law_leading) (by decide +kernel)) (by decide) (fun _ _ _ _ _ => g_name (i := 10) S.nd rfl (.inl rfl)) (fun _ _ _ _ _ => ts_one (b_cmp (op_eqQ hr.units) lk_rel (d_callG G__law_draw b__law_draw (by decide) hg hr pass0 (l_cons (d_var 0) (l_cons (d_var 5) (l_nil)))) (d_int) (nomark _))) (fun _ _ _ _ _ => d_tup (l_cons (d_var 7) (l_cons (d_var 10) (l_nil)))))))))
          (s_frz 6 (s_one (s_ret (d_tup (l_cons (d_callG G__law_closed b__law_closed (by decide) hg hr pass0 (l_cons (d_var 2) (l_cons (d_var 6) (l_nil)))) (l_cons (d_var 3) (l_nil)))))))))
theorem gd__law_shuffled (T : Top K mg) (G__law_draw : Gd P w K mg base (dkZ P w aD aC aS) "_law_draw" s__law_draw ["deck", "many"] 1 g__law_draw) : Gd P w K mg base (dkZ P w aD aC aS) "_law_shuffled" s__law_shuffled ["deck", "n"] 2 g__law_shuffled := by
  obtain ⟨f, fd, hm, U⟩ := T._law_shuffled
  have S := sc__law_shuffled
  refine gd_mk hm U m__law_shuffled (fnD_ok (k := 1) U S l__law_shuffled fun cdv A fr s H E F0 hg hr => ⟨t__law_shuffled, ?_, fun ds Q h => p__law_shuffled ds Q h⟩)
  exact s_cons (s_set (i := 2) S.nd rfl (.inl rfl) (d_listRg1 rfl (d_var 1) T.z_list T.z_range))
          (s_cons (s_for PassesOwn.never rfl (i_range1 (d_var 1) T.z_range) (g_name (i := 3) S.nd rfl (.inl rfl)) (s_one (s_apppop1 2 rfl (by first | exact Or.inl rfl | exact Or.inr (Or.inl rfl) | exact Or.inr (Or.inr rfl)) (d_callG G__law_draw b__law_draw (by decide) hg hr pass0 (l_cons (d_var 0) (l_cons (d_var 1) (l_nil)))))))
          (s_one (s_retV 2)))
theorem gd__law_hill (T : Top K mg) (G__law_draw : Gd P w K mg base (dkZ P w aD aC aS) "_law_draw" s__law_draw ["deck", "many"] 1 g__law_draw) (G__law_shuffled : Gd P w K mg base (dkZ P w aD aC aS) "_law_shuffled" s__law_shuffled ["deck", "n"] 2 g__law_shuffled) (G__law_closed : Gd P w K mg base (dkZ P w aD aC aS) "_law_closed" s__law_closed ["n", "pairs"] 1 g__law_closed) : Gd P w K mg base (dkZ P w aD aC aS) "_law_hill" s__law_hill ["deck", "most"] 3 g__law_hill := by
  obtain ⟨f, fd, hm, U⟩ := T._law_hill
  have S := sc__law_hill
  refine gd_mk hm U m__law_hill (fnD_ok (k := 2) U S l__law_hill fun cdv A fr s H E F0 hg hr => ⟨t__law_hill, ?_, fun ds Q h => p__law_hill ds Q h⟩)
  exact s_cons (s_unpack (is := [2, 3, 4]) rfl (n_cons S.nd rfl (.inr rfl) (n_cons S.nd rfl (.inr rfl) (n_cons S.nd rfl (.inl rfl) (n_nil)))) (l_cons (d_add (d_int) (d_callG G__law_draw b__law_draw (by decide) hg hr pass0 (l_cons (d_var 0) (l_cons (d_var 1) (l_nil))))) (l_cons (d_callG G__law_draw b__law_draw (by decide) hg hr pass0 (l_cons (d_var 0) (l_cons (d_int) (l_nil)))) (l_cons (d_lst (l_nil)) (l_nil)))))
          (s_cons (s_for PassesOwn.never rfl (i_range2 (d_int) (d_var 2) T.z_range) (g_name (i := 5) S.nd rfl (.inr rfl)) (s_cons (s_if (b_cmp (op_eqQ hr.units) lk_rel (d_var 3) (d_int) (nomark _)) (s_one (s_append 4 rfl (by first | exact Or.inl rfl | exact Or.inr (Or.inl rfl) | exact Or.inr (Or.inr rfl)) (d_tup (l_cons (d_sub (d_var 5) (d_int)) (l_cons (d_var 5) (l_nil)))))) (s_nil))
          (s_cons (s_if ((bw_or (b_cmp (op_eqQ hr.units) lk_rel (d_var 3) (d_int) (nomark _)) (bw_or1 (b_cmp (op_eqQ hr.units) lk_rel (d_var 3) (d_int) (nomark _)))).toB) (s_cons (s_set (i := 6) S.nd rfl (.inl rfl) (d_tup (l_cons (d_var 5) (l_cons (d_callG G__law_draw b__law_draw (by decide) hg hr pass0 (l_cons (d_var 0) (l_cons (d_var 5) (l_nil)))) (l_nil)))))
          (s_one (s_append 4 rfl (by first | exact Or.inl rfl | exact Or.inr (Or.inl rfl) | exact Or.inr (Or.inr rfl)) (d_ifExp (b_cmp (op_eqQ hr.units) lk_rel (d_var 3) (d_int) (nomark _)) (d_var 6) (d_rev (d_var 6)))))) (s_nil))
          (s_cons (s_if ((bw_or (b_cmp (op_eqQ hr.units) lk_rel (d_var 3) (d_int) (nomark _)) (bw_or (b_cmp (op_eqQ hr.units) lk_rel (d_var 3) (d_int) (nomark _)) (bw_or1 (b_cmp (op_eqQ hr.units) lk_rel (d_var 3) (d_int) (nomark _))))).toB) (s_one (s_extend 4 rfl (by first | exact Or.inl rfl | exact Or.inr (Or.inl rfl) | exact Or.inr (Or.inr rfl)) (d_lc (own := [("to", 8)]) rfl S.nd (i_range1 (d_var 5) T.z_range) (blkOk_by (N := ["deck", "most", "n", "way", "pairs", "at", "pair", "names", "to", "step", "turn", "a", "b"]) (sc := defScope s__law_hill) (by decide +kernel)) (by decide) (fun _ _ _ _ _ => g_name (i := 8) S.nd rfl (.inl rfl)) (fun _ _ _ _ _ => ts_one (b_cmp (op_eqQ hr.units) lk_rel (d_callG G__law_draw b__law_draw (by decide) hg hr pass0 (l_cons (d_var 0) (l_cons (d_ifExp (b_cmp (op_eqQ hr.units) lk_rel (d_var 3) (d_int) (nomark _)) (d_int) (d_int)) (l_nil)))) (d_int) (nomark _))) (fun _ _ _ _ _ => d_tup (l_cons (d_var 8) (l_cons (d_var 5) (l_nil))))))) (s_nil))
          (s_cons (s_if ((bw_and (b_cmp (op_eqQ hr.units) lk_rel (d_var 3) (d_int) (nomark _)) (bw_and1 (b_cmp (op_geQ hr.units) lk_rel (d_var 5) (d_div (d_var 2) (d_int)) (nomark _)))).toB) (s_one (s_extend 4 rfl (by first | exact Or.inl rfl | exact Or.inr (Or.inl rfl) | exact Or.inr (Or.inr rfl)) (d_lc (own := [("to", 8)]) rfl S.nd (i_range1 (d_div (d_var 2) (d_int)) T.z_range) (blkOk_by (N := ["deck", "most", "n", "way", "pairs", "at", "pair", "names", "to", "step", "turn", "a", "b"]) (sc := defScope s__law_hill) (by decide +kernel)) (by decide) (fun _ _ _ _ _ => g_name (i := 8) S.nd rfl (.inl rfl)) (fun _ _ _ _ _ => ts_one (b_cmp (op_eqQ hr.units) lk_rel (d_callG G__law_draw b__law_draw (by decide) hg hr pass0 (l_cons (d_var 0) (l_cons (d_int) (l_nil)))) (d_int) (nomark _))) (fun _ _ _ _ _ => d_tup (l_cons (d_var 8) (l_cons (d_var 5) (l_nil))))))) (s_nil))
          (s_one (s_if (b_cmp (op_eqQ hr.units) lk_rel (d_var 3) (d_int) (nomark _)) (s_one (s_extend 4 rfl (by first | exact Or.inl rfl | exact Or.inr (Or.inl rfl) | exact Or.inr (Or.inr rfl)) (d_lc (own := [("step", 9)]) rfl S.nd (i_seqQ (d_lst (l_cons (d_int) (l_cons (d_int) (l_nil))))) (blkOk_by (N := ["deck", "most", "n", "way", "pairs", "at", "pair", "names", "to", "step", "turn", "a", "b"]) (sc := defScope s__law_hill) (by decide +kernel)) (by decide) (fun _ _ _ _ _ => g_name (i := 9) S.nd rfl (.inl rfl)) (fun _ _ _ _ _ => ts_one ((bw_and (b_cmp (op_geQ hr.units) lk_rel (d_var 5) (d_var 9) (nomark _)) (bw_and1 ((bw_or (b_cmp (op_eqQ hr.units) lk_rel (d_var 9) (d_int) (nomark _)) (bw_or1 (b_cmp (op_eqQ hr.units) lk_rel (d_mod (d_intC (l_cons (d_var 5) (l_nil)) T.z_int) (d_int)) (d_int) (nomark _)))).toB))).toB)) (fun _ _ _ _ _ => d_tup (l_cons (d_sub (d_var 5) (d_var 9)) (l_cons (d_var 5) (l_nil))))))) (s_nil))))))))
          (s_cons (s_if (b_cmp (op_eqQ hr.units) lk_rel (d_var 3) (d_int) (nomark _)) (s_one (s_extend 4 rfl (by first | exact Or.inl rfl | exact Or.inr (Or.inl rfl) | exact Or.inr (Or.inr rfl)) (d_lc (own := [("turn", 10)]) rfl S.nd (i_range1 (d_add (d_int) (d_div (d_var 2) (d_int))) T.z_range) (blkOk_by (N := ["deck", "most", "n", "way", "pairs", "at", "pair", "names", "to", "step", "turn", "a", "b"]) (sc := defScope s__law_hill) (by decide +kernel)) (by decide) (fun _ _ _ _ _ => g_name (i := 10) S.nd rfl (.inl rfl)) (fun _ _ _ _ _ => ts_nil) (fun _ _ _ _ _ => d_tup (l_cons (d_callG G__law_draw b__law_draw (by decide) hg hr pass0 (l_cons (d_var 0) (l_cons (d_var 2) (l_nil)))) (l_cons (d_callG G__law_draw b__law_draw (by decide) hg hr pass0 (l_cons (d_var 0) (l_cons (d_var 2) (l_nil)))) (l_nil))))))) (s_nil))
          (s_cons (s_set (i := 7) S.nd rfl (.inr rfl) (d_callG G__law_shuffled b__law_shuffled (by decide) hg hr pass0 (l_cons (d_var 0) (l_cons (d_var 2) (l_nil)))))
          (s_one (s_ret (d_callG G__law_closed b__law_closed (by decide) hg hr pass0 (l_cons (d_var 2) (l_cons (d_lc (own := [("a", 11), ("b", 12)]) rfl S.nd (i_seqQ (d_var 4)) (blkOk_by (N := ["deck", "most", "n", "way", "pairs", "at", "pair", "names", "to", "step", "turn", "a", "b"]) (sc := defScope s__law_hill) (by decide +kernel)) (by decide) (fun _ _ _ _ _ => g_tup rfl (gs_cons (g_name (i := 11) S.nd rfl (.inl rfl)) (gs_cons (g_name (i := 12) S.nd rfl (.inl rfl)) (gs_nil)))) (fun _ _ _ _ _ => ts_one (b_cmp (op_neQ hr.units) lk_rel (d_var 11) (d_var 12) (nomark _))) (fun _ _ _ _ _ => d_tup (l_cons (d_item (d_var 7) (d_var 11)) (l_cons (d_item (d_var 7) (d_var 12)) (l_nil))))) (l_nil)))))))))
theorem gd__law_led (T : Top K mg) (G__law_draw : Gd P w K mg base (dkZ P w aD aC aS) "_law_draw" s__law_draw ["deck", "many"] 1 g__law_draw) (G__law_closed : Gd P w K mg base (dkZ P w aD aC aS) "_law_closed" s__law_closed ["n", "pairs"] 1 g__law_closed) : Gd P w K mg base (dkZ P w aD aC aS) "_law_led" s__law_led ["deck", "one", "n"] 2 g__law_led := by
  obtain ⟨f, fd, hm, U⟩ := T._law_led
  have S := sc__law_led
  refine gd_mk hm U m__law_led (fnD_ok (k := 1) U S l__law_led fun cdv A fr s H E F0 hg hr => ⟨t__law_led, ?_, fun ds Q h => p__law_led ds Q h⟩)
  exact s_cons (s_set (i := 3) S.nd rfl (.inr rfl) (d_tupleC (l_cons (d_lc (own := [("at", 5)]) rfl S.nd (i_range1 (d_item (d_var 1) (d_int)) T.z_range) (blkOk_by (N := ["deck", "one", "n", "places", "pairs", "at", "a", "b", "turn"]) (sc := defScope s__law_led) (by decide +kernel)) (by decide) (fun _ _ _ _ _ => g_name (i := 5) S.nd rfl (.inl rfl)) (fun _ _ _ _ _ => ts_nil) (fun _ _ _ _ _ => d_callG G__law_draw b__law_draw (by decide) hg hr pass0 (l_cons (d_var 0) (l_cons (d_var 2) (l_nil))))) (l_nil)) T.z_tuple))
          (s_cons (s_setLc (i := 4) (own := [("a", 6), ("b", 7)]) rfl S.nd rfl rfl (sw_true rfl rfl rfl (by decide +kernel)) (i_seqQ (d_item (d_var 1) (d_int))) (blkOk_by (N := ["deck", "one", "n", "places", "pairs", "at", "a", "b", "turn"]) (sc := defScope s__law_led) (by decide +kernel)) (by decide) (fun _ _ _ _ _ => g_tup rfl (gs_cons (g_name (i := 6) S.nd rfl (.inl rfl)) (gs_cons (g_name (i := 7) S.nd rfl (.inl rfl)) (gs_nil)))) (fun _ _ _ _ _ => ts_nil) (fun _ _ _ _ _ => d_tup (l_cons (d_item (d_var 3) (d_var 6)) (l_cons (d_item (d_var 3) (d_var 7)) (l_nil)))))
          (s_cons (s_extend 4 rfl (by first | exact Or.inl rfl | exact Or.inr (Or.inl rfl) | exact Or.inr (Or.inr rfl)) (d_lc (own := [("turn", 8)]) rfl S.nd (i_range1 (d_callG G__law_draw b__law_draw (by decide) hg hr pass0 (l_cons (d_var 0) (l_cons (d_int) (l_nil)))) T.z_range) (blkOk_by (N := ["deck", "one", "n", "places", "pairs", "at", "a", "b", "turn"]) (sc := defScope s__law_led) (by decide +kernel)) (by decide) (fun _ _ _ _ _ => g_name (i := 8) S.nd rfl (.inl rfl)) (fun _ _ _ _ _ => ts_nil) (fun _ _ _ _ _ => d_tup (l_cons (d_callG G__law_draw b__law_draw (by decide) hg hr pass0 (l_cons (d_var 0) (l_cons (d_var 2) (l_nil)))) (l_cons (d_callG G__law_draw b__law_draw (by decide) hg hr pass0 (l_cons (d_var 0) (l_cons (d_var 2) (l_nil)))) (l_nil))))))
          (s_one (s_ret (d_tup (l_cons (d_callG G__law_closed b__law_closed (by decide) hg hr pass0 (l_cons (d_var 2) (l_cons (d_lc (own := [("a", 6), ("b", 7)]) rfl S.nd (i_seqQ (d_var 4)) (blkOk_by (N := ["deck", "one", "n", "places", "pairs", "at", "a", "b", "turn"]) (sc := defScope s__law_led) (by decide +kernel)) (by decide) (fun _ _ _ _ _ => g_tup rfl (gs_cons (g_name (i := 6) S.nd rfl (.inl rfl)) (gs_cons (g_name (i := 7) S.nd rfl (.inl rfl)) (gs_nil)))) (fun _ _ _ _ _ => ts_one (b_cmp (op_neQ hr.units) lk_rel (d_var 6) (d_var 7) (nomark _))) (fun _ _ _ _ _ => d_tup (l_cons (d_var 6) (l_cons (d_var 7) (l_nil))))) (l_nil)))) (l_cons (d_var 3) (l_nil))))))))
theorem gd__law_mapped (T : Top K mg) (G__law_draw : Gd P w K mg base (dkZ P w aD aC aS) "_law_draw" s__law_draw ["deck", "many"] 1 g__law_draw) (G__law_hill : Gd P w K mg base (dkZ P w aD aC aS) "_law_hill" s__law_hill ["deck", "most"] 3 g__law_hill) (G__law_led : Gd P w K mg base (dkZ P w aD aC aS) "_law_led" s__law_led ["deck", "one", "n"] 2 g__law_led) (G__law_leading : Gd P w K mg base (dkZ P w aD aC aS) "_law_leading" s__law_leading ["deck", "other", "n"] 2 g__law_leading) : Gd P w K mg base (dkZ P w aD aC aS) "_law_mapped" s__law_mapped ["deck", "most"] 4 g__law_mapped := by
  obtain ⟨f, fd, hm, U⟩ := T._law_mapped
  have S := sc__law_mapped
  refine gd_mk hm U m__law_mapped (fnD_ok (k := 3) U S l__law_mapped fun cdv A fr s H E F0 hg hr => ⟨t__law_mapped, ?_, fun ds Q h => p__law_mapped ds Q h⟩)
  exact s_cons (s_par (i := 2) (j := 3) rfl S.nd rfl rfl (by decide) rfl rfl (l_cons (d_add (d_int) (d_callG G__law_draw b__law_draw (by decide) hg hr pass0 (l_cons (d_var 0) (l_cons (d_var 1) (l_nil))))) (l_cons (d_callG G__law_hill b__law_hill (by decide) hg hr pass0 (l_cons (d_var 0) (l_cons (d_var 1) (l_nil)))) (l_nil))) (by rfl))
          (s_cons (s_if (b_cmp (op_eqQ hr.units) lk_rel (d_callG G__law_draw b__law_draw (by decide) hg hr pass0 (l_cons (d_var 0) (l_cons (d_int) (l_nil)))) (d_int) (nomark _)) (s_cons (s_asg (d_callG G__law_led b__law_led (by decide) hg hr pass0 (l_cons (d_var 0) (l_cons (d_var 3) (l_cons (d_var 2) (l_nil))))) (g_tup rfl (gs_cons (g_name (i := 4) S.nd rfl (.inl rfl)) (gs_cons (g_name (i := 5) S.nd rfl (.inl rfl)) (gs_nil)))))
          (s_one (s_ret (d_tup (l_cons (d_var 3) (l_cons (d_var 4) (l_cons (d_var 5) (l_nil)))))))) (s_nil))
          (s_cons (s_asg (d_callG G__law_leading b__law_leading (by decide) hg hr pass0 (l_cons (d_var 0) (l_cons (d_var 3) (l_cons (d_var 2) (l_nil))))) (g_tup rfl (gs_cons (g_name (i := 6) S.nd rfl (.inl rfl)) (gs_cons (g_name (i := 5) S.nd rfl (.inl rfl)) (gs_nil)))))
          (s_one (s_ret (d_tup (l_cons (d_var 6) (l_cons (d_var 3) (l_cons (d_var 5) (l_nil)))))))))
theorem gd__law_pick (T : Top K mg) (G__law_draw : Gd P w K mg base (dkZ P w aD aC aS) "_law_draw" s__law_draw ["deck", "many"] 1 g__law_draw) : Gd P w K mg base (dkZ P w aD aC aS) "_law_pick" s__law_pick ["deck", "some"] 2 g__law_pick := by
  obtain ⟨f, fd, hm, U⟩ := T._law_pick
  have S := sc__law_pick
  refine gd_mk hm U m__law_pick (fnD_ok (k := 1) U S l__law_pick fun cdv A fr s H E F0 hg hr => ⟨t__law_pick, ?_, fun ds Q h => p__law_pick ds Q h⟩)
  exact s_one (s_ret (d_item (d_var 1) (d_callG G__law_draw b__law_draw (by decide) hg hr pass0 (l_cons (d_var 0) (l_cons (d_len (l_cons (d_var 1) (l_nil)) T.z_len) (l_nil))))))
theorem gd__law_script (T : Top K mg) (G__law_draw : Gd P w K mg base (dkZ P w aD aC aS) "_law_draw" s__law_draw ["deck", "many"] 1 g__law_draw) (G__law_pick : Gd P w K mg base (dkZ P w aD aC aS) "_law_pick" s__law_pick ["deck", "some"] 2 g__law_pick) : Gd P w K mg base (dkZ P w aD aC aS) "_law_script" s__law_script ["deck", "n", "most"] 3 g__law_script := by
  obtain ⟨f, fd, hm, U⟩ := T._law_script
  have S := sc__law_script
  refine gd_mk hm U m__law_script (fnD_ok (k := 2) U S l__law_script fun cdv A fr s H E F0 hg hr => ⟨t__law_script, ?_, fun ds Q h => p__law_script ds Q h⟩)
  exact s_cons (s_par (i := 3) (j := 4) rfl S.nd rfl rfl (by decide) rfl rfl (l_cons (d_lst (l_nil)) (l_cons (d_callG G__law_draw b__law_draw (by decide) hg hr pass0 (l_cons (d_var 0) (l_cons (d_var 1) (l_nil)))) (l_nil))) (by rfl))
          (s_cons (s_for PassesOwn.never rfl (i_range1 (d_callG G__law_draw b__law_draw (by decide) hg hr pass0 (l_cons (d_var 0) (l_cons (d_add (d_var 2) (d_int)) (l_nil)))) T.z_range) (g_name (i := 5) S.nd rfl (.inl rfl)) (s_cons (s_if (b_cmp (op_gtQ hr.units) lk_rel (d_callG G__law_draw b__law_draw (by decide) hg hr pass0 (l_cons (d_var 0) (l_cons (d_int) (l_nil)))) (d_int) (nomark _)) (s_one (s_set (i := 4) S.nd rfl (.inl rfl) (d_callG G__law_draw b__law_draw (by decide) hg hr pass0 (l_cons (d_var 0) (l_cons (d_var 1) (l_nil)))))) (s_nil))
          (s_one (s_append 3 rfl (by first | exact Or.inl rfl | exact Or.inr (Or.inl rfl) | exact Or.inr (Or.inr rfl)) (d_tup (l_cons (d_callG G__law_pick b__law_pick (by decide) hg hr pass0 (l_cons (d_var 0) (l_cons (d_lst (l_cons (d_str) (l_cons (d_str) (l_nil)))) (l_nil)))) (l_cons (d_var 4) (l_nil))))))))
          (s_one (s_ret (d_tupleC (l_cons (d_var 3) (l_nil)) T.z_tuple))))
theorem gd__law_closing (T : Top K mg) : Gd P w K mg base (dkZ P w aD aC aS) "_law_closing" s__law_closing ["rows", "lot"] 1 g__law_closing := by
  obtain ⟨f, fd, hm, U⟩ := T._law_closing
  have S := sc__law_closing
  refine gd_mk hm U m__law_closing (fnD_ok (k := 0) U S l__law_closing fun cdv A fr s H E F0 hg hr => ⟨t__law_closing, ?_, fun ds Q h => p__law_closing ds Q h⟩)
  exact s_cons (s_set (i := 2) S.nd rfl (.inl rfl) (d_lst (l_nil)))
          (s_cons (s_for PassesOwn.never rfl (i_seq (d_var 1)) (g_name (i := 3) S.nd rfl (.inl rfl)) (s_one (s_extend 2 rfl (by first | exact Or.inl rfl | exact Or.inr (Or.inl rfl) | exact Or.inr (Or.inr rfl)) (d_item (d_var 0) (d_var 3)))))
          (s_one (s_ret (d_tupleC (l_cons (d_sortSetJ rfl (d_var 2) T.z_sorted T.z_set) (l_nil)) T.z_tuple))))
theorem gd_is_integer (T : Top K mg) : Gd P w K mg base (dkZ P w aD aC aS) "is_integer" s_is_integer ["thing"] 1 g_is_integer := by
  obtain ⟨f, fd, hm, U⟩ := T.is_integer
  have S := sc_is_integer
  refine gd_mk hm U m_is_integer (fnD_ok (k := 0) U S l_is_integer fun cdv A fr s H E F0 hg hr => ⟨t_is_integer, ?_, fun ds Q h => p_is_integer ds Q h⟩)
  exact s_one (s_ret (d_and (d_isi isi_int (d_var 0) T.z_isinstance T.z_int (by decide +kernel)) (d_one (d_not (d_isi isi_bool (d_var 0) T.z_isinstance T.z_bool (by decide +kernel))))))
theorem gd_is_between (T : Top K mg) (G_is_integer : Gd P w K mg base (dkZ P w aD aC aS) "is_integer" s_is_integer ["thing"] 1 g_is_integer) : Gd P w K mg base (dkZ P w aD aC aS) "is_between" s_is_between ["thing", "least", "most"] 2 g_is_between := by
  obtain ⟨f, fd, hm, U⟩ := T.is_between
  have S := sc_is_between
  refine gd_mk hm U m_is_between (fnD_ok (k := 1) U S l_is_between fun cdv A fr s H E F0 hg hr => ⟨t_is_between, ?_, fun ds Q h => p_is_between ds Q h⟩)
  exact s_one (s_ret (d_and (d_callG G_is_integer b_is_integer (by decide) hg hr pass0 (l_cons (d_var 0) (l_nil))) (d_one (d_lele hr.units (d_var 1) (d_var 0) (d_var 2)))))
theorem gd_is_pair_of (T : Top K mg) (G_is_between : Gd P w K mg base (dkZ P w aD aC aS) "is_between" s_is_between ["thing", "least", "most"] 2 g_is_between) : Gd P w K mg base (dkZ P w aD aC aS) "is_pair_of" s_is_pair_of ["n", "thing"] 3 g_is_pair_of := by
  obtain ⟨f, fd, hm, U⟩ := T.is_pair_of
  have S := sc_is_pair_of
  refine gd_mk hm U m_is_pair_of (fnD_ok (k := 2) U S l_is_pair_of fun cdv A fr s H E F0 hg hr => ⟨t_is_pair_of, ?_, fun ds Q h => p_is_pair_of ds Q h⟩)
  exact s_cons (s_if ((bw_or (b_not (b_val (d_isi isi_tuple (d_var 1) T.z_isinstance T.z_tuple (by decide +kernel)))) (bw_or1 (b_cmp (op_neQ hr.units) lk_rel (d_len (l_cons (d_var 1) (l_nil)) T.z_len) (d_int) (nomark _)))).toB) (s_one (s_ret (d_bl))) (s_nil))
          (s_one (s_ret (d_and (d_callG G_is_between b_is_between (by decide) hg hr pass0 (l_cons (d_item (d_var 1) (d_int)) (l_cons (d_int) (l_cons (d_sub (d_var 0) (d_int)) (l_nil))))) (d_and (d_callG G_is_between b_is_between (by decide) hg hr pass0 (l_cons (d_item (d_var 1) (d_int)) (l_cons (d_int) (l_cons (d_sub (d_var 0) (d_int)) (l_nil))))) (d_one (d_ne hr.units (d_item (d_var 1) (d_int)) (d_item (d_var 1) (d_int))))))))
theorem gd_is_book_value (T : Top K mg) (G_is_between : Gd P w K mg base (dkZ P w aD aC aS) "is_between" s_is_between ["thing", "least", "most"] 2 g_is_between) (G_is_pair_of : Gd P w K mg base (dkZ P w aD aC aS) "is_pair_of" s_is_pair_of ["n", "thing"] 3 g_is_pair_of) : Gd P w K mg base (dkZ P w aD aC aS) "is_book_value" s_is_book_value ["thing"] 4 g_is_book_value := by
  obtain ⟨f, fd, hm, U⟩ := T.is_book_value
  have S := sc_is_book_value
  refine gd_mk hm U m_is_book_value (fnD_ok (k := 3) U S l_is_book_value fun cdv A fr s H E F0 hg hr => ⟨t_is_book_value, ?_, fun ds Q h => p_is_book_value ds Q h⟩)
  exact s_cons (s_if ((bw_or (b_not (b_val (d_isi isi_tuple (d_var 0) T.z_isinstance T.z_tuple (by decide +kernel)))) (bw_or (b_cmp (op_neQ hr.units) lk_rel (d_len (l_cons (d_var 0) (l_nil)) T.z_len) (d_int) (nomark _)) (bw_or1 (b_not (b_val (d_callG G_is_between b_is_between (by decide) hg hr pass0 (l_cons (d_item (d_var 0) (d_int)) (l_cons (d_int) (l_cons (d_glob (v := .int 10) (d := .int 10) (by rfl) T.c_MOST_TERRACES.choose_spec ⟨_, rfl⟩ (fun _ _ => .int _)) (l_nil)))))))))).toB) (s_one (s_ret (d_bl))) (s_nil))
          (s_cons (s_if ((bw_or (b_not (b_val (d_isi isi_tuple (d_item (d_var 0) (d_int)) T.z_isinstance T.z_tuple (by decide +kernel)))) (bw_or1 (b_not (b_val (d_all rfl (l_cons (d_lc (own := [("pair", 1)]) rfl S.nd (i_seqQ (d_item (d_var 0) (d_int))) (blkOk_by (N := ["thing", "pair", "one", "other"]) (sc := defScope s_is_book_value) (by decide +kernel)) (by decide) (fun _ _ _ _ _ => g_name (i := 1) S.nd rfl (.inl rfl)) (fun _ _ _ _ _ => ts_nil) (fun _ _ _ _ _ => d_callG G_is_pair_of b_is_pair_of (by decide) hg hr pass0 (l_cons (d_item (d_var 0) (d_int)) (l_cons (d_var 1) (l_nil))))) (l_nil)) T.z_all))))).toB) (s_one (s_ret (d_bl))) (s_nil))
          (s_one (s_ret (d_all rfl (l_cons (d_lc (own := [("one", 2), ("other", 3)]) rfl S.nd (i_zip (l_cons (d_item (d_var 0) (d_int)) (l_cons (d_slice (d_item (d_var 0) (d_int)) (o_some (d_int)) (o_none)) (l_nil))) T.z_zip) (blkOk_by (N := ["thing", "pair", "one", "other"]) (sc := defScope s_is_book_value) (by decide +kernel)) (by decide) (fun _ _ _ _ _ => g_tup rfl (gs_cons (g_name (i := 2) S.nd rfl (.inl rfl)) (gs_cons (g_name (i := 3) S.nd rfl (.inl rfl)) (gs_nil)))) (fun _ _ _ _ _ => ts_nil) (fun _ _ _ _ _ => d_lt hr.units (d_var 2) (d_var 3))) (l_nil)) T.z_all))))
theorem gd_lows (T : Top K mg) : Gd P w K mg base (dkZ P w aD aC aS) "lows" s_lows ["hill"] 1 g_lows := by
  obtain ⟨f, fd, hm, U⟩ := T.lows
  have S := sc_lows
  refine gd_mk hm U m_lows (fnD_ok (k := 0) U S l_lows fun cdv A fr s H E F0 hg hr => ⟨t_lows, ?_, fun ds Q h => p_lows ds Q h⟩)
  exact s_cons (s_setLc (i := 1) (own := [("x", 4)]) rfl S.nd rfl rfl (sw_true rfl rfl rfl (by decide +kernel)) (i_range1 (d_item (d_var 0) (d_int)) T.z_range) (blkOk_by (N := ["hill", "found", "a", "b", "x"]) (sc := defScope s_lows) (by decide +kernel)) (by decide) (fun _ _ _ _ _ => g_name (i := 4) S.nd rfl (.inl rfl)) (fun _ _ _ _ _ => ts_nil) (fun _ _ _ _ _ => d_shl (d_int) (d_var 4)))
          (s_cons (s_for PassesOwn.never rfl (i_seq (d_item (d_var 0) (d_int))) (g_tup rfl (gs_cons (g_name (i := 2) S.nd rfl (.inl rfl)) (gs_cons (g_name (i := 3) S.nd rfl (.inl rfl)) (gs_nil)))) (s_one (s_setIx 1 rfl (by first | exact Or.inl rfl | exact Or.inr (Or.inl rfl)) (d_var 3) (d_bor (d_item (d_var 1) (d_var 3)) (d_shl (d_int) (d_var 2))))))
          (s_one (s_retV 1)))
theorem gd_hill_of_lows (T : Top K mg) : Gd P w K mg base (dkZ P w aD aC aS) "hill_of_lows" s_hill_of_lows ["found"] 1 g_hill_of_lows := by
  obtain ⟨f, fd, hm, U⟩ := T.hill_of_lows
  have S := sc_hill_of_lows
  refine gd_mk hm U m_hill_of_lows (fnD_ok (k := 0) U S l_hill_of_lows fun cdv A fr s H E F0 hg hr => ⟨t_hill_of_lows, ?_, fun ds Q h => p_hill_of_lows ds Q h⟩)
  exact s_cons (s_set (i := 1) S.nd rfl (.inr rfl) (d_len (l_cons (d_var 0) (l_nil)) T.z_len))
          (s_cons (s_setLc2 (i := 2) (own := [("a", 3), ("b", 4)]) (vs1 := [4]) rfl S.nd rfl rfl (sw_true rfl rfl rfl (by decide +kernel)) (i_range1 (d_var 1) T.z_range) (blkOk_by (N := ["found", "n", "pairs", "a", "b"]) (sc := defScope s_hill_of_lows) (by decide +kernel)) (by decide) (by decide) (by decide) (fun _ _ _ _ _ => g_name (i := 3) S.nd rfl (.inl rfl)) (fun _ _ _ _ _ => ts_nil) (fun _ _ _ _ _ => i_range1 (d_var 1) T.z_range) (fun _ _ _ _ _ => g_name (i := 4) S.nd rfl (.inl rfl)) (fun _ _ _ _ _ => ts_one ((bw_and (b_cmp (op_neQ hr.units) lk_rel (d_var 3) (d_var 4) (nomark _)) (bw_and1 (b_cmp (op_eqQ hr.units) lk_rel (d_band (d_shr (d_item (d_var 0) (d_var 4)) (d_var 3)) (d_int)) (d_int) (nomark _)))).toB)) (fun _ _ _ _ _ => d_tup (l_cons (d_var 3) (l_cons (d_var 4) (l_nil)))))
          (s_one (s_ret (d_tup (l_cons (d_var 1) (l_cons (d_tupleC (l_cons (d_var 2) (l_nil)) T.z_tuple) (l_nil)))))))
theorem gd_closing_of (T : Top K mg) (G_lows : Gd P w K mg base (dkZ P w aD aC aS) "lows" s_lows ["hill"] 1 g_lows) (G_hill_of_lows : Gd P w K mg base (dkZ P w aD aC aS) "hill_of_lows" s_hill_of_lows ["found"] 1 g_hill_of_lows) : Gd P w K mg base (dkZ P w aD aC aS) "closing_of" s_closing_of ["book"] 2 g_closing_of := by
  obtain ⟨f, fd, hm, U⟩ := T.closing_of
  have S := sc_closing_of
  refine gd_mk hm U m_closing_of (fnD_ok (k := 1) U S l_closing_of fun cdv A fr s H E F0 hg hr => ⟨t_closing_of, ?_, fun ds Q h => p_closing_of ds Q h⟩)
  exact s_cons (s_set (i := 1) S.nd rfl (.inl rfl) (d_callG G_lows b_lows (by decide) hg hr pass0 (l_cons (d_var 0) (l_nil))))
          (s_cons (s_for PassesOwn.never rfl (i_range1 (d_item (d_var 0) (d_int)) T.z_range) (g_name (i := 2) S.nd rfl (.inl rfl)) (s_one (s_for PassesOwn.never rfl (i_range1 (d_item (d_var 0) (d_int)) T.z_range) (g_name (i := 3) S.nd rfl (.inl rfl)) (s_one (s_if (b_cmp (op_eqQ hr.units) lk_rel (d_band (d_shr (d_item (d_var 1) (d_var 3)) (d_var 2)) (d_int)) (d_int) (nomark _)) (s_one (s_setIx 1 rfl (by first | exact Or.inl rfl | exact Or.inr (Or.inl rfl)) (d_var 3) (d_bor (d_item (d_var 1) (d_var 3)) (d_item (d_var 1) (d_var 2))))) (s_nil))))))
          (s_frz 1 (s_one (s_ret (d_callG G_hill_of_lows b_hill_of_lows (by decide) hg hr pass0 (l_cons (d_var 1) (l_nil)))))))
theorem gd_is_hill_value (T : Top K mg) (G_is_book_value : Gd P w K mg base (dkZ P w aD aC aS) "is_book_value" s_is_book_value ["thing"] 4 g_is_book_value) (G_closing_of : Gd P w K mg base (dkZ P w aD aC aS) "closing_of" s_closing_of ["book"] 2 g_closing_of) : Gd P w K mg base (dkZ P w aD aC aS) "is_hill_value" s_is_hill_value ["thing"] 5 g_is_hill_value := by
  obtain ⟨f, fd, hm, U⟩ := T.is_hill_value
  have S := sc_is_hill_value
  refine gd_mk hm U m_is_hill_value (fnD_ok (k := 4) U S l_is_hill_value fun cdv A fr s H E F0 hg hr => ⟨t_is_hill_value, ?_, fun ds Q h => p_is_hill_value ds Q h⟩)
  exact s_one (s_ret (d_and (d_callG G_is_book_value b_is_book_value (by decide) hg hr pass0 (l_cons (d_var 0) (l_nil))) (d_one (d_eq hr.units (d_callG G_closing_of b_closing_of (by decide) hg hr pass0 (l_cons (d_var 0) (l_nil))) (d_var 0)))))
theorem gd_need_hill (T : Top K mg) (G_is_hill_value : Gd P w K mg base (dkZ P w aD aC aS) "is_hill_value" s_is_hill_value ["thing"] 5 g_is_hill_value) : Gd P w K mg base (dkZ P w aD aC aS) "need_hill" s_need_hill ["hill"] 6 g_need_hill := by
  obtain ⟨f, fd, hm, U⟩ := T.need_hill
  have S := sc_need_hill
  refine gd_mk hm U m_need_hill (fnD_ok (k := 5) U S l_need_hill fun cdv A fr s H E F0 hg hr => ⟨t_need_hill, ?_, fun ds Q h => p_need_hill ds Q h⟩)
  exact s_one (s_if (b_not (b_val (d_callG G_is_hill_value b_is_hill_value (by decide) hg hr pass0 (l_cons (d_var 0) (l_nil))))) (s_one (s_never)) (s_nil))
theorem gd_need_hills (T : Top K mg) (G_need_hill : Gd P w K mg base (dkZ P w aD aC aS) "need_hill" s_need_hill ["hill"] 6 g_need_hill) : Gd P w K mg base (dkZ P w aD aC aS) "need_hills" s_need_hills ["one", "other"] 7 g_need_hills := by
  obtain ⟨f, fd, hm, U⟩ := T.need_hills
  have S := sc_need_hills
  refine gd_mk hm U m_need_hills (fnD_ok (k := 6) U S l_need_hills fun cdv A fr s H E F0 hg hr => ⟨t_need_hills, ?_, fun ds Q h => p_need_hills ds Q h⟩)
  exact s_cons (s_expr (d_callG G_need_hill b_need_hill (by decide) hg hr pass0 (l_cons (d_var 0) (l_nil))))
          (s_one (s_expr (d_callG G_need_hill b_need_hill (by decide) hg hr pass0 (l_cons (d_var 1) (l_nil)))))
theorem gd_is_map_value (T : Top K mg) (G_is_between : Gd P w K mg base (dkZ P w aD aC aS) "is_between" s_is_between ["thing", "least", "most"] 2 g_is_between) (G_lows : Gd P w K mg base (dkZ P w aD aC aS) "lows" s_lows ["hill"] 1 g_lows) : Gd P w K mg base (dkZ P w aD aC aS) "is_map_value" s_is_map_value ["one", "other", "thing"] 3 g_is_map_value := by
  obtain ⟨f, fd, hm, U⟩ := T.is_map_value
  have S := sc_is_map_value
  refine gd_mk hm U m_is_map_value (fnD_ok (k := 2) U S l_is_map_value fun cdv A fr s H E F0 hg hr => ⟨t_is_map_value, ?_, fun ds Q h => p_is_map_value ds Q h⟩)
  exact s_cons (s_if ((bw_or (b_not (b_val (d_isi isi_tuple (d_var 2) T.z_isinstance T.z_tuple (by decide +kernel)))) (bw_or1 (b_cmp (op_neQ hr.units) lk_rel (d_len (l_cons (d_var 2) (l_nil)) T.z_len) (d_item (d_var 0) (d_int)) (nomark _)))).toB) (s_one (s_ret (d_bl))) (s_nil))
          (s_cons (s_if (b_not (b_val (d_all rfl (l_cons (d_lc (own := [("place", 4)]) rfl S.nd (i_seqQ (d_var 2)) (blkOk_by (N := ["one", "other", "thing", "below", "place", "a", "b"]) (sc := defScope s_is_map_value) (by decide +kernel)) (by decide) (fun _ _ _ _ _ => g_name (i := 4) S.nd rfl (.inl rfl)) (fun _ _ _ _ _ => ts_nil) (fun _ _ _ _ _ => d_callG G_is_between b_is_between (by decide) hg hr pass0 (l_cons (d_var 4) (l_cons (d_int) (l_cons (d_sub (d_item (d_var 1) (d_int)) (d_int)) (l_nil)))))) (l_nil)) T.z_all))) (s_one (s_ret (d_bl))) (s_nil))
          (s_cons (s_set (i := 3) S.nd rfl (.inr rfl) (d_callG G_lows b_lows (by decide) hg hr pass0 (l_cons (d_var 1) (l_nil))))
          (s_one (s_ret (d_all rfl (l_cons (d_lc (own := [("a", 5), ("b", 6)]) rfl S.nd (i_seqQ (d_item (d_var 0) (d_int))) (blkOk_by (N := ["one", "other", "thing", "below", "place", "a", "b"]) (sc := defScope s_is_map_value) (by decide +kernel)) (by decide) (fun _ _ _ _ _ => g_tup rfl (gs_cons (g_name (i := 5) S.nd rfl (.inl rfl)) (gs_cons (g_name (i := 6) S.nd rfl (.inl rfl)) (gs_nil)))) (fun _ _ _ _ _ => ts_nil) (fun _ _ _ _ _ => d_eq hr.units (d_band (d_shr (d_item (d_var 3) (d_item (d_var 2) (d_var 6))) (d_item (d_var 2) (d_var 5))) (d_int)) (d_int))) (l_nil)) T.z_all)))))
theorem gd_need_map (T : Top K mg) (G_need_hills : Gd P w K mg base (dkZ P w aD aC aS) "need_hills" s_need_hills ["one", "other"] 7 g_need_hills) (G_is_map_value : Gd P w K mg base (dkZ P w aD aC aS) "is_map_value" s_is_map_value ["one", "other", "thing"] 3 g_is_map_value) : Gd P w K mg base (dkZ P w aD aC aS) "need_map" s_need_map ["one", "other", "places"] 8 g_need_map := by
  obtain ⟨f, fd, hm, U⟩ := T.need_map
  have S := sc_need_map
  refine gd_mk hm U m_need_map (fnD_ok (k := 7) U S l_need_map fun cdv A fr s H E F0 hg hr => ⟨t_need_map, ?_, fun ds Q h => p_need_map ds Q h⟩)
  exact s_cons (s_expr (d_callG G_need_hills b_need_hills (by decide) hg hr pass0 (l_cons (d_var 0) (l_cons (d_var 1) (l_nil)))))
          (s_one (s_if (b_not (b_val (d_callG G_is_map_value b_is_map_value (by decide) hg hr pass0 (l_cons (d_var 0) (l_cons (d_var 1) (l_cons (d_var 2) (l_nil))))))) (s_one (s_never)) (s_nil)))
theorem gd_is_lot_value (T : Top K mg) (G_is_between : Gd P w K mg base (dkZ P w aD aC aS) "is_between" s_is_between ["thing", "least", "most"] 2 g_is_between) : Gd P w K mg base (dkZ P w aD aC aS) "is_lot_value" s_is_lot_value ["hill", "thing"] 3 g_is_lot_value := by
  obtain ⟨f, fd, hm, U⟩ := T.is_lot_value
  have S := sc_is_lot_value
  refine gd_mk hm U m_is_lot_value (fnD_ok (k := 2) U S l_is_lot_value fun cdv A fr s H E F0 hg hr => ⟨t_is_lot_value, ?_, fun ds Q h => p_is_lot_value ds Q h⟩)
  exact s_cons (s_if ((bw_or (b_not (b_val (d_isi isi_tuple (d_var 1) T.z_isinstance T.z_tuple (by decide +kernel)))) (bw_or1 (b_not (b_val (d_all rfl (l_cons (d_lc (own := [("x", 2)]) rfl S.nd (i_seqQ (d_var 1)) (blkOk_by (N := ["hill", "thing", "x", "one", "other"]) (sc := defScope s_is_lot_value) (by decide +kernel)) (by decide) (fun _ _ _ _ _ => g_name (i := 2) S.nd rfl (.inl rfl)) (fun _ _ _ _ _ => ts_nil) (fun _ _ _ _ _ => d_callG G_is_between b_is_between (by decide) hg hr pass0 (l_cons (d_var 2) (l_cons (d_int) (l_cons (d_sub (d_item (d_var 0) (d_int)) (d_int)) (l_nil)))))) (l_nil)) T.z_all))))).toB) (s_one (s_ret (d_bl))) (s_nil))
          (s_one (s_ret (d_all rfl (l_cons (d_lc (own := [("one", 3), ("other", 4)]) rfl S.nd (i_zip (l_cons (d_var 1) (l_cons (d_slice (d_var 1) (o_some (d_int)) (o_none)) (l_nil))) T.z_zip) (blkOk_by (N := ["hill", "thing", "x", "one", "other"]) (sc := defScope s_is_lot_value) (by decide +kernel)) (by decide) (fun _ _ _ _ _ => g_tup rfl (gs_cons (g_name (i := 3) S.nd rfl (.inl rfl)) (gs_cons (g_name (i := 4) S.nd rfl (.inl rfl)) (gs_nil)))) (fun _ _ _ _ _ => ts_nil) (fun _ _ _ _ _ => d_lt hr.units (d_var 3) (d_var 4))) (l_nil)) T.z_all)))
theorem gd_lot_of (T : Top K mg) : Gd P w K mg base (dkZ P w aD aC aS) "lot_of" s_lot_of ["mask"] 1 g_lot_of := by
  obtain ⟨f, fd, hm, U⟩ := T.lot_of
  have S := sc_lot_of
  refine gd_mk hm U m_lot_of (fnD_ok (k := 0) U S l_lot_of fun cdv A fr s H E F0 hg hr => ⟨t_lot_of, ?_, fun ds Q h => p_lot_of ds Q h⟩)
  exact s_one (s_ret (d_tupleC (l_cons (d_lc (own := [("x", 1)]) rfl S.nd (i_range1 (d_bits (d_var 0)) T.z_range) (blkOk_by (N := ["mask", "x"]) (sc := defScope s_lot_of) (by decide +kernel)) (by decide) (fun _ _ _ _ _ => g_name (i := 1) S.nd rfl (.inl rfl)) (fun _ _ _ _ _ => ts_one (b_cmp (op_eqQ hr.units) lk_rel (d_band (d_shr (d_var 0) (d_var 1)) (d_int)) (d_int) (nomark _))) (fun _ _ _ _ _ => d_var 1)) (l_nil)) T.z_tuple))
theorem gd_closed_mask (T : Top K mg) (G_lot_of : Gd P w K mg base (dkZ P w aD aC aS) "lot_of" s_lot_of ["mask"] 1 g_lot_of) : Gd P w K mg base (dkZ P w aD aC aS) "closed_mask" s_closed_mask ["masks", "mask"] 2 g_closed_mask := by
  obtain ⟨f, fd, hm, U⟩ := T.closed_mask
  have S := sc_closed_mask
  refine gd_mk hm U m_closed_mask (fnD_ok (k := 1) U S l_closed_mask fun cdv A fr s H E F0 hg hr => ⟨t_closed_mask, ?_, fun ds Q h => p_closed_mask ds Q h⟩)
  exact s_cons (s_set (i := 2) S.nd rfl (.inl rfl) (d_int))
          (s_cons (s_for PassesOwn.never rfl (i_seq (d_callG G_lot_of b_lot_of (by decide) hg hr pass0 (l_cons (d_var 1) (l_nil)))) (g_name (i := 3) S.nd rfl (.inl rfl)) (s_one (s_set (i := 2) S.nd rfl (.inl rfl) (d_bor (d_var 2) (d_item (d_var 0) (d_var 3))))))
          (s_one (s_retV 2)))
theorem gd_lower_mask (T : Top K mg) (G_closed_mask : Gd P w K mg base (dkZ P w aD aC aS) "closed_mask" s_closed_mask ["masks", "mask"] 2 g_closed_mask) (G_lows : Gd P w K mg base (dkZ P w aD aC aS) "lows" s_lows ["hill"] 1 g_lows) : Gd P w K mg base (dkZ P w aD aC aS) "lower_mask" s_lower_mask ["hill", "mask"] 3 g_lower_mask := by
  obtain ⟨f, fd, hm, U⟩ := T.lower_mask
  have S := sc_lower_mask
  refine gd_mk hm U m_lower_mask (fnD_ok (k := 2) U S l_lower_mask fun cdv A fr s H E F0 hg hr => ⟨t_lower_mask, ?_, fun ds Q h => p_lower_mask ds Q h⟩)
  exact s_one (s_ret (d_callG G_closed_mask b_closed_mask (by decide) hg hr pass0 (l_cons (d_callG G_lows b_lows (by decide) hg hr pass0 (l_cons (d_var 0) (l_nil))) (l_cons (d_var 1) (l_nil)))))
theorem gd_mask_of (T : Top K mg) : Gd P w K mg base (dkZ P w aD aC aS) "mask_of" s_mask_of ["lot"] 1 g_mask_of := by
  obtain ⟨f, fd, hm, U⟩ := T.mask_of
  have S := sc_mask_of
  refine gd_mk hm U m_mask_of (fnD_ok (k := 0) U S l_mask_of fun cdv A fr s H E F0 hg hr => ⟨t_mask_of, ?_, fun ds Q h => p_mask_of ds Q h⟩)
  exact s_cons (s_set (i := 1) S.nd rfl (.inl rfl) (d_int))
          (s_cons (s_for PassesOwn.never rfl (i_seq (d_var 0)) (g_name (i := 2) S.nd rfl (.inl rfl)) (s_one (s_set (i := 1) S.nd rfl (.inl rfl) (d_bor (d_var 1) (d_shl (d_int) (d_var 2))))))
          (s_one (s_retV 1)))
theorem gd_is_lower_value (T : Top K mg) (G_is_lot_value : Gd P w K mg base (dkZ P w aD aC aS) "is_lot_value" s_is_lot_value ["hill", "thing"] 3 g_is_lot_value) (G_lower_mask : Gd P w K mg base (dkZ P w aD aC aS) "lower_mask" s_lower_mask ["hill", "mask"] 3 g_lower_mask) (G_mask_of : Gd P w K mg base (dkZ P w aD aC aS) "mask_of" s_mask_of ["lot"] 1 g_mask_of) : Gd P w K mg base (dkZ P w aD aC aS) "is_lower_value" s_is_lower_value ["hill", "thing"] 4 g_is_lower_value := by
  obtain ⟨f, fd, hm, U⟩ := T.is_lower_value
  have S := sc_is_lower_value
  refine gd_mk hm U m_is_lower_value (fnD_ok (k := 3) U S l_is_lower_value fun cdv A fr s H E F0 hg hr => ⟨t_is_lower_value, ?_, fun ds Q h => p_is_lower_value ds Q h⟩)
  exact s_one (s_ret (d_and (d_callG G_is_lot_value b_is_lot_value (by decide) hg hr pass0 (l_cons (d_var 0) (l_cons (d_var 1) (l_nil)))) (d_one (d_eq hr.units (d_callG G_lower_mask b_lower_mask (by decide) hg hr pass0 (l_cons (d_var 0) (l_cons (d_callG G_mask_of b_mask_of (by decide) hg hr pass0 (l_cons (d_var 1) (l_nil))) (l_nil)))) (d_callG G_mask_of b_mask_of (by decide) hg hr pass0 (l_cons (d_var 1) (l_nil)))))))
theorem gd_need_water_maps (T : Top K mg) (G_is_lower_value : Gd P w K mg base (dkZ P w aD aC aS) "is_lower_value" s_is_lower_value ["hill", "thing"] 4 g_is_lower_value) : GdA P w K mg base (dkZ P w aD aC aS) "need_water_maps" "need_water" s_need_water_maps ["hill", "water"] 5 g_need_water_maps := by
  obtain ⟨f, fd, hm, U⟩ := T.need_water_maps
  have S := sc_need_water_maps
  refine gdA_mk hm U m_need_water_maps (fnD_ok (k := 4) U S l_need_water_maps fun cdv A fr s H E F0 hg hr => ⟨t_need_water_maps, ?_, fun ds Q h => p_need_water_maps ds Q h⟩)
  exact s_one (s_if (b_not (b_val (d_callG G_is_lower_value b_is_lower_value (by decide) hg hr pass0 (l_cons (d_var 0) (l_cons (d_var 1) (l_nil)))))) (s_one (s_never)) (s_nil))
theorem gd_carried_mask (T : Top K mg) (G_mask_of : Gd P w K mg base (dkZ P w aD aC aS) "mask_of" s_mask_of ["lot"] 1 g_mask_of) : Gd P w K mg base (dkZ P w aD aC aS) "carried_mask" s_carried_mask ["places", "mask"] 2 g_carried_mask := by
  obtain ⟨f, fd, hm, U⟩ := T.carried_mask
  have S := sc_carried_mask
  refine gd_mk hm U m_carried_mask (fnD_ok (k := 1) U S l_carried_mask fun cdv A fr s H E F0 hg hr => ⟨t_carried_mask, ?_, fun ds Q h => p_carried_mask ds Q h⟩)
  exact s_one (s_ret (d_callG G_mask_of b_mask_of (by decide) hg hr pass0 (l_cons (d_lc (own := [("terrace", 2), ("place", 3)]) rfl S.nd (i_enum (d_var 0) T.z_enumerate) (blkOk_by (N := ["places", "mask", "terrace", "place"]) (sc := defScope s_carried_mask) (by decide +kernel)) (by decide) (fun _ _ _ _ _ => g_tup rfl (gs_cons (g_name (i := 2) S.nd rfl (.inl rfl)) (gs_cons (g_name (i := 3) S.nd rfl (.inl rfl)) (gs_nil)))) (fun _ _ _ _ _ => ts_one (b_cmp (op_eqQ hr.units) lk_rel (d_band (d_shr (d_var 1) (d_var 3)) (d_int)) (d_int) (nomark _))) (fun _ _ _ _ _ => d_var 2)) (l_nil))))
theorem gd_carried_water (T : Top K mg) (G_need_map : Gd P w K mg base (dkZ P w aD aC aS) "need_map" s_need_map ["one", "other", "places"] 8 g_need_map) (G_need_water_maps : GdA P w K mg base (dkZ P w aD aC aS) "need_water_maps" "need_water" s_need_water_maps ["hill", "water"] 5 g_need_water_maps) (G_lot_of : Gd P w K mg base (dkZ P w aD aC aS) "lot_of" s_lot_of ["mask"] 1 g_lot_of) (G_carried_mask : Gd P w K mg base (dkZ P w aD aC aS) "carried_mask" s_carried_mask ["places", "mask"] 2 g_carried_mask) (G_mask_of : Gd P w K mg base (dkZ P w aD aC aS) "mask_of" s_mask_of ["lot"] 1 g_mask_of) : Gd P w K mg base (dkZ P w aD aC aS) "carried_water" s_carried_water ["one", "other", "places", "water"] 9 g_carried_water := by
  obtain ⟨f, fd, hm, U⟩ := T.carried_water
  have S := sc_carried_water
  refine gd_mk hm U m_carried_water (fnD_ok (k := 8) U S l_carried_water fun cdv A fr s H E F0 hg hr => ⟨t_carried_water, ?_, fun ds Q h => p_carried_water ds Q h⟩)
  exact s_cons (s_expr (d_callG G_need_map b_need_map (by decide) hg hr pass0 (l_cons (d_var 0) (l_cons (d_var 1) (l_cons (d_var 2) (l_nil))))))
          (s_cons (s_expr (d_callA G_need_water_maps b_need_water_maps (by decide) hg hr pass0 (l_cons (d_var 1) (l_cons (d_var 3) (l_nil)))))
          (s_one (s_ret (d_callG G_lot_of b_lot_of (by decide) hg hr pass0 (l_cons (d_callG G_carried_mask b_carried_mask (by decide) hg hr pass0 (l_cons (d_var 2) (l_cons (d_callG G_mask_of b_mask_of (by decide) hg hr pass0 (l_cons (d_var 3) (l_nil))) (l_nil)))) (l_nil))))))
theorem gd_is_deed_value (T : Top K mg) (G_is_between : Gd P w K mg base (dkZ P w aD aC aS) "is_between" s_is_between ["thing", "least", "most"] 2 g_is_between) : Gd P w K mg base (dkZ P w aD aC aS) "is_deed_value" s_is_deed_value ["n", "thing"] 3 g_is_deed_value := by
  obtain ⟨f, fd, hm, U⟩ := T.is_deed_value
  have S := sc_is_deed_value
  refine gd_mk hm U m_is_deed_value (fnD_ok (k := 2) U S l_is_deed_value fun cdv A fr s H E F0 hg hr => ⟨t_is_deed_value, ?_, fun ds Q h => p_is_deed_value ds Q h⟩)
  exact s_cons (s_if ((bw_or (b_not (b_val (d_isi isi_tuple (d_var 1) T.z_isinstance T.z_tuple (by decide +kernel)))) (bw_or (b_cmp (op_neQ hr.units) lk_rel (d_len (l_cons (d_var 1) (l_nil)) T.z_len) (d_int) (nomark _)) (bw_or1 (b_not (b_val (d_isi isi_str (d_item (d_var 1) (d_int)) T.z_isinstance T.z_str (by decide +kernel))))))).toB) (s_one (s_ret (d_bl))) (s_nil))
          (s_one (s_ret (d_and (d_in hr.units (d_item (d_var 1) (d_int)) (d_glob (v := .ref T.c_WORDS.choose) (d := .tuple [.str "pour", .str "open"]) (by rfl) T.c_WORDS.choose_spec.1 rfl (fun _ _ => .tup (T.c_WORDS.choose_spec.2 _) (.cons (.str _) (.cons (.str _) (.nil)))))) (d_one (d_callG G_is_between b_is_between (by decide) hg hr pass0 (l_cons (d_item (d_var 1) (d_int)) (l_cons (d_int) (l_cons (d_sub (d_var 0) (d_int)) (l_nil)))))))))
theorem gd_is_script_value (T : Top K mg) (G_is_deed_value : Gd P w K mg base (dkZ P w aD aC aS) "is_deed_value" s_is_deed_value ["n", "thing"] 3 g_is_deed_value) : Gd P w K mg base (dkZ P w aD aC aS) "is_script_value" s_is_script_value ["n", "thing"] 4 g_is_script_value := by
  obtain ⟨f, fd, hm, U⟩ := T.is_script_value
  have S := sc_is_script_value
  refine gd_mk hm U m_is_script_value (fnD_ok (k := 3) U S l_is_script_value fun cdv A fr s H E F0 hg hr => ⟨t_is_script_value, ?_, fun ds Q h => p_is_script_value ds Q h⟩)
  exact s_one (s_ret (d_and (d_isi isi_tuple (d_var 1) T.z_isinstance T.z_tuple (by decide +kernel)) (d_one (d_all rfl (l_cons (d_lc (own := [("deed", 2)]) rfl S.nd (i_seqQ (d_var 1)) (blkOk_by (N := ["n", "thing", "deed"]) (sc := defScope s_is_script_value) (by decide +kernel)) (by decide) (fun _ _ _ _ _ => g_name (i := 2) S.nd rfl (.inl rfl)) (fun _ _ _ _ _ => ts_nil) (fun _ _ _ _ _ => d_callG G_is_deed_value b_is_deed_value (by decide) hg hr pass0 (l_cons (d_var 0) (l_cons (d_var 2) (l_nil))))) (l_nil)) T.z_all))))
theorem gd_highs (T : Top K mg) : Gd P w K mg base (dkZ P w aD aC aS) "highs" s_highs ["hill"] 1 g_highs := by
  obtain ⟨f, fd, hm, U⟩ := T.highs
  have S := sc_highs
  refine gd_mk hm U m_highs (fnD_ok (k := 0) U S l_highs fun cdv A fr s H E F0 hg hr => ⟨t_highs, ?_, fun ds Q h => p_highs ds Q h⟩)
  exact s_cons (s_setLc (i := 1) (own := [("x", 4)]) rfl S.nd rfl rfl (sw_true rfl rfl rfl (by decide +kernel)) (i_range1 (d_item (d_var 0) (d_int)) T.z_range) (blkOk_by (N := ["hill", "found", "a", "b", "x"]) (sc := defScope s_highs) (by decide +kernel)) (by decide) (fun _ _ _ _ _ => g_name (i := 4) S.nd rfl (.inl rfl)) (fun _ _ _ _ _ => ts_nil) (fun _ _ _ _ _ => d_shl (d_int) (d_var 4)))
          (s_cons (s_for PassesOwn.never rfl (i_seq (d_item (d_var 0) (d_int))) (g_tup rfl (gs_cons (g_name (i := 2) S.nd rfl (.inl rfl)) (gs_cons (g_name (i := 3) S.nd rfl (.inl rfl)) (gs_nil)))) (s_one (s_setIx 1 rfl (by first | exact Or.inl rfl | exact Or.inr (Or.inl rfl)) (d_var 2) (d_bor (d_item (d_var 1) (d_var 2)) (d_shl (d_int) (d_var 3))))))
          (s_one (s_retV 1)))
theorem gd_reaches (T : Top K mg) (G_lows : Gd P w K mg base (dkZ P w aD aC aS) "lows" s_lows ["hill"] 1 g_lows) (G_highs : Gd P w K mg base (dkZ P w aD aC aS) "highs" s_highs ["hill"] 1 g_highs) : Gd P w K mg base (dkZ P w aD aC aS) "reaches" s_reaches ["hill", "script"] 2 g_reaches := by
  obtain ⟨f, fd, hm, U⟩ := T.reaches
  have S := sc_reaches
  refine gd_mk hm U m_reaches (fnD_ok (k := 1) U S l_reaches fun cdv A fr s H E F0 hg hr => ⟨t_reaches, ?_, fun ds Q h => p_reaches ds Q h⟩)
  exact s_cons (s_unpack (is := [2, 3]) rfl (n_cons S.nd rfl (.inr rfl) (n_cons S.nd rfl (.inr rfl) (n_nil))) (l_cons (d_callG G_lows b_lows (by decide) hg hr pass0 (l_cons (d_var 0) (l_nil))) (l_cons (d_callG G_highs b_highs (by decide) hg hr pass0 (l_cons (d_var 0) (l_nil))) (l_nil))))
          (s_one (s_ret (d_lc (own := [("word", 4), ("x", 5)]) rfl S.nd (i_seqQ (d_var 1)) (blkOk_by (N := ["hill", "script", "below", "above", "word", "x"]) (sc := defScope s_reaches) (by decide +kernel)) (by decide) (fun _ _ _ _ _ => g_tup rfl (gs_cons (g_name (i := 4) S.nd rfl (.inl rfl)) (gs_cons (g_name (i := 5) S.nd rfl (.inl rfl)) (gs_nil)))) (fun _ _ _ _ _ => ts_nil) (fun _ _ _ _ _ => d_ifExp (b_cmp (op_eqQ hr.units) lk_rel (d_var 4) (d_str) (nomark _)) (d_item (d_var 2) (d_var 5)) (d_item (d_var 3) (d_var 5))))))
theorem gd_reach_mask (T : Top K mg) (G_reaches : Gd P w K mg base (dkZ P w aD aC aS) "reaches" s_reaches ["hill", "script"] 2 g_reaches) : Gd P w K mg base (dkZ P w aD aC aS) "reach_mask" s_reach_mask ["hill", "deed"] 3 g_reach_mask := by
  obtain ⟨f, fd, hm, U⟩ := T.reach_mask
  have S := sc_reach_mask
  refine gd_mk hm U m_reach_mask (fnD_ok (k := 2) U S l_reach_mask fun cdv A fr s H E F0 hg hr => ⟨t_reach_mask, ?_, fun ds Q h => p_reach_mask ds Q h⟩)
  exact s_one (s_ret (d_item (d_callG G_reaches b_reaches (by decide) hg hr pass0 (l_cons (d_var 0) (l_cons (d_tup (l_cons (d_var 1) (l_nil))) (l_nil)))) (d_int)))
theorem gd_ends_of (T : Top K mg) (G_lot_of : Gd P w K mg base (dkZ P w aD aC aS) "lot_of" s_lot_of ["mask"] 1 g_lot_of) : Gd P w K mg base (dkZ P w aD aC aS) "ends_of" s_ends_of ["beyond", "behind", "mask"] 2 g_ends_of := by
  obtain ⟨f, fd, hm, U⟩ := T.ends_of
  have S := sc_ends_of
  refine gd_mk hm U m_ends_of (fnD_ok (k := 1) U S l_ends_of fun cdv A fr s H E F0 hg hr => ⟨t_ends_of, ?_, fun ds Q h => p_ends_of ds Q h⟩)
  exact s_cons (s_set (i := 3) S.nd rfl (.inl rfl) (d_lst (l_nil)))
          (s_cons (s_for PassesOwn.never rfl (i_seq (d_callG G_lot_of b_lot_of (by decide) hg hr pass0 (l_cons (d_var 2) (l_nil)))) (g_name (i := 4) S.nd rfl (.inl rfl)) (s_cons (s_set (i := 5) S.nd rfl (.inl rfl) (d_band (d_band (d_item (d_var 0) (d_var 4)) (d_item (d_var 1) (d_var 4))) (d_var 2)))
          (s_one (s_if ((bw_and (b_cmp (op_eqQ hr.units) lk_rel (d_band (d_item (d_var 0) (d_var 4)) (d_var 2)) (d_var 5) (nomark _)) (bw_and1 (b_cmp (op_eqQ hr.units) lk_rel (d_item (d_callG G_lot_of b_lot_of (by decide) hg hr pass0 (l_cons (d_var 5) (l_nil))) (d_int)) (d_var 4) (nomark _)))).toB) (s_one (s_append 3 rfl (by first | exact Or.inl rfl | exact Or.inr (Or.inl rfl) | exact Or.inr (Or.inr rfl)) (d_var 4))) (s_nil)))))
          (s_one (s_retV 3)))
theorem gd_highest_of (T : Top K mg) (G_ends_of : Gd P w K mg base (dkZ P w aD aC aS) "ends_of" s_ends_of ["beyond", "behind", "mask"] 2 g_ends_of) (G_highs : Gd P w K mg base (dkZ P w aD aC aS) "highs" s_highs ["hill"] 1 g_highs) (G_lows : Gd P w K mg base (dkZ P w aD aC aS) "lows" s_lows ["hill"] 1 g_lows) : Gd P w K mg base (dkZ P w aD aC aS) "highest_of" s_highest_of ["hill", "mask"] 3 g_highest_of := by
  obtain ⟨f, fd, hm, U⟩ := T.highest_of
  have S := sc_highest_of
  refine gd_mk hm U m_highest_of (fnD_ok (k := 2) U S l_highest_of fun cdv A fr s H E F0 hg hr => ⟨t_highest_of, ?_, fun ds Q h => p_highest_of ds Q h⟩)
  exact s_one (s_ret (d_callG G_ends_of b_ends_of (by decide) hg hr pass0 (l_cons (d_callG G_highs b_highs (by decide) hg hr pass0 (l_cons (d_var 0) (l_nil))) (l_cons (d_callG G_lows b_lows (by decide) hg hr pass0 (l_cons (d_var 0) (l_nil))) (l_cons (d_var 1) (l_nil))))))
theorem gd_lowest_of (T : Top K mg) (G_ends_of : Gd P w K mg base (dkZ P w aD aC aS) "ends_of" s_ends_of ["beyond", "behind", "mask"] 2 g_ends_of) (G_lows : Gd P w K mg base (dkZ P w aD aC aS) "lows" s_lows ["hill"] 1 g_lows) (G_highs : Gd P w K mg base (dkZ P w aD aC aS) "highs" s_highs ["hill"] 1 g_highs) : Gd P w K mg base (dkZ P w aD aC aS) "lowest_of" s_lowest_of ["hill", "mask"] 3 g_lowest_of := by
  obtain ⟨f, fd, hm, U⟩ := T.lowest_of
  have S := sc_lowest_of
  refine gd_mk hm U m_lowest_of (fnD_ok (k := 2) U S l_lowest_of fun cdv A fr s H E F0 hg hr => ⟨t_lowest_of, ?_, fun ds Q h => p_lowest_of ds Q h⟩)
  exact s_one (s_ret (d_callG G_ends_of b_ends_of (by decide) hg hr pass0 (l_cons (d_callG G_lows b_lows (by decide) hg hr pass0 (l_cons (d_var 0) (l_nil))) (l_cons (d_callG G_highs b_highs (by decide) hg hr pass0 (l_cons (d_var 0) (l_nil))) (l_cons (d_var 1) (l_nil))))))
theorem gd_carried_terraces (T : Top K mg) (G_carried_mask : Gd P w K mg base (dkZ P w aD aC aS) "carried_mask" s_carried_mask ["places", "mask"] 2 g_carried_mask) (G_reach_mask : Gd P w K mg base (dkZ P w aD aC aS) "reach_mask" s_reach_mask ["hill", "deed"] 3 g_reach_mask) (G_highest_of : Gd P w K mg base (dkZ P w aD aC aS) "highest_of" s_highest_of ["hill", "mask"] 3 g_highest_of) (G_lowest_of : Gd P w K mg base (dkZ P w aD aC aS) "lowest_of" s_lowest_of ["hill", "mask"] 3 g_lowest_of) : Gd P w K mg base (dkZ P w aD aC aS) "carried_terraces" s_carried_terraces ["one", "other", "places", "deed"] 4 g_carried_terraces := by
  obtain ⟨f, fd, hm, U⟩ := T.carried_terraces
  have S := sc_carried_terraces
  refine gd_mk hm U m_carried_terraces (fnD_ok (k := 3) U S l_carried_terraces fun cdv A fr s H E F0 hg hr => ⟨t_carried_terraces, ?_, fun ds Q h => p_carried_terraces ds Q h⟩)
  exact s_cons (s_set (i := 4) S.nd rfl (.inl rfl) (d_callG G_carried_mask b_carried_mask (by decide) hg hr pass0 (l_cons (d_var 2) (l_cons (d_callG G_reach_mask b_reach_mask (by decide) hg hr pass0 (l_cons (d_var 1) (l_cons (d_var 3) (l_nil)))) (l_nil)))))
          (s_one (s_ret (d_sorted hr.units (l_cons (d_ifExp (b_cmp (op_eqQ hr.units) lk_rel (d_item (d_var 3) (d_int)) (d_str) (nomark _)) (d_callG G_highest_of b_highest_of (by decide) hg hr pass0 (l_cons (d_var 0) (l_cons (d_var 4) (l_nil)))) (d_callG G_lowest_of b_lowest_of (by decide) hg hr pass0 (l_cons (d_var 0) (l_cons (d_var 4) (l_nil))))) (l_nil)) T.z_sorted)))
theorem gd_deeds_carried (T : Top K mg) (G_carried_terraces : Gd P w K mg base (dkZ P w aD aC aS) "carried_terraces" s_carried_terraces ["one", "other", "places", "deed"] 4 g_carried_terraces) : Gd P w K mg base (dkZ P w aD aC aS) "deeds_carried" s_deeds_carried ["one", "other", "places", "deed"] 5 g_deeds_carried := by
  obtain ⟨f, fd, hm, U⟩ := T.deeds_carried
  have S := sc_deeds_carried
  refine gd_mk hm U m_deeds_carried (fnD_ok (k := 4) U S l_deeds_carried fun cdv A fr s H E F0 hg hr => ⟨t_deeds_carried, ?_, fun ds Q h => p_deeds_carried ds Q h⟩)
  exact s_one (s_ret (d_tupleC (l_cons (d_lc (own := [("terrace", 4)]) rfl S.nd (i_seqQ (d_callG G_carried_terraces b_carried_terraces (by decide) hg hr pass0 (l_cons (d_var 0) (l_cons (d_var 1) (l_cons (d_var 2) (l_cons (d_var 3) (l_nil))))))) (blkOk_by (N := ["one", "other", "places", "deed", "terrace"]) (sc := defScope s_deeds_carried) (by decide +kernel)) (by decide) (fun _ _ _ _ _ => g_name (i := 4) S.nd rfl (.inl rfl)) (fun _ _ _ _ _ => ts_nil) (fun _ _ _ _ _ => d_tup (l_cons (d_item (d_var 3) (d_int)) (l_cons (d_var 4) (l_nil))))) (l_nil)) T.z_tuple))
theorem gd_carried_script (T : Top K mg) (G_need_map : Gd P w K mg base (dkZ P w aD aC aS) "need_map" s_need_map ["one", "other", "places"] 8 g_need_map) (G_is_script_value : Gd P w K mg base (dkZ P w aD aC aS) "is_script_value" s_is_script_value ["n", "thing"] 4 g_is_script_value) (G_deeds_carried : Gd P w K mg base (dkZ P w aD aC aS) "deeds_carried" s_deeds_carried ["one", "other", "places", "deed"] 5 g_deeds_carried) : Gd P w K mg base (dkZ P w aD aC aS) "carried_script" s_carried_script ["one", "other", "places", "script"] 9 g_carried_script := by
  obtain ⟨f, fd, hm, U⟩ := T.carried_script
  have S := sc_carried_script
  refine gd_mk hm U m_carried_script (fnD_ok (k := 8) U S l_carried_script fun cdv A fr s H E F0 hg hr => ⟨t_carried_script, ?_, fun ds Q h => p_carried_script ds Q h⟩)
  exact s_cons (s_expr (d_callG G_need_map b_need_map (by decide) hg hr pass0 (l_cons (d_var 0) (l_cons (d_var 1) (l_cons (d_var 2) (l_nil))))))
          (s_cons (s_if (b_not (b_val (d_callG G_is_script_value b_is_script_value (by decide) hg hr pass0 (l_cons (d_item (d_var 1) (d_int)) (l_cons (d_var 3) (l_nil)))))) (s_one (s_never)) (s_nil))
          (s_cons (s_set (i := 4) S.nd rfl (.inl rfl) (d_tup (l_nil)))
          (s_cons (s_for PassesOwn.never rfl (i_seq (d_var 3)) (g_name (i := 5) S.nd rfl (.inl rfl)) (s_one (s_set (i := 4) S.nd rfl (.inl rfl) (d_add (d_var 4) (d_callG G_deeds_carried b_deeds_carried (by decide) hg hr pass0 (l_cons (d_var 0) (l_cons (d_var 1) (l_cons (d_var 2) (l_cons (d_var 5) (l_nil))))))))))
          (s_one (s_retV 4)))))
theorem gd_need_script (T : Top K mg) (G_is_script_value : Gd P w K mg base (dkZ P w aD aC aS) "is_script_value" s_is_script_value ["n", "thing"] 4 g_is_script_value) : Gd P w K mg base (dkZ P w aD aC aS) "need_script" s_need_script ["n", "script"] 5 g_need_script := by
  obtain ⟨f, fd, hm, U⟩ := T.need_script
  have S := sc_need_script
  refine gd_mk hm U m_need_script (fnD_ok (k := 4) U S l_need_script fun cdv A fr s H E F0 hg hr => ⟨t_need_script, ?_, fun ds Q h => p_need_script ds Q h⟩)
  exact s_one (s_if (b_not (b_val (d_callG G_is_script_value b_is_script_value (by decide) hg hr pass0 (l_cons (d_var 0) (l_cons (d_var 1) (l_nil)))))) (s_one (s_never)) (s_nil))
theorem gd_couple_masks (T : Top K mg) (G_reaches : Gd P w K mg base (dkZ P w aD aC aS) "reaches" s_reaches ["hill", "script"] 2 g_reaches) : Gd P w K mg base (dkZ P w aD aC aS) "couple_masks" s_couple_masks ["hill", "script"] 3 g_couple_masks := by
  obtain ⟨f, fd, hm, U⟩ := T.couple_masks
  have S := sc_couple_masks
  refine gd_mk hm U m_couple_masks (fnD_ok (k := 2) U S l_couple_masks fun cdv A fr s H E F0 hg hr => ⟨t_couple_masks, ?_, fun ds Q h => p_couple_masks ds Q h⟩)
  exact s_cons (s_asg (d_tup (l_cons (d_int) (l_cons (d_int) (l_nil)))) (g_tup rfl (gs_cons (g_name (i := 2) S.nd rfl (.inl rfl)) (gs_cons (g_name (i := 3) S.nd rfl (.inl rfl)) (gs_nil)))))
          (s_cons (s_for PassesOwn.never rfl (i_zipM (k := true) (l_cons (d_var 1) (l_cons (d_callG G_reaches b_reaches (by decide) hg hr pass0 (l_cons (d_var 0) (l_cons (d_var 1) (l_nil)))) (l_nil))) T.z_zip) (g_tup rfl (gs_cons (g_name (i := 4) S.nd rfl (.inl rfl)) (gs_cons (g_name (i := 5) S.nd rfl (.inl rfl)) (gs_nil)))) (s_one (s_if (b_cmp (op_eqQ hr.units) lk_rel (d_item (d_var 4) (d_int)) (d_str) (nomark _)) (s_one (s_par (i := 2) (j := 3) rfl S.nd rfl rfl (by decide) rfl rfl (l_cons (d_bor (d_var 2) (d_var 5)) (l_cons (d_band (d_var 3) (d_inv (d_var 5))) (l_nil))) (by rfl))) (s_one (s_par (i := 2) (j := 3) rfl S.nd rfl rfl (by decide) rfl rfl (l_cons (d_band (d_var 2) (d_inv (d_var 5))) (l_cons (d_bor (d_var 3) (d_var 5)) (l_nil))) (by rfl))))))
          (s_one (s_ret (d_tup (l_cons (d_var 2) (l_cons (d_var 3) (l_nil)))))))
theorem gd_raw_couple (T : Top K mg) (G_couple_masks : Gd P w K mg base (dkZ P w aD aC aS) "couple_masks" s_couple_masks ["hill", "script"] 3 g_couple_masks) (G_lot_of : Gd P w K mg base (dkZ P w aD aC aS) "lot_of" s_lot_of ["mask"] 1 g_lot_of) : Gd P w K mg base (dkZ P w aD aC aS) "raw_couple" s_raw_couple ["hill", "script"] 4 g_raw_couple := by
  obtain ⟨f, fd, hm, U⟩ := T.raw_couple
  have S := sc_raw_couple
  refine gd_mk hm U m_raw_couple (fnD_ok (k := 3) U S l_raw_couple fun cdv A fr s H E F0 hg hr => ⟨t_raw_couple, ?_, fun ds Q h => p_raw_couple ds Q h⟩)
  exact s_cons (s_asg (d_callG G_couple_masks b_couple_masks (by decide) hg hr pass0 (l_cons (d_var 0) (l_cons (d_var 1) (l_nil)))) (g_tup rfl (gs_cons (g_name (i := 2) S.nd rfl (.inl rfl)) (gs_cons (g_name (i := 3) S.nd rfl (.inl rfl)) (gs_nil)))))
          (s_one (s_ret (d_tup (l_cons (d_callG G_lot_of b_lot_of (by decide) hg hr pass0 (l_cons (d_var 2) (l_nil))) (l_cons (d_callG G_lot_of b_lot_of (by decide) hg hr pass0 (l_cons (d_var 3) (l_nil))) (l_nil))))))
theorem gd_couple_of (T : Top K mg) (G_need_hill : Gd P w K mg base (dkZ P w aD aC aS) "need_hill" s_need_hill ["hill"] 6 g_need_hill) (G_need_script : Gd P w K mg base (dkZ P w aD aC aS) "need_script" s_need_script ["n", "script"] 5 g_need_script) (G_raw_couple : Gd P w K mg base (dkZ P w aD aC aS) "raw_couple" s_raw_couple ["hill", "script"] 4 g_raw_couple) : Gd P w K mg base (dkZ P w aD aC aS) "couple_of" s_couple_of ["hill", "script"] 7 g_couple_of := by
  obtain ⟨f, fd, hm, U⟩ := T.couple_of
  have S := sc_couple_of
  refine gd_mk hm U m_couple_of (fnD_ok (k := 6) U S l_couple_of fun cdv A fr s H E F0 hg hr => ⟨t_couple_of, ?_, fun ds Q h => p_couple_of ds Q h⟩)
  exact s_cons (s_expr (d_callG G_need_hill b_need_hill (by decide) hg hr pass0 (l_cons (d_var 0) (l_nil))))
          (s_cons (s_expr (d_callG G_need_script b_need_script (by decide) hg hr pass0 (l_cons (d_item (d_var 0) (d_int)) (l_cons (d_var 1) (l_nil)))))
          (s_one (s_ret (d_callG G_raw_couple b_raw_couple (by decide) hg hr pass0 (l_cons (d_var 0) (l_cons (d_var 1) (l_nil)))))))
theorem gd__law_lasts (T : Top K mg) : Gd P w K mg base (dkZ P w aD aC aS) "_law_lasts" s__law_lasts ["sides", "script"] 1 g__law_lasts := by
  obtain ⟨f, fd, hm, U⟩ := T._law_lasts
  have S := sc__law_lasts
  refine gd_mk hm U m__law_lasts (fnD_ok (k := 0) U S l__law_lasts fun cdv A fr s H E F0 hg hr => ⟨t__law_lasts, ?_, fun ds Q h => p__law_lasts ds Q h⟩)
  exact s_cons (s_set (i := 2) S.nd rfl (.inl rfl) (d_mul (d_lst (l_cons (d_non) (l_nil))) (d_len (l_cons (d_item (d_var 0) (d_int)) (l_nil)) T.z_len)))
          (s_cons (s_for PassesOwn.never rfl (i_enum (d_var 1) T.z_enumerate) (g_tup rfl (gs_cons (g_name (i := 3) S.nd rfl (.inl rfl)) (gs_cons (g_name (i := 4) S.nd rfl (.inl rfl)) (gs_nil)))) (s_one (s_for PassesOwn.never rfl (i_seq (d_item (d_item (d_var 0) (d_ifExp (b_cmp (op_eqQ hr.units) lk_rel (d_item (d_var 4) (d_int)) (d_str) (nomark _)) (d_int) (d_int))) (d_item (d_var 4) (d_int)))) (g_name (i := 5) S.nd rfl (.inl rfl)) (s_one (s_setIx 2 rfl (by first | exact Or.inl rfl | exact Or.inr (Or.inl rfl)) (d_var 5) (d_var 3))))))
          (s_one (s_retV 2)))
theorem gd__law_couple (T : Top K mg) (G__law_lasts : Gd P w K mg base (dkZ P w aD aC aS) "_law_lasts" s__law_lasts ["sides", "script"] 1 g__law_lasts) : Gd P w K mg base (dkZ P w aD aC aS) "_law_couple" s__law_couple ["sides", "script"] 2 g__law_couple := by
  obtain ⟨f, fd, hm, U⟩ := T._law_couple
  have S := sc__law_couple
  refine gd_mk hm U m__law_couple (fnD_ok (k := 1) U S l__law_couple fun cdv A fr s H E F0 hg hr => ⟨t__law_couple, ?_, fun ds Q h => p__law_couple ds Q h⟩)
  exact s_cons (s_set (i := 2) S.nd rfl (.inl rfl) (d_callG G__law_lasts b__law_lasts (by decide) hg hr pass0 (l_cons (d_var 0) (l_cons (d_var 1) (l_nil)))))
          (s_cons (s_setLc (i := 3) (own := [("x", 5), ("at", 6)]) rfl S.nd rfl rfl (sw_true rfl rfl rfl (by decide +kernel)) (i_enum (d_var 2) T.z_enumerate) (blkOk_by (N := ["sides", "script", "lasts", "wet", "dry", "x", "at"]) (sc := defScope s__law_couple) (by decide +kernel)) (by decide) (fun _ _ _ _ _ => g_tup rfl (gs_cons (g_name (i := 5) S.nd rfl (.inl rfl)) (gs_cons (g_name (i := 6) S.nd rfl (.inl rfl)) (gs_nil)))) (fun _ _ _ _ _ => ts_one ((bw_and (b_cmp op_isNotQ lk_rel (d_var 6) (d_non) (nomark _)) (bw_and1 (b_cmp (op_eqQ hr.units) lk_rel (d_item (d_item (d_var 1) (d_var 6)) (d_int)) (d_str) (nomark _)))).toB)) (fun _ _ _ _ _ => d_var 5))
          (s_cons (s_setLc (i := 4) (own := [("x", 5), ("at", 6)]) rfl S.nd rfl rfl (sw_true rfl rfl rfl (by decide +kernel)) (i_enum (d_var 2) T.z_enumerate) (blkOk_by (N := ["sides", "script", "lasts", "wet", "dry", "x", "at"]) (sc := defScope s__law_couple) (by decide +kernel)) (by decide) (fun _ _ _ _ _ => g_tup rfl (gs_cons (g_name (i := 5) S.nd rfl (.inl rfl)) (gs_cons (g_name (i := 6) S.nd rfl (.inl rfl)) (gs_nil)))) (fun _ _ _ _ _ => ts_one ((bw_and (b_cmp op_isNotQ lk_rel (d_var 6) (d_non) (nomark _)) (bw_and1 (b_cmp (op_eqQ hr.units) lk_rel (d_item (d_item (d_var 1) (d_var 6)) (d_int)) (d_str) (nomark _)))).toB)) (fun _ _ _ _ _ => d_var 5))
          (s_one (s_ret (d_tup (l_cons (d_tupleC (l_cons (d_var 3) (l_nil)) T.z_tuple) (l_cons (d_tupleC (l_cons (d_var 4) (l_nil)) T.z_tuple) (l_nil))))))))
theorem gd__law_told_couple (T : Top K mg) (G_couple_of : Gd P w K mg base (dkZ P w aD aC aS) "couple_of" s_couple_of ["hill", "script"] 7 g_couple_of) (G__law_couple : Gd P w K mg base (dkZ P w aD aC aS) "_law_couple" s__law_couple ["sides", "script"] 2 g__law_couple) (G__law_sides : Gd P w K mg base (dkZ P w aD aC aS) "_law_sides" s__law_sides ["hill"] 1 g__law_sides) : Gd P w K mg base (dkZ P w aD aC aS) "_law_told_couple" s__law_told_couple ["hill", "script"] 8 g__law_told_couple := by
  obtain ⟨f, fd, hm, U⟩ := T._law_told_couple
  have S := sc__law_told_couple
  refine gd_mk hm U m__law_told_couple (fnD_ok (k := 7) U S l__law_told_couple fun cdv A fr s H E F0 hg hr => ⟨t__law_told_couple, ?_, fun ds Q h => p__law_told_couple ds Q h⟩)
  exact s_one (s_ret (d_ifExp (b_cmp (op_leQ hr.units) lk_rel (d_len (l_cons (d_var 1) (l_nil)) T.z_len) (d_int) (nomark _)) (d_callG G_couple_of b_couple_of (by decide) hg hr pass0 (l_cons (d_var 0) (l_cons (d_var 1) (l_nil)))) (d_callG G__law_couple b__law_couple (by decide) hg hr pass0 (l_cons (d_callG G__law_sides b__law_sides (by decide) hg hr pass0 (l_cons (d_var 0) (l_nil))) (l_cons (d_var 1) (l_nil))))))
theorem gd__law_is_twice_right (T : Top K mg) (G_carried_script : Gd P w K mg base (dkZ P w aD aC aS) "carried_script" s_carried_script ["one", "other", "places", "script"] 9 g_carried_script) (G_carried_water : Gd P w K mg base (dkZ P w aD aC aS) "carried_water" s_carried_water ["one", "other", "places", "water"] 9 g_carried_water) (G__law_told_couple : Gd P w K mg base (dkZ P w aD aC aS) "_law_told_couple" s__law_told_couple ["hill", "script"] 8 g__law_told_couple) : Gd P w K mg base (dkZ P w aD aC aS) "_law_is_twice_right" s__law_is_twice_right ["one", "other", "third", "maps"] 10 g__law_is_twice_right := by
  obtain ⟨f, fd, hm, U⟩ := T._law_is_twice_right
  have S := sc__law_is_twice_right
  refine gd_mk hm U m__law_is_twice_right (fnD_ok (k := 9) U S l__law_is_twice_right fun cdv A fr s H E F0 hg hr => ⟨t__law_is_twice_right, ?_, fun ds Q h => p__law_is_twice_right ds Q h⟩)
  exact s_cons (s_asg (d_var 3) (g_tup rfl (gs_cons (g_name (i := 4) S.nd rfl (.inl rfl)) (gs_cons (g_name (i := 5) S.nd rfl (.inr rfl)) (gs_cons (g_name (i := 6) S.nd rfl (.inl rfl)) (gs_cons (g_name (i := 7) S.nd rfl (.inl rfl)) (gs_nil)))))))
          (s_cons (s_par (i := 8) (j := 9) rfl S.nd rfl rfl (by decide) rfl rfl (l_cons (d_tupleC (l_cons (d_lc (own := [("place", 13)]) rfl S.nd (i_seqQ (d_var 4)) (blkOk_by (N := ["one", "other", "third", "maps", "places", "later", "water", "script", "both", "between", "back", "turn", "once", "place"]) (sc := defScope s__law_is_twice_right) (by decide +kernel)) (by decide) (fun _ _ _ _ _ => g_name (i := 13) S.nd rfl (.inl rfl)) (fun _ _ _ _ _ => ts_nil) (fun _ _ _ _ _ => d_item (d_var 5) (d_var 13))) (l_nil)) T.z_tuple) (l_cons (d_callG G_carried_script b_carried_script (by decide) hg hr pass0 (l_cons (d_var 1) (l_cons (d_var 2) (l_cons (d_var 5) (l_cons (d_var 7) (l_nil)))))) (l_nil))) (by rfl))
          (s_cons (s_set (i := 10) S.nd rfl (.inl rfl) (d_callG G_carried_water b_carried_water (by decide) hg hr pass0 (l_cons (d_var 0) (l_cons (d_var 1) (l_cons (d_var 4) (l_cons (d_callG G_carried_water b_carried_water (by decide) hg hr pass0 (l_cons (d_var 1) (l_cons (d_var 2) (l_cons (d_var 5) (l_cons (d_var 6) (l_nil)))))) (l_nil)))))))
          (s_cons (s_if (b_cmp (op_neQ hr.units) lk_rel (d_repr hr.units hg (l_cons (d_callG G_carried_water b_carried_water (by decide) hg hr pass0 (l_cons (d_var 0) (l_cons (d_var 2) (l_cons (d_var 8) (l_cons (d_var 6) (l_nil)))))) (l_nil)) T.z_repr) (d_repr hr.units hg (l_cons (d_var 10) (l_nil)) T.z_repr) (nomark _)) (s_one (s_ret (d_bl))) (s_nil))
          (s_cons (s_for PassesOwn.never rfl (i_range1 (d_int) T.z_range) (g_name (i := 11) S.nd rfl (.inl rfl)) (s_one (s_if (b_cmp (op_gtQ hr.units) lk_rel (d_len (l_cons (d_var 9) (l_nil)) T.z_len) (d_int) (nomark _)) (s_cons (s_set (i := 7) S.nd rfl (.inl rfl) (d_slice (d_var 7) (o_none) (o_some (d_neg (d_int)))))
          (s_one (s_set (i := 9) S.nd rfl (.inl rfl) (d_callG G_carried_script b_carried_script (by decide) hg hr pass0 (l_cons (d_var 1) (l_cons (d_var 2) (l_cons (d_var 5) (l_cons (d_var 7) (l_nil))))))))) (s_nil))))
          (s_cons (s_set (i := 12) S.nd rfl (.inl rfl) (d_callG G_carried_script b_carried_script (by decide) hg hr pass0 (l_cons (d_var 0) (l_cons (d_var 2) (l_cons (d_var 8) (l_cons (d_var 7) (l_nil)))))))
          (s_one (s_ret (d_eq hr.units (d_repr hr.units hg (l_cons (d_callG G__law_told_couple b__law_told_couple (by decide) hg hr pass0 (l_cons (d_var 0) (l_cons (d_var 12) (l_nil)))) (l_nil)) T.z_repr) (d_repr hr.units hg (l_cons (d_callG G__law_told_couple b__law_told_couple (by decide) hg hr pass0 (l_cons (d_var 0) (l_cons (d_callG G_carried_script b_carried_script (by decide) hg hr pass0 (l_cons (d_var 0) (l_cons (d_var 1) (l_cons (d_var 4) (l_cons (d_var 9) (l_nil)))))) (l_nil)))) (l_nil)) T.z_repr)))))))))
theorem gd__law_lot (T : Top K mg) (G__law_pick : Gd P w K mg base (dkZ P w aD aC aS) "_law_pick" s__law_pick ["deck", "some"] 2 g__law_pick) (G__law_draw : Gd P w K mg base (dkZ P w aD aC aS) "_law_draw" s__law_draw ["deck", "many"] 1 g__law_draw) : Gd P w K mg base (dkZ P w aD aC aS) "_law_lot" s__law_lot ["deck", "n"] 3 g__law_lot := by
  obtain ⟨f, fd, hm, U⟩ := T._law_lot
  have S := sc__law_lot
  refine gd_mk hm U m__law_lot (fnD_ok (k := 2) U S l__law_lot fun cdv A fr s H E F0 hg hr => ⟨t__law_lot, ?_, fun ds Q h => p__law_lot ds Q h⟩)
  exact s_cons (s_set (i := 2) S.nd rfl (.inr rfl) (d_callG G__law_pick b__law_pick (by decide) hg hr pass0 (l_cons (d_var 0) (l_cons (d_lst (l_cons (d_int) (l_cons (d_int) (l_cons (d_int) (l_cons (d_int) (l_nil)))))) (l_nil)))))
          (s_one (s_ret (d_tupleC (l_cons (d_lc (own := [("at", 3)]) rfl S.nd (i_range1 (d_var 1) T.z_range) (blkOk_by (N := ["deck", "n", "part", "at"]) (sc := defScope s__law_lot) (by decide +kernel)) (by decide) (fun _ _ _ _ _ => g_name (i := 3) S.nd rfl (.inl rfl)) (fun _ _ _ _ _ => ts_one (b_cmp (op_eqQ hr.units) lk_rel (d_callG G__law_draw b__law_draw (by decide) hg hr pass0 (l_cons (d_var 0) (l_cons (d_var 2) (l_nil)))) (d_int) (nomark _))) (fun _ _ _ _ _ => d_var 3)) (l_nil)) T.z_tuple)))
theorem gd_need_water_scripts (T : Top K mg) (G_need_hill : Gd P w K mg base (dkZ P w aD aC aS) "need_hill" s_need_hill ["hill"] 6 g_need_hill) (G_is_lower_value : Gd P w K mg base (dkZ P w aD aC aS) "is_lower_value" s_is_lower_value ["hill", "thing"] 4 g_is_lower_value) : GdA P w K mg base (dkZ P w aD aC aS) "need_water_scripts" "need_water" s_need_water_scripts ["hill", "water"] 7 g_need_water_scripts := by
  obtain ⟨f, fd, hm, U⟩ := T.need_water_scripts
  have S := sc_need_water_scripts
  refine gdA_mk hm U m_need_water_scripts (fnD_ok (k := 6) U S l_need_water_scripts fun cdv A fr s H E F0 hg hr => ⟨t_need_water_scripts, ?_, fun ds Q h => p_need_water_scripts ds Q h⟩)
  exact s_cons (s_expr (d_callG G_need_hill b_need_hill (by decide) hg hr pass0 (l_cons (d_var 0) (l_nil))))
          (s_one (s_if (b_not (b_val (d_callG G_is_lower_value b_is_lower_value (by decide) hg hr pass0 (l_cons (d_var 0) (l_cons (d_var 1) (l_nil)))))) (s_one (s_never)) (s_nil)))
theorem gd_done (T : Top K mg) (G_reaches : Gd P w K mg base (dkZ P w aD aC aS) "reaches" s_reaches ["hill", "script"] 2 g_reaches) : Gd P w K mg base (dkZ P w aD aC aS) "done" s_done ["hill", "mask", "script"] 3 g_done := by
  obtain ⟨f, fd, hm, U⟩ := T.done
  have S := sc_done
  refine gd_mk hm U m_done (fnD_ok (k := 2) U S l_done fun cdv A fr s H E F0 hg hr => ⟨t_done, ?_, fun ds Q h => p_done ds Q h⟩)
  exact s_cons (s_for PassesOwn.never rfl (i_zipM (k := true) (l_cons (d_var 2) (l_cons (d_callG G_reaches b_reaches (by decide) hg hr pass0 (l_cons (d_var 0) (l_cons (d_var 2) (l_nil)))) (l_nil))) T.z_zip) (g_tup rfl (gs_cons (g_name (i := 3) S.nd rfl (.inl rfl)) (gs_cons (g_name (i := 4) S.nd rfl (.inl rfl)) (gs_nil)))) (s_one (s_set (i := 1) S.nd rfl (.inl rfl) (d_ifExp (b_cmp (op_eqQ hr.units) lk_rel (d_item (d_var 3) (d_int)) (d_str) (nomark _)) (d_bor (d_var 1) (d_var 4)) (d_band (d_var 1) (d_inv (d_var 4)))))))
          (s_one (s_retV 1))
theorem gd_run (T : Top K mg) (G_need_water_scripts : GdA P w K mg base (dkZ P w aD aC aS) "need_water_scripts" "need_water" s_need_water_scripts ["hill", "water"] 7 g_need_water_scripts) (G_need_script : Gd P w K mg base (dkZ P w aD aC aS) "need_script" s_need_script ["n", "script"] 5 g_need_script) (G_lot_of : Gd P w K mg base (dkZ P w aD aC aS) "lot_of" s_lot_of ["mask"] 1 g_lot_of) (G_done : Gd P w K mg base (dkZ P w aD aC aS) "done" s_done ["hill", "mask", "script"] 3 g_done) (G_mask_of : Gd P w K mg base (dkZ P w aD aC aS) "mask_of" s_mask_of ["lot"] 1 g_mask_of) : Gd P w K mg base (dkZ P w aD aC aS) "run" s_run ["hill", "water", "script"] 8 g_run := by
  obtain ⟨f, fd, hm, U⟩ := T.run
  have S := sc_run
  refine gd_mk hm U m_run (fnD_ok (k := 7) U S l_run fun cdv A fr s H E F0 hg hr => ⟨t_run, ?_, fun ds Q h => p_run ds Q h⟩)
  exact s_cons (s_expr (d_callA G_need_water_scripts b_need_water_scripts (by decide) hg hr pass0 (l_cons (d_var 0) (l_cons (d_var 1) (l_nil)))))
          (s_cons (s_expr (d_callG G_need_script b_need_script (by decide) hg hr pass0 (l_cons (d_item (d_var 0) (d_int)) (l_cons (d_var 2) (l_nil)))))
          (s_one (s_ret (d_callG G_lot_of b_lot_of (by decide) hg hr pass0 (l_cons (d_callG G_done b_done (by decide) hg hr pass0 (l_cons (d_var 0) (l_cons (d_callG G_mask_of b_mask_of (by decide) hg hr pass0 (l_cons (d_var 1) (l_nil))) (l_cons (d_var 2) (l_nil))))) (l_nil))))))
theorem gd__law_carried (T : Top K mg) : Gd P w K mg base (dkZ P w aD aC aS) "_law_carried" s__law_carried ["places", "lot"] 1 g__law_carried := by
  obtain ⟨f, fd, hm, U⟩ := T._law_carried
  have S := sc__law_carried
  refine gd_mk hm U m__law_carried (fnD_ok (k := 0) U S l__law_carried fun cdv A fr s H E F0 hg hr => ⟨t__law_carried, ?_, fun ds Q h => p__law_carried ds Q h⟩)
  exact s_one (s_ret (d_tupleC (l_cons (d_lc (own := [("at", 2), ("place", 3)]) rfl S.nd (i_enum (d_var 0) T.z_enumerate) (blkOk_by (N := ["places", "lot", "at", "place"]) (sc := defScope s__law_carried) (by decide +kernel)) (by decide) (fun _ _ _ _ _ => g_tup rfl (gs_cons (g_name (i := 2) S.nd rfl (.inl rfl)) (gs_cons (g_name (i := 3) S.nd rfl (.inl rfl)) (gs_nil)))) (fun _ _ _ _ _ => ts_one (b_cmp (op_inQ hr.units) lk_rel (d_var 3) (d_var 1) (by rfl))) (fun _ _ _ _ _ => d_var 2)) (l_nil)) T.z_tuple))
theorem gd__law_outer (T : Top K mg) : Gd P w K mg base (dkZ P w aD aC aS) "_law_outer" s__law_outer ["rows", "lot"] 1 g__law_outer := by
  obtain ⟨f, fd, hm, U⟩ := T._law_outer
  have S := sc__law_outer
  refine gd_mk hm U m__law_outer (fnD_ok (k := 0) U S l__law_outer fun cdv A fr s H E F0 hg hr => ⟨t__law_outer, ?_, fun ds Q h => p__law_outer ds Q h⟩)
  exact s_cons (s_set (i := 2) S.nd rfl (.inl rfl) (d_lst (l_nil)))
          (s_cons (s_for PassesOwn.never rfl (i_seq (d_var 1)) (g_name (i := 3) S.nd rfl (.inr rfl)) (s_one (s_if (b_cmp (op_eqQ hr.units) lk_rel (d_lc (own := [("b", 4)]) rfl S.nd (i_seqQ (d_var 1)) (blkOk_by (N := ["rows", "lot", "found", "a", "b"]) (sc := defScope s__law_outer) (by decide +kernel)) (by decide) (fun _ _ _ _ _ => g_name (i := 4) S.nd rfl (.inl rfl)) (fun _ _ _ _ _ => ts_one ((bw_and (b_cmp (op_inQ hr.units) lk_rel (d_var 4) (d_item (d_var 0) (d_var 3)) (by rfl)) (bw_and1 ((bw_or (b_cmp (op_notInQ hr.units) lk_rel (d_var 3) (d_item (d_var 0) (d_var 4)) (by rfl)) (bw_or1 (b_cmp (op_ltQ hr.units) lk_rel (d_var 4) (d_var 3) (nomark _)))).toB))).toB)) (fun _ _ _ _ _ => d_var 4)) (d_lst (l_nil)) (nomark _)) (s_one (s_append 2 rfl (by first | exact Or.inl rfl | exact Or.inr (Or.inl rfl) | exact Or.inr (Or.inr rfl)) (d_var 3))) (s_nil))))
          (s_one (s_ret (d_tupleC (l_cons (d_var 2) (l_nil)) T.z_tuple))))
theorem gd__law_due (T : Top K mg) (G__law_carried : Gd P w K mg base (dkZ P w aD aC aS) "_law_carried" s__law_carried ["places", "lot"] 1 g__law_carried) (G__law_sides : Gd P w K mg base (dkZ P w aD aC aS) "_law_sides" s__law_sides ["hill"] 1 g__law_sides) (G__law_outer : Gd P w K mg base (dkZ P w aD aC aS) "_law_outer" s__law_outer ["rows", "lot"] 1 g__law_outer) : Gd P w K mg base (dkZ P w aD aC aS) "_law_due" s__law_due ["one", "other", "places", "deed"] 2 g__law_due := by
  obtain ⟨f, fd, hm, U⟩ := T._law_due
  have S := sc__law_due
  refine gd_mk hm U m__law_due (fnD_ok (k := 1) U S l__law_due fun cdv A fr s H E F0 hg hr => ⟨t__law_due, ?_, fun ds Q h => p__law_due ds Q h⟩)
  exact s_cons (s_set (i := 4) S.nd rfl (.inl rfl) (d_ifExp (b_cmp (op_eqQ hr.units) lk_rel (d_item (d_var 3) (d_int)) (d_str) (nomark _)) (d_int) (d_int)))
          (s_cons (s_set (i := 5) S.nd rfl (.inl rfl) (d_callG G__law_carried b__law_carried (by decide) hg hr pass0 (l_cons (d_var 2) (l_cons (d_item (d_item (d_callG G__law_sides b__law_sides (by decide) hg hr pass0 (l_cons (d_var 1) (l_nil))) (d_var 4)) (d_item (d_var 3) (d_int))) (l_nil)))))
          (s_one (s_ret (d_tupleC (l_cons (d_lc (own := [("at", 6)]) rfl S.nd (i_seqQ (d_callG G__law_outer b__law_outer (by decide) hg hr pass0 (l_cons (d_item (d_callG G__law_sides b__law_sides (by decide) hg hr pass0 (l_cons (d_var 0) (l_nil))) (d_sub (d_int) (d_var 4))) (l_cons (d_var 5) (l_nil))))) (blkOk_by (N := ["one", "other", "places", "deed", "rows", "lot", "at"]) (sc := defScope s__law_due) (by decide +kernel)) (by decide) (fun _ _ _ _ _ => g_name (i := 6) S.nd rfl (.inl rfl)) (fun _ _ _ _ _ => ts_nil) (fun _ _ _ _ _ => d_tup (l_cons (d_item (d_var 3) (d_int)) (l_cons (d_var 6) (l_nil))))) (l_nil)) T.z_tuple))))
theorem gd_carried_deed (T : Top K mg) (G_need_map : Gd P w K mg base (dkZ P w aD aC aS) "need_map" s_need_map ["one", "other", "places"] 8 g_need_map) (G_is_deed_value : Gd P w K mg base (dkZ P w aD aC aS) "is_deed_value" s_is_deed_value ["n", "thing"] 3 g_is_deed_value) (G_deeds_carried : Gd P w K mg base (dkZ P w aD aC aS) "deeds_carried" s_deeds_carried ["one", "other", "places", "deed"] 5 g_deeds_carried) : Gd P w K mg base (dkZ P w aD aC aS) "carried_deed" s_carried_deed ["one", "other", "places", "deed"] 9 g_carried_deed := by
  obtain ⟨f, fd, hm, U⟩ := T.carried_deed
  have S := sc_carried_deed
  refine gd_mk hm U m_carried_deed (fnD_ok (k := 8) U S l_carried_deed fun cdv A fr s H E F0 hg hr => ⟨t_carried_deed, ?_, fun ds Q h => p_carried_deed ds Q h⟩)
  exact s_cons (s_expr (d_callG G_need_map b_need_map (by decide) hg hr pass0 (l_cons (d_var 0) (l_cons (d_var 1) (l_cons (d_var 2) (l_nil))))))
          (s_cons (s_if (b_not (b_val (d_callG G_is_deed_value b_is_deed_value (by decide) hg hr pass0 (l_cons (d_item (d_var 1) (d_int)) (l_cons (d_var 3) (l_nil)))))) (s_one (s_never)) (s_nil))
          (s_one (s_ret (d_callG G_deeds_carried b_deeds_carried (by decide) hg hr pass0 (l_cons (d_var 0) (l_cons (d_var 1) (l_cons (d_var 2) (l_cons (d_var 3) (l_nil)))))))))
theorem gd_reach (T : Top K mg) (G_need_hill : Gd P w K mg base (dkZ P w aD aC aS) "need_hill" s_need_hill ["hill"] 6 g_need_hill) (G_is_deed_value : Gd P w K mg base (dkZ P w aD aC aS) "is_deed_value" s_is_deed_value ["n", "thing"] 3 g_is_deed_value) (G_lot_of : Gd P w K mg base (dkZ P w aD aC aS) "lot_of" s_lot_of ["mask"] 1 g_lot_of) (G_reach_mask : Gd P w K mg base (dkZ P w aD aC aS) "reach_mask" s_reach_mask ["hill", "deed"] 3 g_reach_mask) : Gd P w K mg base (dkZ P w aD aC aS) "reach" s_reach ["hill", "deed"] 7 g_reach := by
  obtain ⟨f, fd, hm, U⟩ := T.reach
  have S := sc_reach
  refine gd_mk hm U m_reach (fnD_ok (k := 6) U S l_reach fun cdv A fr s H E F0 hg hr => ⟨t_reach, ?_, fun ds Q h => p_reach ds Q h⟩)
  exact s_cons (s_expr (d_callG G_need_hill b_need_hill (by decide) hg hr pass0 (l_cons (d_var 0) (l_nil))))
          (s_cons (s_if (b_not (b_val (d_callG G_is_deed_value b_is_deed_value (by decide) hg hr pass0 (l_cons (d_item (d_var 0) (d_int)) (l_cons (d_var 1) (l_nil)))))) (s_one (s_never)) (s_nil))
          (s_one (s_ret (d_callG G_lot_of b_lot_of (by decide) hg hr pass0 (l_cons (d_callG G_reach_mask b_reach_mask (by decide) hg hr pass0 (l_cons (d_var 0) (l_cons (d_var 1) (l_nil)))) (l_nil))))))
theorem gd__law_are_deeds_right (T : Top K mg) (G__law_due : Gd P w K mg base (dkZ P w aD aC aS) "_law_due" s__law_due ["one", "other", "places", "deed"] 2 g__law_due) (G_carried_deed : Gd P w K mg base (dkZ P w aD aC aS) "carried_deed" s_carried_deed ["one", "other", "places", "deed"] 9 g_carried_deed) (G_reach : Gd P w K mg base (dkZ P w aD aC aS) "reach" s_reach ["hill", "deed"] 7 g_reach) (G__law_carried : Gd P w K mg base (dkZ P w aD aC aS) "_law_carried" s__law_carried ["places", "lot"] 1 g__law_carried) (G_carried_script : Gd P w K mg base (dkZ P w aD aC aS) "carried_script" s_carried_script ["one", "other", "places", "script"] 9 g_carried_script) : Gd P w K mg base (dkZ P w aD aC aS) "_law_are_deeds_right" s__law_are_deeds_right ["one", "other", "places", "script"] 10 g__law_are_deeds_right := by
  obtain ⟨f, fd, hm, U⟩ := T._law_are_deeds_right
  have S := sc__law_are_deeds_right
  refine gd_mk hm U m__law_are_deeds_right (fnD_ok (k := 9) U S l__law_are_deeds_right fun cdv A fr s H E F0 hg hr => ⟨t__law_are_deeds_right, ?_, fun ds Q h => p__law_are_deeds_right ds Q h⟩)
  exact s_cons (s_set (i := 4) S.nd rfl (.inl rfl) (d_tup (l_nil)))
          (s_cons (s_for PassesOwn.never rfl (i_seq (d_var 3)) (g_name (i := 5) S.nd rfl (.inl rfl)) (s_cons (s_set (i := 6) S.nd rfl (.inl rfl) (d_callG G__law_due b__law_due (by decide) hg hr pass0 (l_cons (d_var 0) (l_cons (d_var 1) (l_cons (d_var 2) (l_cons (d_var 5) (l_nil)))))))
          (s_cons (s_set (i := 7) S.nd rfl (.inl rfl) (d_lst (l_cons (d_callG G_carried_deed b_carried_deed (by decide) hg hr pass0 (l_cons (d_var 0) (l_cons (d_var 1) (l_cons (d_var 2) (l_cons (d_var 5) (l_nil)))))) (l_cons (d_callGK [3, 2, 1, 0] G_carried_deed bk_carried_deed_deed_places_other_one (by decide) (by decide) hg hr pass0 (k_cons (d_var 5) (k_cons (d_var 2) (k_cons (d_var 1) (k_cons (d_var 0) (k_nil)))))) (l_nil)))))
          (s_cons (s_if (b_cmp (op_neQ hr.units) lk_rel (d_repr hr.units hg (l_cons (d_var 7) (l_nil)) T.z_repr) (d_repr hr.units hg (l_cons (d_mul (d_lst (l_cons (d_var 6) (l_nil))) (d_int)) (l_nil)) T.z_repr) (nomark _)) (s_one (s_ret (d_bl))) (s_nil))
          (s_cons (s_set (i := 8) S.nd rfl (.inl rfl) (d_lst (l_nil)))
          (s_cons (s_for PassesOwn.never rfl (i_seq (d_var 6)) (g_name (i := 9) S.nd rfl (.inl rfl)) (s_one (s_extend 8 rfl (by first | exact Or.inl rfl | exact Or.inr (Or.inl rfl) | exact Or.inr (Or.inr rfl)) (d_list (l_cons (d_callG G_reach b_reach (by decide) hg hr pass0 (l_cons (d_var 0) (l_cons (d_var 9) (l_nil)))) (l_nil)) T.z_list))))
          (s_cons (s_if (b_cmp (op_neQ hr.units) lk_rel (d_sortSetJ rfl (d_var 8) T.z_sorted T.z_set) (d_list (l_cons (d_callG G__law_carried b__law_carried (by decide) hg hr pass0 (l_cons (d_var 2) (l_cons (d_callG G_reach b_reach (by decide) hg hr pass0 (l_cons (d_var 1) (l_cons (d_var 5) (l_nil)))) (l_nil)))) (l_nil)) T.z_list) (nomark _)) (s_one (s_ret (d_bl))) (s_nil))
          (s_one (s_set (i := 4) S.nd rfl (.inl rfl) (d_add (d_var 4) (d_var 6)))))))))))
          (s_cons (s_set (i := 7) S.nd rfl (.inl rfl) (d_lst (l_cons (d_callG G_carried_script b_carried_script (by decide) hg hr pass0 (l_cons (d_var 0) (l_cons (d_var 1) (l_cons (d_var 2) (l_cons (d_var 3) (l_nil)))))) (l_cons (d_callGK [2, 3, 1, 0] G_carried_script bk_carried_script_script_places_one_other (by decide) (by decide) hg hr pass0 (k_cons (d_var 3) (k_cons (d_var 2) (k_cons (d_var 0) (k_cons (d_var 1) (k_nil)))))) (l_nil)))))
          (s_one (s_ret (d_eq hr.units (d_repr hr.units hg (l_cons (d_var 7) (l_nil)) T.z_repr) (d_repr hr.units hg (l_cons (d_mul (d_lst (l_cons (d_var 4) (l_nil))) (d_int)) (l_nil)) T.z_repr))))))
theorem gd_is_water (T : Top K mg) (G_need_hill : Gd P w K mg base (dkZ P w aD aC aS) "need_hill" s_need_hill ["hill"] 6 g_need_hill) (G_is_lower_value : Gd P w K mg base (dkZ P w aD aC aS) "is_lower_value" s_is_lower_value ["hill", "thing"] 4 g_is_lower_value) : Gd P w K mg base (dkZ P w aD aC aS) "is_water" s_is_water ["hill", "thing"] 7 g_is_water := by
  obtain ⟨f, fd, hm, U⟩ := T.is_water
  have S := sc_is_water
  refine gd_mk hm U m_is_water (fnD_ok (k := 6) U S l_is_water fun cdv A fr s H E F0 hg hr => ⟨t_is_water, ?_, fun ds Q h => p_is_water ds Q h⟩)
  exact s_cons (s_expr (d_callG G_need_hill b_need_hill (by decide) hg hr pass0 (l_cons (d_var 0) (l_nil))))
          (s_one (s_ret (d_callG G_is_lower_value b_is_lower_value (by decide) hg hr pass0 (l_cons (d_var 0) (l_cons (d_var 1) (l_nil))))))
theorem gd__law_is_led_right (T : Top K mg) (G_carried_water : Gd P w K mg base (dkZ P w aD aC aS) "carried_water" s_carried_water ["one", "other", "places", "water"] 9 g_carried_water) (G_carried_script : Gd P w K mg base (dkZ P w aD aC aS) "carried_script" s_carried_script ["one", "other", "places", "script"] 9 g_carried_script) (G__law_carried : Gd P w K mg base (dkZ P w aD aC aS) "_law_carried" s__law_carried ["places", "lot"] 1 g__law_carried) (G_is_water : Gd P w K mg base (dkZ P w aD aC aS) "is_water" s_is_water ["hill", "thing"] 7 g_is_water) (G_run : Gd P w K mg base (dkZ P w aD aC aS) "run" s_run ["hill", "water", "script"] 8 g_run) (G__law_couple : Gd P w K mg base (dkZ P w aD aC aS) "_law_couple" s__law_couple ["sides", "script"] 2 g__law_couple) (G__law_sides : Gd P w K mg base (dkZ P w aD aC aS) "_law_sides" s__law_sides ["hill"] 1 g__law_sides) (G__law_told_couple : Gd P w K mg base (dkZ P w aD aC aS) "_law_told_couple" s__law_told_couple ["hill", "script"] 8 g__law_told_couple) (G_couple_of : Gd P w K mg base (dkZ P w aD aC aS) "couple_of" s_couple_of ["hill", "script"] 7 g_couple_of) : Gd P w K mg base (dkZ P w aD aC aS) "_law_is_led_right" s__law_is_led_right ["one", "other", "places", "water", "script"] 10 g__law_is_led_right := by
  obtain ⟨f, fd, hm, U⟩ := T._law_is_led_right
  have S := sc__law_is_led_right
  refine gd_mk hm U m__law_is_led_right (fnD_ok (k := 9) U S l__law_is_led_right fun cdv A fr s H E F0 hg hr => ⟨t__law_is_led_right, ?_, fun ds Q h => p__law_is_led_right ds Q h⟩)
  exact s_cons (s_par (i := 5) (j := 6) rfl S.nd rfl rfl (by decide) rfl rfl (l_cons (d_callG G_carried_water b_carried_water (by decide) hg hr pass0 (l_cons (d_var 0) (l_cons (d_var 1) (l_cons (d_var 2) (l_cons (d_var 3) (l_nil)))))) (l_cons (d_callG G_carried_script b_carried_script (by decide) hg hr pass0 (l_cons (d_var 0) (l_cons (d_var 1) (l_cons (d_var 2) (l_cons (d_var 4) (l_nil)))))) (l_nil))) (by rfl))
          (s_cons (s_if ((bw_or (b_cmp (op_neQ hr.units) lk_rel (d_repr hr.units hg (l_cons (d_var 5) (l_nil)) T.z_repr) (d_repr hr.units hg (l_cons (d_callG G__law_carried b__law_carried (by decide) hg hr pass0 (l_cons (d_var 2) (l_cons (d_var 3) (l_nil)))) (l_nil)) T.z_repr) (nomark _)) (bw_or1 (b_not (b_val (d_callG G_is_water b_is_water (by decide) hg hr pass0 (l_cons (d_var 0) (l_cons (d_var 5) (l_nil)))))))).toB) (s_one (s_ret (d_bl))) (s_nil))
          (s_cons (s_if (b_cmp (op_neQ hr.units) lk_rel (d_repr hr.units hg (l_cons (d_callGK [3, 2, 1, 0] G_carried_water bk_carried_water_water_places_other_one (by decide) (by decide) hg hr pass0 (k_cons (d_var 3) (k_cons (d_var 2) (k_cons (d_var 1) (k_cons (d_var 0) (k_nil)))))) (l_nil)) T.z_repr) (d_repr hr.units hg (l_cons (d_var 5) (l_nil)) T.z_repr) (nomark _)) (s_one (s_ret (d_bl))) (s_nil))
          (s_cons (s_set (i := 7) S.nd rfl (.inl rfl) (d_callG G_run b_run (by decide) hg hr pass0 (l_cons (d_var 1) (l_cons (d_var 3) (l_cons (d_var 4) (l_nil))))))
          (s_cons (s_if ((bw_and (b_cmp (op_leQ hr.units) lk_rel (d_len (l_cons (d_var 6) (l_nil)) T.z_len) (d_int) (nomark _)) (bw_and1 (b_cmp (op_neQ hr.units) lk_rel (d_repr hr.units hg (l_cons (d_callG G_run b_run (by decide) hg hr pass0 (l_cons (d_var 0) (l_cons (d_var 5) (l_cons (d_var 6) (l_nil))))) (l_nil)) T.z_repr) (d_repr hr.units hg (l_cons (d_callG G_carried_water b_carried_water (by decide) hg hr pass0 (l_cons (d_var 0) (l_cons (d_var 1) (l_cons (d_var 2) (l_cons (d_var 7) (l_nil)))))) (l_nil)) T.z_repr) (nomark _)))).toB) (s_one (s_ret (d_bl))) (s_nil))
          (s_cons (s_asg (d_callG G__law_couple b__law_couple (by decide) hg hr pass0 (l_cons (d_callG G__law_sides b__law_sides (by decide) hg hr pass0 (l_cons (d_var 1) (l_nil))) (l_cons (d_var 4) (l_nil)))) (g_tup rfl (gs_cons (g_name (i := 8) S.nd rfl (.inl rfl)) (gs_cons (g_name (i := 9) S.nd rfl (.inl rfl)) (gs_nil)))))
          (s_cons (s_set (i := 10) S.nd rfl (.inl rfl) (d_tup (l_cons (d_callG G__law_carried b__law_carried (by decide) hg hr pass0 (l_cons (d_var 2) (l_cons (d_var 8) (l_nil)))) (l_cons (d_callG G__law_carried b__law_carried (by decide) hg hr pass0 (l_cons (d_var 2) (l_cons (d_var 9) (l_nil)))) (l_nil)))))
          (s_one (s_ret (d_eq hr.units (d_repr hr.units hg (l_cons (d_lst (l_cons (d_callG G__law_told_couple b__law_told_couple (by decide) hg hr pass0 (l_cons (d_var 0) (l_cons (d_var 6) (l_nil)))) (l_cons (d_callG G_couple_of b_couple_of (by decide) hg hr pass0 (l_cons (d_var 1) (l_cons (d_var 4) (l_nil)))) (l_nil)))) (l_nil)) T.z_repr) (d_repr hr.units hg (l_cons (d_lst (l_cons (d_var 10) (l_cons (d_tup (l_cons (d_var 8) (l_cons (d_var 9) (l_nil)))) (l_nil)))) (l_nil)) T.z_repr))))))))))
theorem fn_law {f : Addr} {fd : FuncData} (T : Top K mg) (U : Fun K "law" "law" s_law f fd) (G__law_mapped : ∀ aD aC aS, Gd P w K mg base (dkZ P w aD aC aS) "_law_mapped" s__law_mapped ["deck", "most"] 4 g__law_mapped) (G__law_pick : ∀ aD aC aS, Gd P w K mg base (dkZ P w aD aC aS) "_law_pick" s__law_pick ["deck", "some"] 2 g__law_pick) (G__law_script : ∀ aD aC aS, Gd P w K mg base (dkZ P w aD aC aS) "_law_script" s__law_script ["deck", "n", "most"] 3 g__law_script) (G__law_draw : ∀ aD aC aS, Gd P w K mg base (dkZ P w aD aC aS) "_law_draw" s__law_draw ["deck", "many"] 1 g__law_draw) (G__law_closing : ∀ aD aC aS, Gd P w K mg base (dkZ P w aD aC aS) "_law_closing" s__law_closing ["rows", "lot"] 1 g__law_closing) (G__law_sides : ∀ aD aC aS, Gd P w K mg base (dkZ P w aD aC aS) "_law_sides" s__law_sides ["hill"] 1 g__law_sides) (G__law_lot : ∀ aD aC aS, Gd P w K mg base (dkZ P w aD aC aS) "_law_lot" s__law_lot ["deck", "n"] 3 g__law_lot) (G__law_are_deeds_right : ∀ aD aC aS, Gd P w K mg base (dkZ P w aD aC aS) "_law_are_deeds_right" s__law_are_deeds_right ["one", "other", "places", "script"] 10 g__law_are_deeds_right) (G__law_is_led_right : ∀ aD aC aS, Gd P w K mg base (dkZ P w aD aC aS) "_law_is_led_right" s__law_is_led_right ["one", "other", "places", "water", "script"] 10 g__law_is_led_right) (G_carried_water : ∀ aD aC aS, Gd P w K mg base (dkZ P w aD aC aS) "carried_water" s_carried_water ["one", "other", "places", "water"] 9 g_carried_water) (G_run : ∀ aD aC aS, Gd P w K mg base (dkZ P w aD aC aS) "run" s_run ["hill", "water", "script"] 8 g_run) (G_carried_script : ∀ aD aC aS, Gd P w K mg base (dkZ P w aD aC aS) "carried_script" s_carried_script ["one", "other", "places", "script"] 9 g_carried_script) (G__law_led : ∀ aD aC aS, Gd P w K mg base (dkZ P w aD aC aS) "_law_led" s__law_led ["deck", "one", "n"] 2 g__law_led) (G__law_is_twice_right : ∀ aD aC aS, Gd P w K mg base (dkZ P w aD aC aS) "_law_is_twice_right" s__law_is_twice_right ["one", "other", "third", "maps"] 10 g__law_is_twice_right) : FnG P w K mg base CX0 11 f fd ["script"] (spLaw K) := by
  have S := sc_law
  obtain ⟨fD, dD, hD, UD⟩ := T._law_deck
  have FD : FnG P w K mg base CX0 1 fD dD ["script"] (spDeck "left" "draws" K) := fn_deck T UD
  refine fnG_of (k := 10) U S (fun vs H Q E h => ?_) fun cdv A fr s H vs Q E hg hr h => ?_
  · obtain ⟨a, ns, rfl, _⟩ := h
    rfl
  · obtain ⟨a, ns, rfl, hs, h63, q⟩ := h
    refine ⟨_, PSs.nox (pss_cons (ps_set (i := 1) S.nd rfl (.inl rfl) (pe_callG (FD.mono (by decide)) hg hr hD UD.kp (binds_k (UD.binds b__law_deck)) pass0 (pa_cons (pv 0) pa_nil))) (pss_ex "left" "draws" (t := t_law) fun aD aC aS F0 H0 => by
      have G__law_mapped := G__law_mapped aD aC aS
      have G__law_pick := G__law_pick aD aC aS
      have G__law_script := G__law_script aD aC aS
      have G__law_draw := G__law_draw aD aC aS
      have G__law_closing := G__law_closing aD aC aS
      have G__law_sides := G__law_sides aD aC aS
      have G__law_lot := G__law_lot aD aC aS
      have G__law_are_deeds_right := G__law_are_deeds_right aD aC aS
      have G__law_is_led_right := G__law_is_led_right aD aC aS
      have G_carried_water := G_carried_water aD aC aS
      have G_run := G_run aD aC aS
      have G_carried_script := G_carried_script aD aC aS
      have G__law_led := G__law_led aD aC aS
      have G__law_is_twice_right := G__law_is_twice_right aD aC aS
      exact s_cons (s_asg (d_callG G__law_mapped b__law_mapped (by decide) hg hr pass0 (l_cons (d_var 1) (l_cons (d_callG G__law_pick b__law_pick (by decide) hg hr pass0 (l_cons (d_var 1) (l_cons (d_lst (l_cons (d_int) (l_cons (d_int) (l_cons (d_int) (l_cons (d_int) (l_cons (d_int) (l_cons (d_int) (l_cons (d_int) (l_cons (d_int) (l_nil)))))))))) (l_nil)))) (l_nil)))) (g_tup rfl (gs_cons (g_name (i := 2) S.nd rfl (.inl rfl)) (gs_cons (g_name (i := 3) S.nd rfl (.inl rfl)) (gs_cons (g_name (i := 4) S.nd rfl (.inl rfl)) (gs_nil))))))
          (s_cons (s_set (i := 5) S.nd rfl (.inl rfl) (d_callG G__law_script b__law_script (by decide) hg hr pass0 (l_cons (d_var 1) (l_cons (d_item (d_var 3) (d_int)) (l_cons (d_ifExp (b_cmp (op_gtQ hr.units) lk_rel (d_callG G__law_draw b__law_draw (by decide) hg hr pass0 (l_cons (d_var 1) (l_cons (d_int) (l_nil)))) (d_int) (nomark _)) (d_int) (d_int)) (l_nil))))))
          (s_cons (s_set (i := 6) S.nd rfl (.inl rfl) (d_callG G__law_closing b__law_closing (by decide) hg hr pass0 (l_cons (d_item (d_callG G__law_sides b__law_sides (by decide) hg hr pass0 (l_cons (d_var 3) (l_nil))) (d_int)) (l_cons (d_callG G__law_lot b__law_lot (by decide) hg hr pass0 (l_cons (d_var 1) (l_cons (d_item (d_var 3) (d_int)) (l_nil)))) (l_nil)))))
          (s_cons (s_if ((bw_or (b_not (b_val (d_callG G__law_are_deeds_right b__law_are_deeds_right (by decide) hg hr pass0 (l_cons (d_var 2) (l_cons (d_var 3) (l_cons (d_var 4) (l_cons (d_var 5) (l_nil)))))))) (bw_or1 (b_not (b_val (d_callG G__law_is_led_right b__law_is_led_right (by decide) hg hr pass0 (l_cons (d_var 2) (l_cons (d_var 3) (l_cons (d_var 4) (l_cons (d_var 6) (l_cons (d_var 5) (l_nil))))))))))).toB) (s_one (s_ret (d_bl))) (s_nil))
          (s_cons (s_set (i := 7) S.nd rfl (.inl rfl) (d_tupRg1 rfl (d_item (d_var 3) (d_int)) T.z_tuple T.z_range))
          (s_cons (s_set (i := 8) S.nd rfl (.inl rfl) (d_lst (l_cons (d_callG G_carried_water b_carried_water (by decide) hg hr pass0 (l_cons (d_var 3) (l_cons (d_var 3) (l_cons (d_var 7) (l_cons (d_var 6) (l_nil)))))) (l_cons (d_callG G_run b_run (by decide) hg hr pass0 (l_cons (d_var 3) (l_cons (d_var 6) (l_cons (d_callG G_carried_script b_carried_script (by decide) hg hr pass0 (l_cons (d_var 3) (l_cons (d_var 3) (l_cons (d_var 7) (l_cons (d_var 5) (l_nil)))))) (l_nil))))) (l_nil)))))
          (s_cons (s_if (b_cmp (op_neQ hr.units) lk_rel (d_repr hr.units hg (l_cons (d_var 8) (l_nil)) T.z_repr) (d_repr hr.units hg (l_cons (d_lst (l_cons (d_var 6) (l_cons (d_callG G_run b_run (by decide) hg hr pass0 (l_cons (d_var 3) (l_cons (d_var 6) (l_cons (d_var 5) (l_nil))))) (l_nil)))) (l_nil)) T.z_repr) (nomark _)) (s_one (s_ret (d_bl))) (s_nil))
          (s_cons (s_asg (d_callG G__law_led b__law_led (by decide) hg hr pass0 (l_cons (d_var 1) (l_cons (d_var 3) (l_cons (d_add (d_int) (d_callG G__law_draw b__law_draw (by decide) hg hr pass0 (l_cons (d_var 1) (l_cons (d_int) (l_nil))))) (l_nil))))) (g_tup rfl (gs_cons (g_name (i := 9) S.nd rfl (.inl rfl)) (gs_cons (g_name (i := 10) S.nd rfl (.inl rfl)) (gs_nil)))))
          (s_cons (s_set (i := 11) S.nd rfl (.inl rfl) (d_callG G__law_closing b__law_closing (by decide) hg hr pass0 (l_cons (d_item (d_callG G__law_sides b__law_sides (by decide) hg hr pass0 (l_cons (d_var 9) (l_nil))) (d_int)) (l_cons (d_callG G__law_lot b__law_lot (by decide) hg hr pass0 (l_cons (d_var 1) (l_cons (d_item (d_var 9) (d_int)) (l_nil)))) (l_nil)))))
          (s_one (s_ret (d_callG G__law_is_twice_right b__law_is_twice_right (by decide) hg hr pass0 (l_cons (d_var 2) (l_cons (d_var 3) (l_cons (d_var 9) (l_cons (d_tup (l_cons (d_var 4) (l_cons (d_var 10) (l_cons (d_var 11) (l_cons (d_callG G__law_script b__law_script (by decide) hg hr pass0 (l_cons (d_var 1) (l_cons (d_item (d_var 9) (d_int)) (l_cons (d_int) (l_nil))))) (l_nil)))))) (l_nil)))))))))))))))))), ?_⟩
    refine ⟨.ref a, rfl, a, ns, rfl, hs, h63, fun H' aD aC m _ _ _ d mt => ⟨aD, aC, a, fun _ => False, H', ?_⟩⟩
    exact law_rest (n := 10) mt d q p_law
end
theorem all_mk {l : PySem.W.OpenLaw} {w : World} {K : PySem.W.Frag} {h : Heap} {mg : Str → Option Value} {fa : Addr} (X : K.In h) (G : h.Ns mainGlobals mg) (hfa : mg "law" = some (.ref fa))
    {f0 : Addr} {od0 an0 : Option Addr} {sl0 : Array (Option Value)} {oc0 kV0 dc0 pm0 cd0 ct0 : Value}
    {f1 : Addr} {od1 an1 : Option Addr} {sl1 : Array (Option Value)} {oc1 kV1 dc1 pm1 cd1 ct1 : Value}
    {f2 : Addr} {od2 an2 : Option Addr} {sl2 : Array (Option Value)} {oc2 kV2 dc2 pm2 cd2 ct2 : Value}
    {f3 : Addr} {od3 an3 : Option Addr} {sl3 : Array (Option Value)} {oc3 kV3 dc3 pm3 cd3 ct3 : Value}
    {f4 : Addr} {od4 an4 : Option Addr} {sl4 : Array (Option Value)} {oc4 kV4 dc4 pm4 cd4 ct4 : Value}
    {f5 : Addr} {od5 an5 : Option Addr} {sl5 : Array (Option Value)} {oc5 kV5 dc5 pm5 cd5 ct5 : Value}
    {f6 : Addr} {od6 an6 : Option Addr} {sl6 : Array (Option Value)} {oc6 kV6 dc6 pm6 cd6 ct6 : Value}
    {f7 : Addr} {od7 an7 : Option Addr} {sl7 : Array (Option Value)} {oc7 kV7 dc7 pm7 cd7 ct7 : Value}
    {f8 : Addr} {od8 an8 : Option Addr} {sl8 : Array (Option Value)} {oc8 kV8 dc8 pm8 cd8 ct8 : Value}
    {f9 : Addr} {od9 an9 : Option Addr} {sl9 : Array (Option Value)} {oc9 kV9 dc9 pm9 cd9 ct9 : Value}
    {f10 : Addr} {od10 an10 : Option Addr} {sl10 : Array (Option Value)} {oc10 kV10 dc10 pm10 cd10 ct10 : Value}
    {f11 : Addr} {od11 an11 : Option Addr} {sl11 : Array (Option Value)} {oc11 kV11 dc11 pm11 cd11 ct11 : Value}
    {f12 : Addr} {od12 an12 : Option Addr} {sl12 : Array (Option Value)} {oc12 kV12 dc12 pm12 cd12 ct12 : Value}
    {f13 : Addr} {od13 an13 : Option Addr} {sl13 : Array (Option Value)} {oc13 kV13 dc13 pm13 cd13 ct13 : Value}
    {f14 : Addr} {od14 an14 : Option Addr} {sl14 : Array (Option Value)} {oc14 kV14 dc14 pm14 cd14 ct14 : Value}
    {f15 : Addr} {od15 an15 : Option Addr} {sl15 : Array (Option Value)} {oc15 kV15 dc15 pm15 cd15 ct15 : Value}
    {f16 : Addr} {od16 an16 : Option Addr} {sl16 : Array (Option Value)} {oc16 kV16 dc16 pm16 cd16 ct16 : Value}
    {f17 : Addr} {od17 an17 : Option Addr} {sl17 : Array (Option Value)} {oc17 kV17 dc17 pm17 cd17 ct17 : Value}
    {f18 : Addr} {od18 an18 : Option Addr} {sl18 : Array (Option Value)} {oc18 kV18 dc18 pm18 cd18 ct18 : Value}
    {f19 : Addr} {od19 an19 : Option Addr} {sl19 : Array (Option Value)} {oc19 kV19 dc19 pm19 cd19 ct19 : Value}
    {f20 : Addr} {od20 an20 : Option Addr} {sl20 : Array (Option Value)} {oc20 kV20 dc20 pm20 cd20 ct20 : Value}
    {f21 : Addr} {od21 an21 : Option Addr} {sl21 : Array (Option Value)} {oc21 kV21 dc21 pm21 cd21 ct21 : Value}
    {f22 : Addr} {od22 an22 : Option Addr} {sl22 : Array (Option Value)} {oc22 kV22 dc22 pm22 cd22 ct22 : Value}
    {f23 : Addr} {od23 an23 : Option Addr} {sl23 : Array (Option Value)} {oc23 kV23 dc23 pm23 cd23 ct23 : Value}
    {f24 : Addr} {od24 an24 : Option Addr} {sl24 : Array (Option Value)} {oc24 kV24 dc24 pm24 cd24 ct24 : Value}
    {f25 : Addr} {od25 an25 : Option Addr} {sl25 : Array (Option Value)} {oc25 kV25 dc25 pm25 cd25 ct25 : Value}
    {f26 : Addr} {od26 an26 : Option Addr} {sl26 : Array (Option Value)} {oc26 kV26 dc26 pm26 cd26 ct26 : Value}
    {f27 : Addr} {od27 an27 : Option Addr} {sl27 : Array (Option Value)} {oc27 kV27 dc27 pm27 cd27 ct27 : Value}
    {f28 : Addr} {od28 an28 : Option Addr} {sl28 : Array (Option Value)} {oc28 kV28 dc28 pm28 cd28 ct28 : Value}
    {f29 : Addr} {od29 an29 : Option Addr} {sl29 : Array (Option Value)} {oc29 kV29 dc29 pm29 cd29 ct29 : Value}
    {f30 : Addr} {od30 an30 : Option Addr} {sl30 : Array (Option Value)} {oc30 kV30 dc30 pm30 cd30 ct30 : Value}
    {f31 : Addr} {od31 an31 : Option Addr} {sl31 : Array (Option Value)} {oc31 kV31 dc31 pm31 cd31 ct31 : Value}
    {f32 : Addr} {od32 an32 : Option Addr} {sl32 : Array (Option Value)} {oc32 kV32 dc32 pm32 cd32 ct32 : Value}
    {f33 : Addr} {od33 an33 : Option Addr} {sl33 : Array (Option Value)} {oc33 kV33 dc33 pm33 cd33 ct33 : Value}
    {f34 : Addr} {od34 an34 : Option Addr} {sl34 : Array (Option Value)} {oc34 kV34 dc34 pm34 cd34 ct34 : Value}
    {f35 : Addr} {od35 an35 : Option Addr} {sl35 : Array (Option Value)} {oc35 kV35 dc35 pm35 cd35 ct35 : Value}
    {f36 : Addr} {od36 an36 : Option Addr} {sl36 : Array (Option Value)} {oc36 kV36 dc36 pm36 cd36 ct36 : Value}
    {f37 : Addr} {od37 an37 : Option Addr} {sl37 : Array (Option Value)} {oc37 kV37 dc37 pm37 cd37 ct37 : Value}
    {f38 : Addr} {od38 an38 : Option Addr} {sl38 : Array (Option Value)} {oc38 kV38 dc38 pm38 cd38 ct38 : Value}
    {f39 : Addr} {od39 an39 : Option Addr} {sl39 : Array (Option Value)} {oc39 kV39 dc39 pm39 cd39 ct39 : Value}
    {f40 : Addr} {od40 an40 : Option Addr} {sl40 : Array (Option Value)} {oc40 kV40 dc40 pm40 cd40 ct40 : Value}
    {f41 : Addr} {od41 an41 : Option Addr} {sl41 : Array (Option Value)} {oc41 kV41 dc41 pm41 cd41 ct41 : Value}
    {f42 : Addr} {od42 an42 : Option Addr} {sl42 : Array (Option Value)} {oc42 kV42 dc42 pm42 cd42 ct42 : Value}
    {f43 : Addr} {od43 an43 : Option Addr} {sl43 : Array (Option Value)} {oc43 kV43 dc43 pm43 cd43 ct43 : Value}
    {f44 : Addr} {od44 an44 : Option Addr} {sl44 : Array (Option Value)} {oc44 kV44 dc44 pm44 cd44 ct44 : Value}
    {f45 : Addr} {od45 an45 : Option Addr} {sl45 : Array (Option Value)} {oc45 kV45 dc45 pm45 cd45 ct45 : Value}
    {f46 : Addr} {od46 an46 : Option Addr} {sl46 : Array (Option Value)} {oc46 kV46 dc46 pm46 cd46 ct46 : Value}
    {f47 : Addr} {od47 an47 : Option Addr} {sl47 : Array (Option Value)} {oc47 kV47 dc47 pm47 cd47 ct47 : Value}
    {f48 : Addr} {od48 an48 : Option Addr} {sl48 : Array (Option Value)} {oc48 kV48 dc48 pm48 cd48 ct48 : Value}
    {f49 : Addr} {od49 an49 : Option Addr} {sl49 : Array (Option Value)} {oc49 kV49 dc49 pm49 cd49 ct49 : Value}
    {f50 : Addr} {od50 an50 : Option Addr} {sl50 : Array (Option Value)} {oc50 kV50 dc50 pm50 cd50 ct50 : Value}
    {f51 : Addr} {od51 an51 : Option Addr} {sl51 : Array (Option Value)} {oc51 kV51 dc51 pm51 cd51 ct51 : Value}
    {f52 : Addr} {od52 an52 : Option Addr} {sl52 : Array (Option Value)} {oc52 kV52 dc52 pm52 cd52 ct52 : Value}
    {f53 : Addr} {od53 an53 : Option Addr} {sl53 : Array (Option Value)} {oc53 kV53 dc53 pm53 cd53 ct53 : Value}
    {f54 : Addr} {od54 an54 : Option Addr} {sl54 : Array (Option Value)} {oc54 kV54 dc54 pm54 cd54 ct54 : Value}
    {f55 : Addr} {od55 an55 : Option Addr} {sl55 : Array (Option Value)} {oc55 kV55 dc55 pm55 cd55 ct55 : Value}
    {f56 : Addr} {od56 an56 : Option Addr} {sl56 : Array (Option Value)} {oc56 kV56 dc56 pm56 cd56 ct56 : Value}
    {f57 : Addr} {od57 an57 : Option Addr} {sl57 : Array (Option Value)} {oc57 kV57 dc57 pm57 cd57 ct57 : Value}
    {f58 : Addr} {od58 an58 : Option Addr} {sl58 : Array (Option Value)} {oc58 kV58 dc58 pm58 cd58 ct58 : Value}
    {f59 : Addr} {od59 an59 : Option Addr} {sl59 : Array (Option Value)} {oc59 kV59 dc59 pm59 cd59 ct59 : Value}
    {f60 : Addr} {od60 an60 : Option Addr} {sl60 : Array (Option Value)} {oc60 kV60 dc60 pm60 cd60 ct60 : Value}
    {f61 : Addr} {od61 an61 : Option Addr} {sl61 : Array (Option Value)} {oc61 kV61 dc61 pm61 cd61 ct61 : Value}
    {f62 : Addr} {od62 an62 : Option Addr} {sl62 : Array (Option Value)} {oc62 kV62 dc62 pm62 cd62 ct62 : Value}
    {f63 : Addr} {od63 an63 : Option Addr} {sl63 : Array (Option Value)} {oc63 kV63 dc63 pm63 cd63 ct63 : Value}
    {f64 : Addr} {od64 an64 : Option Addr} {sl64 : Array (Option Value)} {oc64 kV64 dc64 pm64 cd64 ct64 : Value}
    {t_MOST_TERRACES : Tok}
    {a_WORDS n_WORDS : Nat} {od_WORDS : Option Addr} {sl_WORDS : Array (Option Value)} {t0_WORDS t1_WORDS : Tok}
    (a0 : PySem.W.nsIn K mainGlobals "_law_deck" = some (some (.ref f0))) (l0 : K.lookup f0 = some ⟨oc0, od0, .func (PySem.W.fnOf "_law_deck" "_law_deck" (defArgs s__law_deck) (defBody s__law_deck) (defScope s__law_deck) .none kV0 dc0 pm0 an0 cd0 ct0), sl0⟩) (c0 : PySem.W.codeIn K cd0 "_law_deck" = true) (k0 : PySem.W.keepIn K (.ref f0) = true)
    (a1 : PySem.W.nsIn K mainGlobals "_law_closed" = some (some (.ref f1))) (l1 : K.lookup f1 = some ⟨oc1, od1, .func (PySem.W.fnOf "_law_closed" "_law_closed" (defArgs s__law_closed) (defBody s__law_closed) (defScope s__law_closed) .none kV1 dc1 pm1 an1 cd1 ct1), sl1⟩) (c1 : PySem.W.codeIn K cd1 "_law_closed" = true) (k1 : PySem.W.keepIn K (.ref f1) = true)
    (a2 : PySem.W.nsIn K mainGlobals "_law_sides" = some (some (.ref f2))) (l2 : K.lookup f2 = some ⟨oc2, od2, .func (PySem.W.fnOf "_law_sides" "_law_sides" (defArgs s__law_sides) (defBody s__law_sides) (defScope s__law_sides) .none kV2 dc2 pm2 an2 cd2 ct2), sl2⟩) (c2 : PySem.W.codeIn K cd2 "_law_sides" = true) (k2 : PySem.W.keepIn K (.ref f2) = true)
    (a3 : PySem.W.nsIn K mainGlobals "_law_draw" = some (some (.ref f3))) (l3 : K.lookup f3 = some ⟨oc3, od3, .func (PySem.W.fnOf "_law_draw" "_law_draw" (defArgs s__law_draw) (defBody s__law_draw) (defScope s__law_draw) .none kV3 dc3 pm3 an3 cd3 ct3), sl3⟩) (c3 : PySem.W.codeIn K cd3 "_law_draw" = true) (k3 : PySem.W.keepIn K (.ref f3) = true)
    (a4 : PySem.W.nsIn K mainGlobals "_law_leading" = some (some (.ref f4))) (l4 : K.lookup f4 = some ⟨oc4, od4, .func (PySem.W.fnOf "_law_leading" "_law_leading" (defArgs s__law_leading) (defBody s__law_leading) (defScope s__law_leading) .none kV4 dc4 pm4 an4 cd4 ct4), sl4⟩) (c4 : PySem.W.codeIn K cd4 "_law_leading" = true) (k4 : PySem.W.keepIn K (.ref f4) = true)
    (a5 : PySem.W.nsIn K mainGlobals "_law_shuffled" = some (some (.ref f5))) (l5 : K.lookup f5 = some ⟨oc5, od5, .func (PySem.W.fnOf "_law_shuffled" "_law_shuffled" (defArgs s__law_shuffled) (defBody s__law_shuffled) (defScope s__law_shuffled) .none kV5 dc5 pm5 an5 cd5 ct5), sl5⟩) (c5 : PySem.W.codeIn K cd5 "_law_shuffled" = true) (k5 : PySem.W.keepIn K (.ref f5) = true)
    (a6 : PySem.W.nsIn K mainGlobals "_law_hill" = some (some (.ref f6))) (l6 : K.lookup f6 = some ⟨oc6, od6, .func (PySem.W.fnOf "_law_hill" "_law_hill" (defArgs s__law_hill) (defBody s__law_hill) (defScope s__law_hill) .none kV6 dc6 pm6 an6 cd6 ct6), sl6⟩) (c6 : PySem.W.codeIn K cd6 "_law_hill" = true) (k6 : PySem.W.keepIn K (.ref f6) = true)
    (a7 : PySem.W.nsIn K mainGlobals "_law_led" = some (some (.ref f7))) (l7 : K.lookup f7 = some ⟨oc7, od7, .func (PySem.W.fnOf "_law_led" "_law_led" (defArgs s__law_led) (defBody s__law_led) (defScope s__law_led) .none kV7 dc7 pm7 an7 cd7 ct7), sl7⟩) (c7 : PySem.W.codeIn K cd7 "_law_led" = true) (k7 : PySem.W.keepIn K (.ref f7) = true)
    (a8 : PySem.W.nsIn K mainGlobals "_law_mapped" = some (some (.ref f8))) (l8 : K.lookup f8 = some ⟨oc8, od8, .func (PySem.W.fnOf "_law_mapped" "_law_mapped" (defArgs s__law_mapped) (defBody s__law_mapped) (defScope s__law_mapped) .none kV8 dc8 pm8 an8 cd8 ct8), sl8⟩) (c8 : PySem.W.codeIn K cd8 "_law_mapped" = true) (k8 : PySem.W.keepIn K (.ref f8) = true)
    (a9 : PySem.W.nsIn K mainGlobals "_law_pick" = some (some (.ref f9))) (l9 : K.lookup f9 = some ⟨oc9, od9, .func (PySem.W.fnOf "_law_pick" "_law_pick" (defArgs s__law_pick) (defBody s__law_pick) (defScope s__law_pick) .none kV9 dc9 pm9 an9 cd9 ct9), sl9⟩) (c9 : PySem.W.codeIn K cd9 "_law_pick" = true) (k9 : PySem.W.keepIn K (.ref f9) = true)
    (a10 : PySem.W.nsIn K mainGlobals "_law_script" = some (some (.ref f10))) (l10 : K.lookup f10 = some ⟨oc10, od10, .func (PySem.W.fnOf "_law_script" "_law_script" (defArgs s__law_script) (defBody s__law_script) (defScope s__law_script) .none kV10 dc10 pm10 an10 cd10 ct10), sl10⟩) (c10 : PySem.W.codeIn K cd10 "_law_script" = true) (k10 : PySem.W.keepIn K (.ref f10) = true)
    (a11 : PySem.W.nsIn K mainGlobals "_law_closing" = some (some (.ref f11))) (l11 : K.lookup f11 = some ⟨oc11, od11, .func (PySem.W.fnOf "_law_closing" "_law_closing" (defArgs s__law_closing) (defBody s__law_closing) (defScope s__law_closing) .none kV11 dc11 pm11 an11 cd11 ct11), sl11⟩) (c11 : PySem.W.codeIn K cd11 "_law_closing" = true) (k11 : PySem.W.keepIn K (.ref f11) = true)
    (a12 : PySem.W.nsIn K mainGlobals "is_integer" = some (some (.ref f12))) (l12 : K.lookup f12 = some ⟨oc12, od12, .func (PySem.W.fnOf "is_integer" "is_integer" (defArgs s_is_integer) (defBody s_is_integer) (defScope s_is_integer) .none kV12 dc12 pm12 an12 cd12 ct12), sl12⟩) (c12 : PySem.W.codeIn K cd12 "is_integer" = true) (k12 : PySem.W.keepIn K (.ref f12) = true)
    (a13 : PySem.W.nsIn K mainGlobals "is_between" = some (some (.ref f13))) (l13 : K.lookup f13 = some ⟨oc13, od13, .func (PySem.W.fnOf "is_between" "is_between" (defArgs s_is_between) (defBody s_is_between) (defScope s_is_between) .none kV13 dc13 pm13 an13 cd13 ct13), sl13⟩) (c13 : PySem.W.codeIn K cd13 "is_between" = true) (k13 : PySem.W.keepIn K (.ref f13) = true)
    (a14 : PySem.W.nsIn K mainGlobals "is_pair_of" = some (some (.ref f14))) (l14 : K.lookup f14 = some ⟨oc14, od14, .func (PySem.W.fnOf "is_pair_of" "is_pair_of" (defArgs s_is_pair_of) (defBody s_is_pair_of) (defScope s_is_pair_of) .none kV14 dc14 pm14 an14 cd14 ct14), sl14⟩) (c14 : PySem.W.codeIn K cd14 "is_pair_of" = true) (k14 : PySem.W.keepIn K (.ref f14) = true)
    (a15 : PySem.W.nsIn K mainGlobals "is_book_value" = some (some (.ref f15))) (l15 : K.lookup f15 = some ⟨oc15, od15, .func (PySem.W.fnOf "is_book_value" "is_book_value" (defArgs s_is_book_value) (defBody s_is_book_value) (defScope s_is_book_value) .none kV15 dc15 pm15 an15 cd15 ct15), sl15⟩) (c15 : PySem.W.codeIn K cd15 "is_book_value" = true) (k15 : PySem.W.keepIn K (.ref f15) = true)
    (a16 : PySem.W.nsIn K mainGlobals "lows" = some (some (.ref f16))) (l16 : K.lookup f16 = some ⟨oc16, od16, .func (PySem.W.fnOf "lows" "lows" (defArgs s_lows) (defBody s_lows) (defScope s_lows) .none kV16 dc16 pm16 an16 cd16 ct16), sl16⟩) (c16 : PySem.W.codeIn K cd16 "lows" = true) (k16 : PySem.W.keepIn K (.ref f16) = true)
    (a17 : PySem.W.nsIn K mainGlobals "hill_of_lows" = some (some (.ref f17))) (l17 : K.lookup f17 = some ⟨oc17, od17, .func (PySem.W.fnOf "hill_of_lows" "hill_of_lows" (defArgs s_hill_of_lows) (defBody s_hill_of_lows) (defScope s_hill_of_lows) .none kV17 dc17 pm17 an17 cd17 ct17), sl17⟩) (c17 : PySem.W.codeIn K cd17 "hill_of_lows" = true) (k17 : PySem.W.keepIn K (.ref f17) = true)
    (a18 : PySem.W.nsIn K mainGlobals "closing_of" = some (some (.ref f18))) (l18 : K.lookup f18 = some ⟨oc18, od18, .func (PySem.W.fnOf "closing_of" "closing_of" (defArgs s_closing_of) (defBody s_closing_of) (defScope s_closing_of) .none kV18 dc18 pm18 an18 cd18 ct18), sl18⟩) (c18 : PySem.W.codeIn K cd18 "closing_of" = true) (k18 : PySem.W.keepIn K (.ref f18) = true)
    (a19 : PySem.W.nsIn K mainGlobals "is_hill_value" = some (some (.ref f19))) (l19 : K.lookup f19 = some ⟨oc19, od19, .func (PySem.W.fnOf "is_hill_value" "is_hill_value" (defArgs s_is_hill_value) (defBody s_is_hill_value) (defScope s_is_hill_value) .none kV19 dc19 pm19 an19 cd19 ct19), sl19⟩) (c19 : PySem.W.codeIn K cd19 "is_hill_value" = true) (k19 : PySem.W.keepIn K (.ref f19) = true)
    (a20 : PySem.W.nsIn K mainGlobals "need_hill" = some (some (.ref f20))) (l20 : K.lookup f20 = some ⟨oc20, od20, .func (PySem.W.fnOf "need_hill" "need_hill" (defArgs s_need_hill) (defBody s_need_hill) (defScope s_need_hill) .none kV20 dc20 pm20 an20 cd20 ct20), sl20⟩) (c20 : PySem.W.codeIn K cd20 "need_hill" = true) (k20 : PySem.W.keepIn K (.ref f20) = true)
    (a21 : PySem.W.nsIn K mainGlobals "need_hills" = some (some (.ref f21))) (l21 : K.lookup f21 = some ⟨oc21, od21, .func (PySem.W.fnOf "need_hills" "need_hills" (defArgs s_need_hills) (defBody s_need_hills) (defScope s_need_hills) .none kV21 dc21 pm21 an21 cd21 ct21), sl21⟩) (c21 : PySem.W.codeIn K cd21 "need_hills" = true) (k21 : PySem.W.keepIn K (.ref f21) = true)
    (a22 : PySem.W.nsIn K mainGlobals "is_map_value" = some (some (.ref f22))) (l22 : K.lookup f22 = some ⟨oc22, od22, .func (PySem.W.fnOf "is_map_value" "is_map_value" (defArgs s_is_map_value) (defBody s_is_map_value) (defScope s_is_map_value) .none kV22 dc22 pm22 an22 cd22 ct22), sl22⟩) (c22 : PySem.W.codeIn K cd22 "is_map_value" = true) (k22 : PySem.W.keepIn K (.ref f22) = true)
    (a23 : PySem.W.nsIn K mainGlobals "need_map" = some (some (.ref f23))) (l23 : K.lookup f23 = some ⟨oc23, od23, .func (PySem.W.fnOf "need_map" "need_map" (defArgs s_need_map) (defBody s_need_map) (defScope s_need_map) .none kV23 dc23 pm23 an23 cd23 ct23), sl23⟩) (c23 : PySem.W.codeIn K cd23 "need_map" = true) (k23 : PySem.W.keepIn K (.ref f23) = true)
    (a24 : PySem.W.nsIn K mainGlobals "is_lot_value" = some (some (.ref f24))) (l24 : K.lookup f24 = some ⟨oc24, od24, .func (PySem.W.fnOf "is_lot_value" "is_lot_value" (defArgs s_is_lot_value) (defBody s_is_lot_value) (defScope s_is_lot_value) .none kV24 dc24 pm24 an24 cd24 ct24), sl24⟩) (c24 : PySem.W.codeIn K cd24 "is_lot_value" = true) (k24 : PySem.W.keepIn K (.ref f24) = true)
    (a25 : PySem.W.nsIn K mainGlobals "lot_of" = some (some (.ref f25))) (l25 : K.lookup f25 = some ⟨oc25, od25, .func (PySem.W.fnOf "lot_of" "lot_of" (defArgs s_lot_of) (defBody s_lot_of) (defScope s_lot_of) .none kV25 dc25 pm25 an25 cd25 ct25), sl25⟩) (c25 : PySem.W.codeIn K cd25 "lot_of" = true) (k25 : PySem.W.keepIn K (.ref f25) = true)
    (a26 : PySem.W.nsIn K mainGlobals "closed_mask" = some (some (.ref f26))) (l26 : K.lookup f26 = some ⟨oc26, od26, .func (PySem.W.fnOf "closed_mask" "closed_mask" (defArgs s_closed_mask) (defBody s_closed_mask) (defScope s_closed_mask) .none kV26 dc26 pm26 an26 cd26 ct26), sl26⟩) (c26 : PySem.W.codeIn K cd26 "closed_mask" = true) (k26 : PySem.W.keepIn K (.ref f26) = true)
    (a27 : PySem.W.nsIn K mainGlobals "lower_mask" = some (some (.ref f27))) (l27 : K.lookup f27 = some ⟨oc27, od27, .func (PySem.W.fnOf "lower_mask" "lower_mask" (defArgs s_lower_mask) (defBody s_lower_mask) (defScope s_lower_mask) .none kV27 dc27 pm27 an27 cd27 ct27), sl27⟩) (c27 : PySem.W.codeIn K cd27 "lower_mask" = true) (k27 : PySem.W.keepIn K (.ref f27) = true)
    (a28 : PySem.W.nsIn K mainGlobals "mask_of" = some (some (.ref f28))) (l28 : K.lookup f28 = some ⟨oc28, od28, .func (PySem.W.fnOf "mask_of" "mask_of" (defArgs s_mask_of) (defBody s_mask_of) (defScope s_mask_of) .none kV28 dc28 pm28 an28 cd28 ct28), sl28⟩) (c28 : PySem.W.codeIn K cd28 "mask_of" = true) (k28 : PySem.W.keepIn K (.ref f28) = true)
    (a29 : PySem.W.nsIn K mainGlobals "is_lower_value" = some (some (.ref f29))) (l29 : K.lookup f29 = some ⟨oc29, od29, .func (PySem.W.fnOf "is_lower_value" "is_lower_value" (defArgs s_is_lower_value) (defBody s_is_lower_value) (defScope s_is_lower_value) .none kV29 dc29 pm29 an29 cd29 ct29), sl29⟩) (c29 : PySem.W.codeIn K cd29 "is_lower_value" = true) (k29 : PySem.W.keepIn K (.ref f29) = true)
    (a30 : PySem.W.nsIn K mainGlobals "need_water_maps" = some (some (.ref f30))) (l30 : K.lookup f30 = some ⟨oc30, od30, .func (PySem.W.fnOf "need_water" "need_water" (defArgs s_need_water_maps) (defBody s_need_water_maps) (defScope s_need_water_maps) .none kV30 dc30 pm30 an30 cd30 ct30), sl30⟩) (c30 : PySem.W.codeIn K cd30 "need_water" = true) (k30 : PySem.W.keepIn K (.ref f30) = true)
    (a31 : PySem.W.nsIn K mainGlobals "carried_mask" = some (some (.ref f31))) (l31 : K.lookup f31 = some ⟨oc31, od31, .func (PySem.W.fnOf "carried_mask" "carried_mask" (defArgs s_carried_mask) (defBody s_carried_mask) (defScope s_carried_mask) .none kV31 dc31 pm31 an31 cd31 ct31), sl31⟩) (c31 : PySem.W.codeIn K cd31 "carried_mask" = true) (k31 : PySem.W.keepIn K (.ref f31) = true)
    (a32 : PySem.W.nsIn K mainGlobals "carried_water" = some (some (.ref f32))) (l32 : K.lookup f32 = some ⟨oc32, od32, .func (PySem.W.fnOf "carried_water" "carried_water" (defArgs s_carried_water) (defBody s_carried_water) (defScope s_carried_water) .none kV32 dc32 pm32 an32 cd32 ct32), sl32⟩) (c32 : PySem.W.codeIn K cd32 "carried_water" = true) (k32 : PySem.W.keepIn K (.ref f32) = true)
    (a33 : PySem.W.nsIn K mainGlobals "is_deed_value" = some (some (.ref f33))) (l33 : K.lookup f33 = some ⟨oc33, od33, .func (PySem.W.fnOf "is_deed_value" "is_deed_value" (defArgs s_is_deed_value) (defBody s_is_deed_value) (defScope s_is_deed_value) .none kV33 dc33 pm33 an33 cd33 ct33), sl33⟩) (c33 : PySem.W.codeIn K cd33 "is_deed_value" = true) (k33 : PySem.W.keepIn K (.ref f33) = true)
    (a34 : PySem.W.nsIn K mainGlobals "is_script_value" = some (some (.ref f34))) (l34 : K.lookup f34 = some ⟨oc34, od34, .func (PySem.W.fnOf "is_script_value" "is_script_value" (defArgs s_is_script_value) (defBody s_is_script_value) (defScope s_is_script_value) .none kV34 dc34 pm34 an34 cd34 ct34), sl34⟩) (c34 : PySem.W.codeIn K cd34 "is_script_value" = true) (k34 : PySem.W.keepIn K (.ref f34) = true)
    (a35 : PySem.W.nsIn K mainGlobals "highs" = some (some (.ref f35))) (l35 : K.lookup f35 = some ⟨oc35, od35, .func (PySem.W.fnOf "highs" "highs" (defArgs s_highs) (defBody s_highs) (defScope s_highs) .none kV35 dc35 pm35 an35 cd35 ct35), sl35⟩) (c35 : PySem.W.codeIn K cd35 "highs" = true) (k35 : PySem.W.keepIn K (.ref f35) = true)
    (a36 : PySem.W.nsIn K mainGlobals "reaches" = some (some (.ref f36))) (l36 : K.lookup f36 = some ⟨oc36, od36, .func (PySem.W.fnOf "reaches" "reaches" (defArgs s_reaches) (defBody s_reaches) (defScope s_reaches) .none kV36 dc36 pm36 an36 cd36 ct36), sl36⟩) (c36 : PySem.W.codeIn K cd36 "reaches" = true) (k36 : PySem.W.keepIn K (.ref f36) = true)
    (a37 : PySem.W.nsIn K mainGlobals "reach_mask" = some (some (.ref f37))) (l37 : K.lookup f37 = some ⟨oc37, od37, .func (PySem.W.fnOf "reach_mask" "reach_mask" (defArgs s_reach_mask) (defBody s_reach_mask) (defScope s_reach_mask) .none kV37 dc37 pm37 an37 cd37 ct37), sl37⟩) (c37 : PySem.W.codeIn K cd37 "reach_mask" = true) (k37 : PySem.W.keepIn K (.ref f37) = true)
    (a38 : PySem.W.nsIn K mainGlobals "ends_of" = some (some (.ref f38))) (l38 : K.lookup f38 = some ⟨oc38, od38, .func (PySem.W.fnOf "ends_of" "ends_of" (defArgs s_ends_of) (defBody s_ends_of) (defScope s_ends_of) .none kV38 dc38 pm38 an38 cd38 ct38), sl38⟩) (c38 : PySem.W.codeIn K cd38 "ends_of" = true) (k38 : PySem.W.keepIn K (.ref f38) = true)
    (a39 : PySem.W.nsIn K mainGlobals "highest_of" = some (some (.ref f39))) (l39 : K.lookup f39 = some ⟨oc39, od39, .func (PySem.W.fnOf "highest_of" "highest_of" (defArgs s_highest_of) (defBody s_highest_of) (defScope s_highest_of) .none kV39 dc39 pm39 an39 cd39 ct39), sl39⟩) (c39 : PySem.W.codeIn K cd39 "highest_of" = true) (k39 : PySem.W.keepIn K (.ref f39) = true)
    (a40 : PySem.W.nsIn K mainGlobals "lowest_of" = some (some (.ref f40))) (l40 : K.lookup f40 = some ⟨oc40, od40, .func (PySem.W.fnOf "lowest_of" "lowest_of" (defArgs s_lowest_of) (defBody s_lowest_of) (defScope s_lowest_of) .none kV40 dc40 pm40 an40 cd40 ct40), sl40⟩) (c40 : PySem.W.codeIn K cd40 "lowest_of" = true) (k40 : PySem.W.keepIn K (.ref f40) = true)
    (a41 : PySem.W.nsIn K mainGlobals "carried_terraces" = some (some (.ref f41))) (l41 : K.lookup f41 = some ⟨oc41, od41, .func (PySem.W.fnOf "carried_terraces" "carried_terraces" (defArgs s_carried_terraces) (defBody s_carried_terraces) (defScope s_carried_terraces) .none kV41 dc41 pm41 an41 cd41 ct41), sl41⟩) (c41 : PySem.W.codeIn K cd41 "carried_terraces" = true) (k41 : PySem.W.keepIn K (.ref f41) = true)
    (a42 : PySem.W.nsIn K mainGlobals "deeds_carried" = some (some (.ref f42))) (l42 : K.lookup f42 = some ⟨oc42, od42, .func (PySem.W.fnOf "deeds_carried" "deeds_carried" (defArgs s_deeds_carried) (defBody s_deeds_carried) (defScope s_deeds_carried) .none kV42 dc42 pm42 an42 cd42 ct42), sl42⟩) (c42 : PySem.W.codeIn K cd42 "deeds_carried" = true) (k42 : PySem.W.keepIn K (.ref f42) = true)
    (a43 : PySem.W.nsIn K mainGlobals "carried_script" = some (some (.ref f43))) (l43 : K.lookup f43 = some ⟨oc43, od43, .func (PySem.W.fnOf "carried_script" "carried_script" (defArgs s_carried_script) (defBody s_carried_script) (defScope s_carried_script) .none kV43 dc43 pm43 an43 cd43 ct43), sl43⟩) (c43 : PySem.W.codeIn K cd43 "carried_script" = true) (k43 : PySem.W.keepIn K (.ref f43) = true)
    (a44 : PySem.W.nsIn K mainGlobals "need_script" = some (some (.ref f44))) (l44 : K.lookup f44 = some ⟨oc44, od44, .func (PySem.W.fnOf "need_script" "need_script" (defArgs s_need_script) (defBody s_need_script) (defScope s_need_script) .none kV44 dc44 pm44 an44 cd44 ct44), sl44⟩) (c44 : PySem.W.codeIn K cd44 "need_script" = true) (k44 : PySem.W.keepIn K (.ref f44) = true)
    (a45 : PySem.W.nsIn K mainGlobals "couple_masks" = some (some (.ref f45))) (l45 : K.lookup f45 = some ⟨oc45, od45, .func (PySem.W.fnOf "couple_masks" "couple_masks" (defArgs s_couple_masks) (defBody s_couple_masks) (defScope s_couple_masks) .none kV45 dc45 pm45 an45 cd45 ct45), sl45⟩) (c45 : PySem.W.codeIn K cd45 "couple_masks" = true) (k45 : PySem.W.keepIn K (.ref f45) = true)
    (a46 : PySem.W.nsIn K mainGlobals "raw_couple" = some (some (.ref f46))) (l46 : K.lookup f46 = some ⟨oc46, od46, .func (PySem.W.fnOf "raw_couple" "raw_couple" (defArgs s_raw_couple) (defBody s_raw_couple) (defScope s_raw_couple) .none kV46 dc46 pm46 an46 cd46 ct46), sl46⟩) (c46 : PySem.W.codeIn K cd46 "raw_couple" = true) (k46 : PySem.W.keepIn K (.ref f46) = true)
    (a47 : PySem.W.nsIn K mainGlobals "couple_of" = some (some (.ref f47))) (l47 : K.lookup f47 = some ⟨oc47, od47, .func (PySem.W.fnOf "couple_of" "couple_of" (defArgs s_couple_of) (defBody s_couple_of) (defScope s_couple_of) .none kV47 dc47 pm47 an47 cd47 ct47), sl47⟩) (c47 : PySem.W.codeIn K cd47 "couple_of" = true) (k47 : PySem.W.keepIn K (.ref f47) = true)
    (a48 : PySem.W.nsIn K mainGlobals "_law_lasts" = some (some (.ref f48))) (l48 : K.lookup f48 = some ⟨oc48, od48, .func (PySem.W.fnOf "_law_lasts" "_law_lasts" (defArgs s__law_lasts) (defBody s__law_lasts) (defScope s__law_lasts) .none kV48 dc48 pm48 an48 cd48 ct48), sl48⟩) (c48 : PySem.W.codeIn K cd48 "_law_lasts" = true) (k48 : PySem.W.keepIn K (.ref f48) = true)
    (a49 : PySem.W.nsIn K mainGlobals "_law_couple" = some (some (.ref f49))) (l49 : K.lookup f49 = some ⟨oc49, od49, .func (PySem.W.fnOf "_law_couple" "_law_couple" (defArgs s__law_couple) (defBody s__law_couple) (defScope s__law_couple) .none kV49 dc49 pm49 an49 cd49 ct49), sl49⟩) (c49 : PySem.W.codeIn K cd49 "_law_couple" = true) (k49 : PySem.W.keepIn K (.ref f49) = true)
    (a50 : PySem.W.nsIn K mainGlobals "_law_told_couple" = some (some (.ref f50))) (l50 : K.lookup f50 = some ⟨oc50, od50, .func (PySem.W.fnOf "_law_told_couple" "_law_told_couple" (defArgs s__law_told_couple) (defBody s__law_told_couple) (defScope s__law_told_couple) .none kV50 dc50 pm50 an50 cd50 ct50), sl50⟩) (c50 : PySem.W.codeIn K cd50 "_law_told_couple" = true) (k50 : PySem.W.keepIn K (.ref f50) = true)
    (a51 : PySem.W.nsIn K mainGlobals "_law_is_twice_right" = some (some (.ref f51))) (l51 : K.lookup f51 = some ⟨oc51, od51, .func (PySem.W.fnOf "_law_is_twice_right" "_law_is_twice_right" (defArgs s__law_is_twice_right) (defBody s__law_is_twice_right) (defScope s__law_is_twice_right) .none kV51 dc51 pm51 an51 cd51 ct51), sl51⟩) (c51 : PySem.W.codeIn K cd51 "_law_is_twice_right" = true) (k51 : PySem.W.keepIn K (.ref f51) = true)
    (a52 : PySem.W.nsIn K mainGlobals "_law_lot" = some (some (.ref f52))) (l52 : K.lookup f52 = some ⟨oc52, od52, .func (PySem.W.fnOf "_law_lot" "_law_lot" (defArgs s__law_lot) (defBody s__law_lot) (defScope s__law_lot) .none kV52 dc52 pm52 an52 cd52 ct52), sl52⟩) (c52 : PySem.W.codeIn K cd52 "_law_lot" = true) (k52 : PySem.W.keepIn K (.ref f52) = true)
    (a53 : PySem.W.nsIn K mainGlobals "need_water_scripts" = some (some (.ref f53))) (l53 : K.lookup f53 = some ⟨oc53, od53, .func (PySem.W.fnOf "need_water" "need_water" (defArgs s_need_water_scripts) (defBody s_need_water_scripts) (defScope s_need_water_scripts) .none kV53 dc53 pm53 an53 cd53 ct53), sl53⟩) (c53 : PySem.W.codeIn K cd53 "need_water" = true) (k53 : PySem.W.keepIn K (.ref f53) = true)
    (a54 : PySem.W.nsIn K mainGlobals "done" = some (some (.ref f54))) (l54 : K.lookup f54 = some ⟨oc54, od54, .func (PySem.W.fnOf "done" "done" (defArgs s_done) (defBody s_done) (defScope s_done) .none kV54 dc54 pm54 an54 cd54 ct54), sl54⟩) (c54 : PySem.W.codeIn K cd54 "done" = true) (k54 : PySem.W.keepIn K (.ref f54) = true)
    (a55 : PySem.W.nsIn K mainGlobals "run" = some (some (.ref f55))) (l55 : K.lookup f55 = some ⟨oc55, od55, .func (PySem.W.fnOf "run" "run" (defArgs s_run) (defBody s_run) (defScope s_run) .none kV55 dc55 pm55 an55 cd55 ct55), sl55⟩) (c55 : PySem.W.codeIn K cd55 "run" = true) (k55 : PySem.W.keepIn K (.ref f55) = true)
    (a56 : PySem.W.nsIn K mainGlobals "_law_carried" = some (some (.ref f56))) (l56 : K.lookup f56 = some ⟨oc56, od56, .func (PySem.W.fnOf "_law_carried" "_law_carried" (defArgs s__law_carried) (defBody s__law_carried) (defScope s__law_carried) .none kV56 dc56 pm56 an56 cd56 ct56), sl56⟩) (c56 : PySem.W.codeIn K cd56 "_law_carried" = true) (k56 : PySem.W.keepIn K (.ref f56) = true)
    (a57 : PySem.W.nsIn K mainGlobals "_law_outer" = some (some (.ref f57))) (l57 : K.lookup f57 = some ⟨oc57, od57, .func (PySem.W.fnOf "_law_outer" "_law_outer" (defArgs s__law_outer) (defBody s__law_outer) (defScope s__law_outer) .none kV57 dc57 pm57 an57 cd57 ct57), sl57⟩) (c57 : PySem.W.codeIn K cd57 "_law_outer" = true) (k57 : PySem.W.keepIn K (.ref f57) = true)
    (a58 : PySem.W.nsIn K mainGlobals "_law_due" = some (some (.ref f58))) (l58 : K.lookup f58 = some ⟨oc58, od58, .func (PySem.W.fnOf "_law_due" "_law_due" (defArgs s__law_due) (defBody s__law_due) (defScope s__law_due) .none kV58 dc58 pm58 an58 cd58 ct58), sl58⟩) (c58 : PySem.W.codeIn K cd58 "_law_due" = true) (k58 : PySem.W.keepIn K (.ref f58) = true)
    (a59 : PySem.W.nsIn K mainGlobals "carried_deed" = some (some (.ref f59))) (l59 : K.lookup f59 = some ⟨oc59, od59, .func (PySem.W.fnOf "carried_deed" "carried_deed" (defArgs s_carried_deed) (defBody s_carried_deed) (defScope s_carried_deed) .none kV59 dc59 pm59 an59 cd59 ct59), sl59⟩) (c59 : PySem.W.codeIn K cd59 "carried_deed" = true) (k59 : PySem.W.keepIn K (.ref f59) = true)
    (a60 : PySem.W.nsIn K mainGlobals "reach" = some (some (.ref f60))) (l60 : K.lookup f60 = some ⟨oc60, od60, .func (PySem.W.fnOf "reach" "reach" (defArgs s_reach) (defBody s_reach) (defScope s_reach) .none kV60 dc60 pm60 an60 cd60 ct60), sl60⟩) (c60 : PySem.W.codeIn K cd60 "reach" = true) (k60 : PySem.W.keepIn K (.ref f60) = true)
    (a61 : PySem.W.nsIn K mainGlobals "_law_are_deeds_right" = some (some (.ref f61))) (l61 : K.lookup f61 = some ⟨oc61, od61, .func (PySem.W.fnOf "_law_are_deeds_right" "_law_are_deeds_right" (defArgs s__law_are_deeds_right) (defBody s__law_are_deeds_right) (defScope s__law_are_deeds_right) .none kV61 dc61 pm61 an61 cd61 ct61), sl61⟩) (c61 : PySem.W.codeIn K cd61 "_law_are_deeds_right" = true) (k61 : PySem.W.keepIn K (.ref f61) = true)
    (a62 : PySem.W.nsIn K mainGlobals "is_water" = some (some (.ref f62))) (l62 : K.lookup f62 = some ⟨oc62, od62, .func (PySem.W.fnOf "is_water" "is_water" (defArgs s_is_water) (defBody s_is_water) (defScope s_is_water) .none kV62 dc62 pm62 an62 cd62 ct62), sl62⟩) (c62 : PySem.W.codeIn K cd62 "is_water" = true) (k62 : PySem.W.keepIn K (.ref f62) = true)
    (a63 : PySem.W.nsIn K mainGlobals "_law_is_led_right" = some (some (.ref f63))) (l63 : K.lookup f63 = some ⟨oc63, od63, .func (PySem.W.fnOf "_law_is_led_right" "_law_is_led_right" (defArgs s__law_is_led_right) (defBody s__law_is_led_right) (defScope s__law_is_led_right) .none kV63 dc63 pm63 an63 cd63 ct63), sl63⟩) (c63 : PySem.W.codeIn K cd63 "_law_is_led_right" = true) (k63 : PySem.W.keepIn K (.ref f63) = true)
    (a64 : PySem.W.nsIn K mainGlobals "law" = some (some (.ref f64))) (l64 : K.lookup f64 = some ⟨oc64, od64, .func (PySem.W.fnOf "law" "law" (defArgs s_law) (defBody s_law) (defScope s_law) .none kV64 dc64 pm64 an64 cd64 ct64), sl64⟩) (c64 : PySem.W.codeIn K cd64 "law" = true) (k64 : PySem.W.keepIn K (.ref f64) = true)
    (z_all : PySem.W.nsIn K mainGlobals "all" = some none)
    (z_bool : PySem.W.nsIn K mainGlobals "bool" = some none)
    (z_enumerate : PySem.W.nsIn K mainGlobals "enumerate" = some none)
    (z_int : PySem.W.nsIn K mainGlobals "int" = some none)
    (z_isinstance : PySem.W.nsIn K mainGlobals "isinstance" = some none)
    (z_len : PySem.W.nsIn K mainGlobals "len" = some none)
    (z_list : PySem.W.nsIn K mainGlobals "list" = some none)
    (z_max : PySem.W.nsIn K mainGlobals "max" = some none)
    (z_range : PySem.W.nsIn K mainGlobals "range" = some none)
    (z_repr : PySem.W.nsIn K mainGlobals "repr" = some none)
    (z_set : PySem.W.nsIn K mainGlobals "set" = some none)
    (z_sorted : PySem.W.nsIn K mainGlobals "sorted" = some none)
    (z_str : PySem.W.nsIn K mainGlobals "str" = some none)
    (z_tuple : PySem.W.nsIn K mainGlobals "tuple" = some none)
    (z_zip : PySem.W.nsIn K mainGlobals "zip" = some none)
    (q_MOST_TERRACES : PySem.W.nsIn K mainGlobals "MOST_TERRACES" = some (some (.int 10 t_MOST_TERRACES)))
    (q_WORDS : PySem.W.nsIn K mainGlobals "WORDS" = some (some (.ref a_WORDS))) (r_WORDS : K.lookup a_WORDS = some ⟨.type "tuple", od_WORDS, .seq #[.str "pour" t0_WORDS, .str "open" t1_WORDS] n_WORDS, sl_WORDS⟩) :
    ∃ fd : FuncData, (∀ (s : Shared) (v : Value), BindsTo s fd ⟨[v], []⟩ [("script", v)]) ∧ ∀ base : Heap, K.In base → base.Ns mainGlobals mg → FnG l.prog w K mg base CX0 11 fa fd ["script"] (spLaw K) := by
  have e := hfa.symm.trans (PySem.W.mg_of X G a64)
  cases e
  have T : Top K mg := ⟨⟨_, _, PySem.W.mg_of X G a0, fun_mk (st := s__law_deck) l0 c0 k0⟩, ⟨_, _, PySem.W.mg_of X G a1, fun_mk (st := s__law_closed) l1 c1 k1⟩, ⟨_, _, PySem.W.mg_of X G a2, fun_mk (st := s__law_sides) l2 c2 k2⟩, ⟨_, _, PySem.W.mg_of X G a3, fun_mk (st := s__law_draw) l3 c3 k3⟩, ⟨_, _, PySem.W.mg_of X G a4, fun_mk (st := s__law_leading) l4 c4 k4⟩, ⟨_, _, PySem.W.mg_of X G a5, fun_mk (st := s__law_shuffled) l5 c5 k5⟩, ⟨_, _, PySem.W.mg_of X G a6, fun_mk (st := s__law_hill) l6 c6 k6⟩, ⟨_, _, PySem.W.mg_of X G a7, fun_mk (st := s__law_led) l7 c7 k7⟩, ⟨_, _, PySem.W.mg_of X G a8, fun_mk (st := s__law_mapped) l8 c8 k8⟩, ⟨_, _, PySem.W.mg_of X G a9, fun_mk (st := s__law_pick) l9 c9 k9⟩, ⟨_, _, PySem.W.mg_of X G a10, fun_mk (st := s__law_script) l10 c10 k10⟩, ⟨_, _, PySem.W.mg_of X G a11, fun_mk (st := s__law_closing) l11 c11 k11⟩, ⟨_, _, PySem.W.mg_of X G a12, fun_mk (st := s_is_integer) l12 c12 k12⟩, ⟨_, _, PySem.W.mg_of X G a13, fun_mk (st := s_is_between) l13 c13 k13⟩, ⟨_, _, PySem.W.mg_of X G a14, fun_mk (st := s_is_pair_of) l14 c14 k14⟩, ⟨_, _, PySem.W.mg_of X G a15, fun_mk (st := s_is_book_value) l15 c15 k15⟩, ⟨_, _, PySem.W.mg_of X G a16, fun_mk (st := s_lows) l16 c16 k16⟩, ⟨_, _, PySem.W.mg_of X G a17, fun_mk (st := s_hill_of_lows) l17 c17 k17⟩, ⟨_, _, PySem.W.mg_of X G a18, fun_mk (st := s_closing_of) l18 c18 k18⟩, ⟨_, _, PySem.W.mg_of X G a19, fun_mk (st := s_is_hill_value) l19 c19 k19⟩, ⟨_, _, PySem.W.mg_of X G a20, fun_mk (st := s_need_hill) l20 c20 k20⟩, ⟨_, _, PySem.W.mg_of X G a21, fun_mk (st := s_need_hills) l21 c21 k21⟩, ⟨_, _, PySem.W.mg_of X G a22, fun_mk (st := s_is_map_value) l22 c22 k22⟩, ⟨_, _, PySem.W.mg_of X G a23, fun_mk (st := s_need_map) l23 c23 k23⟩, ⟨_, _, PySem.W.mg_of X G a24, fun_mk (st := s_is_lot_value) l24 c24 k24⟩, ⟨_, _, PySem.W.mg_of X G a25, fun_mk (st := s_lot_of) l25 c25 k25⟩, ⟨_, _, PySem.W.mg_of X G a26, fun_mk (st := s_closed_mask) l26 c26 k26⟩, ⟨_, _, PySem.W.mg_of X G a27, fun_mk (st := s_lower_mask) l27 c27 k27⟩, ⟨_, _, PySem.W.mg_of X G a28, fun_mk (st := s_mask_of) l28 c28 k28⟩, ⟨_, _, PySem.W.mg_of X G a29, fun_mk (st := s_is_lower_value) l29 c29 k29⟩, ⟨_, _, PySem.W.mg_of X G a30, fun_mk (st := s_need_water_maps) l30 c30 k30⟩, ⟨_, _, PySem.W.mg_of X G a31, fun_mk (st := s_carried_mask) l31 c31 k31⟩, ⟨_, _, PySem.W.mg_of X G a32, fun_mk (st := s_carried_water) l32 c32 k32⟩, ⟨_, _, PySem.W.mg_of X G a33, fun_mk (st := s_is_deed_value) l33 c33 k33⟩, ⟨_, _, PySem.W.mg_of X G a34, fun_mk (st := s_is_script_value) l34 c34 k34⟩, ⟨_, _, PySem.W.mg_of X G a35, fun_mk (st := s_highs) l35 c35 k35⟩, ⟨_, _, PySem.W.mg_of X G a36, fun_mk (st := s_reaches) l36 c36 k36⟩, ⟨_, _, PySem.W.mg_of X G a37, fun_mk (st := s_reach_mask) l37 c37 k37⟩, ⟨_, _, PySem.W.mg_of X G a38, fun_mk (st := s_ends_of) l38 c38 k38⟩, ⟨_, _, PySem.W.mg_of X G a39, fun_mk (st := s_highest_of) l39 c39 k39⟩, ⟨_, _, PySem.W.mg_of X G a40, fun_mk (st := s_lowest_of) l40 c40 k40⟩, ⟨_, _, PySem.W.mg_of X G a41, fun_mk (st := s_carried_terraces) l41 c41 k41⟩, ⟨_, _, PySem.W.mg_of X G a42, fun_mk (st := s_deeds_carried) l42 c42 k42⟩, ⟨_, _, PySem.W.mg_of X G a43, fun_mk (st := s_carried_script) l43 c43 k43⟩, ⟨_, _, PySem.W.mg_of X G a44, fun_mk (st := s_need_script) l44 c44 k44⟩, ⟨_, _, PySem.W.mg_of X G a45, fun_mk (st := s_couple_masks) l45 c45 k45⟩, ⟨_, _, PySem.W.mg_of X G a46, fun_mk (st := s_raw_couple) l46 c46 k46⟩, ⟨_, _, PySem.W.mg_of X G a47, fun_mk (st := s_couple_of) l47 c47 k47⟩, ⟨_, _, PySem.W.mg_of X G a48, fun_mk (st := s__law_lasts) l48 c48 k48⟩, ⟨_, _, PySem.W.mg_of X G a49, fun_mk (st := s__law_couple) l49 c49 k49⟩, ⟨_, _, PySem.W.mg_of X G a50, fun_mk (st := s__law_told_couple) l50 c50 k50⟩, ⟨_, _, PySem.W.mg_of X G a51, fun_mk (st := s__law_is_twice_right) l51 c51 k51⟩, ⟨_, _, PySem.W.mg_of X G a52, fun_mk (st := s__law_lot) l52 c52 k52⟩, ⟨_, _, PySem.W.mg_of X G a53, fun_mk (st := s_need_water_scripts) l53 c53 k53⟩, ⟨_, _, PySem.W.mg_of X G a54, fun_mk (st := s_done) l54 c54 k54⟩, ⟨_, _, PySem.W.mg_of X G a55, fun_mk (st := s_run) l55 c55 k55⟩, ⟨_, _, PySem.W.mg_of X G a56, fun_mk (st := s__law_carried) l56 c56 k56⟩, ⟨_, _, PySem.W.mg_of X G a57, fun_mk (st := s__law_outer) l57 c57 k57⟩, ⟨_, _, PySem.W.mg_of X G a58, fun_mk (st := s__law_due) l58 c58 k58⟩, ⟨_, _, PySem.W.mg_of X G a59, fun_mk (st := s_carried_deed) l59 c59 k59⟩, ⟨_, _, PySem.W.mg_of X G a60, fun_mk (st := s_reach) l60 c60 k60⟩, ⟨_, _, PySem.W.mg_of X G a61, fun_mk (st := s__law_are_deeds_right) l61 c61 k61⟩, ⟨_, _, PySem.W.mg_of X G a62, fun_mk (st := s_is_water) l62 c62 k62⟩, ⟨_, _, PySem.W.mg_of X G a63, fun_mk (st := s__law_is_led_right) l63 c63 k63⟩, ⟨_, _, PySem.W.mg_of X G a64, fun_mk (st := s_law) l64 c64 k64⟩, PySem.W.mg_none_of X G z_all, PySem.W.mg_none_of X G z_bool, PySem.W.mg_none_of X G z_enumerate, PySem.W.mg_none_of X G z_int, PySem.W.mg_none_of X G z_isinstance, PySem.W.mg_none_of X G z_len, PySem.W.mg_none_of X G z_list, PySem.W.mg_none_of X G z_max, PySem.W.mg_none_of X G z_range, PySem.W.mg_none_of X G z_repr, PySem.W.mg_none_of X G z_set, PySem.W.mg_none_of X G z_sorted, PySem.W.mg_none_of X G z_str, PySem.W.mg_none_of X G z_tuple, PySem.W.mg_none_of X G z_zip, ⟨_, PySem.W.mg_of X G q_MOST_TERRACES⟩, ⟨_, PySem.W.mg_of X G q_WORDS, fun _ => .inr ⟨_, _, _, r_WORDS, rfl, rfl, (show (2 : Nat) ≤ sizeLine from by decide), .cons ⟨_, rfl⟩ (.cons ⟨_, rfl⟩ (.nil))⟩⟩⟩
  refine ⟨PySem.W.fnOf "law" "law" (defArgs s_law) (defBody s_law) (defScope s_law) .none kV64 dc64 pm64 an64 cd64 ct64, fun s v => .of_eq rfl, fun base _ _ => ?_⟩
  have U := fun_mk (st := s_law) l64 c64 k64
  have G__law_closed := fun aD aC aS => gd__law_closed (P := l.prog) (w := w) (base := base) (aD := aD) (aC := aC) (aS := aS) T
  have G__law_sides := fun aD aC aS => gd__law_sides (P := l.prog) (w := w) (base := base) (aD := aD) (aC := aC) (aS := aS) T
  have G__law_draw : ∀ aD aC aS, Gd l.prog w K mg base (dkZ l.prog w aD aC aS) "_law_draw" s__law_draw ["deck", "many"] 1 g__law_draw := fun aD aC aS => by
    obtain ⟨f, fd, hm, U⟩ := T._law_draw
    exact gd_mk hm U mono_draw (fn_draw T U)
  have G__law_leading := fun aD aC aS => gd__law_leading (P := l.prog) (w := w) (base := base) (aD := aD) (aC := aC) (aS := aS) T (G__law_draw aD aC aS) (G__law_sides aD aC aS) (G__law_closed aD aC aS)
  have G__law_shuffled := fun aD aC aS => gd__law_shuffled (P := l.prog) (w := w) (base := base) (aD := aD) (aC := aC) (aS := aS) T (G__law_draw aD aC aS)
  have G__law_hill := fun aD aC aS => gd__law_hill (P := l.prog) (w := w) (base := base) (aD := aD) (aC := aC) (aS := aS) T (G__law_draw aD aC aS) (G__law_shuffled aD aC aS) (G__law_closed aD aC aS)
  have G__law_led := fun aD aC aS => gd__law_led (P := l.prog) (w := w) (base := base) (aD := aD) (aC := aC) (aS := aS) T (G__law_draw aD aC aS) (G__law_closed aD aC aS)
  have G__law_mapped := fun aD aC aS => gd__law_mapped (P := l.prog) (w := w) (base := base) (aD := aD) (aC := aC) (aS := aS) T (G__law_draw aD aC aS) (G__law_hill aD aC aS) (G__law_led aD aC aS) (G__law_leading aD aC aS)
  have G__law_pick := fun aD aC aS => gd__law_pick (P := l.prog) (w := w) (base := base) (aD := aD) (aC := aC) (aS := aS) T (G__law_draw aD aC aS)
  have G__law_script := fun aD aC aS => gd__law_script (P := l.prog) (w := w) (base := base) (aD := aD) (aC := aC) (aS := aS) T (G__law_draw aD aC aS) (G__law_pick aD aC aS)
  have G__law_closing := fun aD aC aS => gd__law_closing (P := l.prog) (w := w) (base := base) (aD := aD) (aC := aC) (aS := aS) T
  have G_is_integer := fun aD aC aS => gd_is_integer (P := l.prog) (w := w) (base := base) (aD := aD) (aC := aC) (aS := aS) T
  have G_is_between := fun aD aC aS => gd_is_between (P := l.prog) (w := w) (base := base) (aD := aD) (aC := aC) (aS := aS) T (G_is_integer aD aC aS)
  have G_is_pair_of := fun aD aC aS => gd_is_pair_of (P := l.prog) (w := w) (base := base) (aD := aD) (aC := aC) (aS := aS) T (G_is_between aD aC aS)
  have G_is_book_value := fun aD aC aS => gd_is_book_value (P := l.prog) (w := w) (base := base) (aD := aD) (aC := aC) (aS := aS) T (G_is_between aD aC aS) (G_is_pair_of aD aC aS)
  have G_lows := fun aD aC aS => gd_lows (P := l.prog) (w := w) (base := base) (aD := aD) (aC := aC) (aS := aS) T
  have G_hill_of_lows := fun aD aC aS => gd_hill_of_lows (P := l.prog) (w := w) (base := base) (aD := aD) (aC := aC) (aS := aS) T
  have G_closing_of := fun aD aC aS => gd_closing_of (P := l.prog) (w := w) (base := base) (aD := aD) (aC := aC) (aS := aS) T (G_lows aD aC aS) (G_hill_of_lows aD aC aS)
  have G_is_hill_value := fun aD aC aS => gd_is_hill_value (P := l.prog) (w := w) (base := base) (aD := aD) (aC := aC) (aS := aS) T (G_is_book_value aD aC aS) (G_closing_of aD aC aS)
  have G_need_hill := fun aD aC aS => gd_need_hill (P := l.prog) (w := w) (base := base) (aD := aD) (aC := aC) (aS := aS) T (G_is_hill_value aD aC aS)
  have G_need_hills := fun aD aC aS => gd_need_hills (P := l.prog) (w := w) (base := base) (aD := aD) (aC := aC) (aS := aS) T (G_need_hill aD aC aS)
  have G_is_map_value := fun aD aC aS => gd_is_map_value (P := l.prog) (w := w) (base := base) (aD := aD) (aC := aC) (aS := aS) T (G_is_between aD aC aS) (G_lows aD aC aS)
  have G_need_map := fun aD aC aS => gd_need_map (P := l.prog) (w := w) (base := base) (aD := aD) (aC := aC) (aS := aS) T (G_need_hills aD aC aS) (G_is_map_value aD aC aS)
  have G_is_lot_value := fun aD aC aS => gd_is_lot_value (P := l.prog) (w := w) (base := base) (aD := aD) (aC := aC) (aS := aS) T (G_is_between aD aC aS)
  have G_lot_of := fun aD aC aS => gd_lot_of (P := l.prog) (w := w) (base := base) (aD := aD) (aC := aC) (aS := aS) T
  have G_closed_mask := fun aD aC aS => gd_closed_mask (P := l.prog) (w := w) (base := base) (aD := aD) (aC := aC) (aS := aS) T (G_lot_of aD aC aS)
  have G_lower_mask := fun aD aC aS => gd_lower_mask (P := l.prog) (w := w) (base := base) (aD := aD) (aC := aC) (aS := aS) T (G_closed_mask aD aC aS) (G_lows aD aC aS)
  have G_mask_of := fun aD aC aS => gd_mask_of (P := l.prog) (w := w) (base := base) (aD := aD) (aC := aC) (aS := aS) T
  have G_is_lower_value := fun aD aC aS => gd_is_lower_value (P := l.prog) (w := w) (base := base) (aD := aD) (aC := aC) (aS := aS) T (G_is_lot_value aD aC aS) (G_lower_mask aD aC aS) (G_mask_of aD aC aS)
  have G_need_water_maps := fun aD aC aS => gd_need_water_maps (P := l.prog) (w := w) (base := base) (aD := aD) (aC := aC) (aS := aS) T (G_is_lower_value aD aC aS)
  have G_carried_mask := fun aD aC aS => gd_carried_mask (P := l.prog) (w := w) (base := base) (aD := aD) (aC := aC) (aS := aS) T (G_mask_of aD aC aS)
  have G_carried_water := fun aD aC aS => gd_carried_water (P := l.prog) (w := w) (base := base) (aD := aD) (aC := aC) (aS := aS) T (G_need_map aD aC aS) (G_need_water_maps aD aC aS) (G_lot_of aD aC aS) (G_carried_mask aD aC aS) (G_mask_of aD aC aS)
  have G_is_deed_value := fun aD aC aS => gd_is_deed_value (P := l.prog) (w := w) (base := base) (aD := aD) (aC := aC) (aS := aS) T (G_is_between aD aC aS)
  have G_is_script_value := fun aD aC aS => gd_is_script_value (P := l.prog) (w := w) (base := base) (aD := aD) (aC := aC) (aS := aS) T (G_is_deed_value aD aC aS)
  have G_highs := fun aD aC aS => gd_highs (P := l.prog) (w := w) (base := base) (aD := aD) (aC := aC) (aS := aS) T
  have G_reaches := fun aD aC aS => gd_reaches (P := l.prog) (w := w) (base := base) (aD := aD) (aC := aC) (aS := aS) T (G_lows aD aC aS) (G_highs aD aC aS)
  have G_reach_mask := fun aD aC aS => gd_reach_mask (P := l.prog) (w := w) (base := base) (aD := aD) (aC := aC) (aS := aS) T (G_reaches aD aC aS)
  have G_ends_of := fun aD aC aS => gd_ends_of (P := l.prog) (w := w) (base := base) (aD := aD) (aC := aC) (aS := aS) T (G_lot_of aD aC aS)
  have G_highest_of := fun aD aC aS => gd_highest_of (P := l.prog) (w := w) (base := base) (aD := aD) (aC := aC) (aS := aS) T (G_ends_of aD aC aS) (G_highs aD aC aS) (G_lows aD aC aS)
  have G_lowest_of := fun aD aC aS => gd_lowest_of (P := l.prog) (w := w) (base := base) (aD := aD) (aC := aC) (aS := aS) T (G_ends_of aD aC aS) (G_lows aD aC aS) (G_highs aD aC aS)
  have G_carried_terraces := fun aD aC aS => gd_carried_terraces (P := l.prog) (w := w) (base := base) (aD := aD) (aC := aC) (aS := aS) T (G_carried_mask aD aC aS) (G_reach_mask aD aC aS) (G_highest_of aD aC aS) (G_lowest_of aD aC aS)
  have G_deeds_carried := fun aD aC aS => gd_deeds_carried (P := l.prog) (w := w) (base := base) (aD := aD) (aC := aC) (aS := aS) T (G_carried_terraces aD aC aS)
  have G_carried_script := fun aD aC aS => gd_carried_script (P := l.prog) (w := w) (base := base) (aD := aD) (aC := aC) (aS := aS) T (G_need_map aD aC aS) (G_is_script_value aD aC aS) (G_deeds_carried aD aC aS)
  have G_need_script := fun aD aC aS => gd_need_script (P := l.prog) (w := w) (base := base) (aD := aD) (aC := aC) (aS := aS) T (G_is_script_value aD aC aS)
  have G_couple_masks := fun aD aC aS => gd_couple_masks (P := l.prog) (w := w) (base := base) (aD := aD) (aC := aC) (aS := aS) T (G_reaches aD aC aS)
  have G_raw_couple := fun aD aC aS => gd_raw_couple (P := l.prog) (w := w) (base := base) (aD := aD) (aC := aC) (aS := aS) T (G_couple_masks aD aC aS) (G_lot_of aD aC aS)
  have G_couple_of := fun aD aC aS => gd_couple_of (P := l.prog) (w := w) (base := base) (aD := aD) (aC := aC) (aS := aS) T (G_need_hill aD aC aS) (G_need_script aD aC aS) (G_raw_couple aD aC aS)
  have G__law_lasts := fun aD aC aS => gd__law_lasts (P := l.prog) (w := w) (base := base) (aD := aD) (aC := aC) (aS := aS) T
  have G__law_couple := fun aD aC aS => gd__law_couple (P := l.prog) (w := w) (base := base) (aD := aD) (aC := aC) (aS := aS) T (G__law_lasts aD aC aS)
  have G__law_told_couple := fun aD aC aS => gd__law_told_couple (P := l.prog) (w := w) (base := base) (aD := aD) (aC := aC) (aS := aS) T (G_couple_of aD aC aS) (G__law_couple aD aC aS) (G__law_sides aD aC aS)
  have G__law_is_twice_right := fun aD aC aS => gd__law_is_twice_right (P := l.prog) (w := w) (base := base) (aD := aD) (aC := aC) (aS := aS) T (G_carried_script aD aC aS) (G_carried_water aD aC aS) (G__law_told_couple aD aC aS)
  have G__law_lot := fun aD aC aS => gd__law_lot (P := l.prog) (w := w) (base := base) (aD := aD) (aC := aC) (aS := aS) T (G__law_pick aD aC aS) (G__law_draw aD aC aS)
  have G_need_water_scripts := fun aD aC aS => gd_need_water_scripts (P := l.prog) (w := w) (base := base) (aD := aD) (aC := aC) (aS := aS) T (G_need_hill aD aC aS) (G_is_lower_value aD aC aS)
  have G_done := fun aD aC aS => gd_done (P := l.prog) (w := w) (base := base) (aD := aD) (aC := aC) (aS := aS) T (G_reaches aD aC aS)
  have G_run := fun aD aC aS => gd_run (P := l.prog) (w := w) (base := base) (aD := aD) (aC := aC) (aS := aS) T (G_need_water_scripts aD aC aS) (G_need_script aD aC aS) (G_lot_of aD aC aS) (G_done aD aC aS) (G_mask_of aD aC aS)
  have G__law_carried := fun aD aC aS => gd__law_carried (P := l.prog) (w := w) (base := base) (aD := aD) (aC := aC) (aS := aS) T
  have G__law_outer := fun aD aC aS => gd__law_outer (P := l.prog) (w := w) (base := base) (aD := aD) (aC := aC) (aS := aS) T
  have G__law_due := fun aD aC aS => gd__law_due (P := l.prog) (w := w) (base := base) (aD := aD) (aC := aC) (aS := aS) T (G__law_carried aD aC aS) (G__law_sides aD aC aS) (G__law_outer aD aC aS)
  have G_carried_deed := fun aD aC aS => gd_carried_deed (P := l.prog) (w := w) (base := base) (aD := aD) (aC := aC) (aS := aS) T (G_need_map aD aC aS) (G_is_deed_value aD aC aS) (G_deeds_carried aD aC aS)
  have G_reach := fun aD aC aS => gd_reach (P := l.prog) (w := w) (base := base) (aD := aD) (aC := aC) (aS := aS) T (G_need_hill aD aC aS) (G_is_deed_value aD aC aS) (G_lot_of aD aC aS) (G_reach_mask aD aC aS)
  have G__law_are_deeds_right := fun aD aC aS => gd__law_are_deeds_right (P := l.prog) (w := w) (base := base) (aD := aD) (aC := aC) (aS := aS) T (G__law_due aD aC aS) (G_carried_deed aD aC aS) (G_reach aD aC aS) (G__law_carried aD aC aS) (G_carried_script aD aC aS)
  have G_is_water := fun aD aC aS => gd_is_water (P := l.prog) (w := w) (base := base) (aD := aD) (aC := aC) (aS := aS) T (G_need_hill aD aC aS) (G_is_lower_value aD aC aS)
  have G__law_is_led_right := fun aD aC aS => gd__law_is_led_right (P := l.prog) (w := w) (base := base) (aD := aD) (aC := aC) (aS := aS) T (G_carried_water aD aC aS) (G_carried_script aD aC aS) (G__law_carried aD aC aS) (G_is_water aD aC aS) (G_run aD aC aS) (G__law_couple aD aC aS) (G__law_sides aD aC aS) (G__law_told_couple aD aC aS) (G_couple_of aD aC aS)
  exact fn_law T U G__law_mapped G__law_pick G__law_script G__law_draw G__law_closing G__law_sides G__law_lot G__law_are_deeds_right G__law_is_led_right G_carried_water G_run G_carried_script G__law_led G__law_is_twice_right
end HL.R.K87
open PySem PySem.W PyProof.Rows
set_option maxHeartbeats 0 in
theorem PySem.Challenge.cw_pourasked_k87_whole_carried_back_holds : PySem.Challenge.rw_pourasked_k87_whole_carried_back.Holds := by
  w_on; o_law; k_head; (case hw => w_witness2)
  k_fill
  refine DL.walk_G (l := PySem.Challenge.rw_pourasked_k87_whole_carried_back) (n := 63) (k := 11) (x := "script") (sp := fun w => DL.spLaw _) rfl (by decide) rfl ⟨rfl, by decide, by decide⟩ (fun w h Y => PySem.W.kIn_of Y) ?F (fun _ _ a ns hl _ hS => ⟨a, ns, rfl, hS, hl, fun _ => rfl⟩)
  case F =>
    intro w mg fa h KX G hmg
    refine' HL.R.K87.all_mk KX G hmg ?a0 ?l0 ?c0 ?k0 ?a1 ?l1 ?c1 ?k1 ?a2 ?l2 ?c2 ?k2 ?a3 ?l3 ?c3 ?k3 ?a4 ?l4 ?c4 ?k4 ?a5 ?l5 ?c5 ?k5 ?a6 ?l6 ?c6 ?k6 ?a7 ?l7 ?c7 ?k7 ?a8 ?l8 ?c8 ?k8 ?a9 ?l9 ?c9 ?k9 ?a10 ?l10 ?c10 ?k10 ?a11 ?l11 ?c11 ?k11 ?a12 ?l12 ?c12 ?k12 ?a13 ?l13 ?c13 ?k13 ?a14 ?l14 ?c14 ?k14 ?a15 ?l15 ?c15 ?k15 ?a16 ?l16 ?c16 ?k16 ?a17 ?l17 ?c17 ?k17 ?a18 ?l18 ?c18 ?k18 ?a19 ?l19 ?c19 ?k19 ?a20 ?l20 ?c20 ?k20 ?a21 ?l21 ?c21 ?k21 ?a22 ?l22 ?c22 ?k22 ?a23 ?l23 ?c23 ?k23 ?a24 ?l24 ?c24 ?k24 ?a25 ?l25 ?c25 ?k25 ?a26 ?l26 ?c26 ?k26 ?a27 ?l27 ?c27 ?k27 ?a28 ?l28 ?c28 ?k28 ?a29 ?l29 ?c29 ?k29 ?a30 ?l30 ?c30 ?k30 ?a31 ?l31 ?c31 ?k31 ?a32 ?l32 ?c32 ?k32 ?a33 ?l33 ?c33 ?k33 ?a34 ?l34 ?c34 ?k34 ?a35 ?l35 ?c35 ?k35 ?a36 ?l36 ?c36 ?k36 ?a37 ?l37 ?c37 ?k37 ?a38 ?l38 ?c38 ?k38 ?a39 ?l39 ?c39 ?k39 ?a40 ?l40 ?c40 ?k40 ?a41 ?l41 ?c41 ?k41 ?a42 ?l42 ?c42 ?k42 ?a43 ?l43 ?c43 ?k43 ?a44 ?l44 ?c44 ?k44 ?a45 ?l45 ?c45 ?k45 ?a46 ?l46 ?c46 ?k46 ?a47 ?l47 ?c47 ?k47 ?a48 ?l48 ?c48 ?k48 ?a49 ?l49 ?c49 ?k49 ?a50 ?l50 ?c50 ?k50 ?a51 ?l51 ?c51 ?k51 ?a52 ?l52 ?c52 ?k52 ?a53 ?l53 ?c53 ?k53 ?a54 ?l54 ?c54 ?k54 ?a55 ?l55 ?c55 ?k55 ?a56 ?l56 ?c56 ?k56 ?a57 ?l57 ?c57 ?k57 ?a58 ?l58 ?c58 ?k58 ?a59 ?l59 ?c59 ?k59 ?a60 ?l60 ?c60 ?k60 ?a61 ?l61 ?c61 ?k61 ?a62 ?l62 ?c62 ?k62 ?a63 ?l63 ?c63 ?k63 ?a64 ?l64 ?c64 ?k64 ?z_all ?z_bool ?z_enumerate ?z_int ?z_isinstance ?z_len ?z_list ?z_max ?z_range ?z_repr ?z_set ?z_sorted ?z_str ?z_tuple ?z_zip ?q_MOST_TERRACES ?q_WORDS ?r_WORDS
    (case a0 => k_is); (case l0 => k_is); (case c0 => k_is); (case k0 => k_is); (case a1 => k_is); (case l1 => k_is); (case c1 => k_is); (case k1 => k_is); (case a2 => k_is); (case l2 => k_is); (case c2 => k_is); (case k2 => k_is); (case a3 => k_is); (case l3 => k_is); (case c3 => k_is); (case k3 => k_is); (case a4 => k_is); (case l4 => k_is); (case c4 => k_is); (case k4 => k_is); (case a5 => k_is); (case l5 => k_is); (case c5 => k_is); (case k5 => k_is); (case a6 => k_is); (case l6 => k_is); (case c6 => k_is); (case k6 => k_is); (case a7 => k_is); (case l7 => k_is); (case c7 => k_is); (case k7 => k_is); (case a8 => k_is); (case l8 => k_is); (case c8 => k_is); (case k8 => k_is); (case a9 => k_is); (case l9 => k_is); (case c9 => k_is); (case k9 => k_is); (case a10 => k_is); (case l10 => k_is); (case c10 => k_is); (case k10 => k_is); (case a11 => k_is); (case l11 => k_is); (case c11 => k_is); (case k11 => k_is); (case a12 => k_is); (case l12 => k_is); (case c12 => k_is); (case k12 => k_is); (case a13 => k_is); (case l13 => k_is); (case c13 => k_is); (case k13 => k_is); (case a14 => k_is); (case l14 => k_is); (case c14 => k_is); (case k14 => k_is); (case a15 => k_is); (case l15 => k_is); (case c15 => k_is); (case k15 => k_is); (case a16 => k_is); (case l16 => k_is); (case c16 => k_is); (case k16 => k_is); (case a17 => k_is); (case l17 => k_is); (case c17 => k_is); (case k17 => k_is); (case a18 => k_is); (case l18 => k_is); (case c18 => k_is); (case k18 => k_is); (case a19 => k_is); (case l19 => k_is); (case c19 => k_is); (case k19 => k_is); (case a20 => k_is); (case l20 => k_is); (case c20 => k_is); (case k20 => k_is); (case a21 => k_is); (case l21 => k_is); (case c21 => k_is); (case k21 => k_is); (case a22 => k_is); (case l22 => k_is); (case c22 => k_is); (case k22 => k_is); (case a23 => k_is); (case l23 => k_is); (case c23 => k_is); (case k23 => k_is); (case a24 => k_is); (case l24 => k_is); (case c24 => k_is); (case k24 => k_is); (case a25 => k_is); (case l25 => k_is); (case c25 => k_is); (case k25 => k_is); (case a26 => k_is); (case l26 => k_is); (case c26 => k_is); (case k26 => k_is); (case a27 => k_is); (case l27 => k_is); (case c27 => k_is); (case k27 => k_is); (case a28 => k_is); (case l28 => k_is); (case c28 => k_is); (case k28 => k_is); (case a29 => k_is); (case l29 => k_is); (case c29 => k_is); (case k29 => k_is); (case a30 => k_is); (case l30 => k_is); (case c30 => k_is); (case k30 => k_is); (case a31 => k_is); (case l31 => k_is); (case c31 => k_is); (case k31 => k_is); (case a32 => k_is); (case l32 => k_is); (case c32 => k_is); (case k32 => k_is); (case a33 => k_is); (case l33 => k_is); (case c33 => k_is); (case k33 => k_is); (case a34 => k_is); (case l34 => k_is); (case c34 => k_is); (case k34 => k_is); (case a35 => k_is); (case l35 => k_is); (case c35 => k_is); (case k35 => k_is); (case a36 => k_is); (case l36 => k_is); (case c36 => k_is); (case k36 => k_is); (case a37 => k_is); (case l37 => k_is); (case c37 => k_is); (case k37 => k_is); (case a38 => k_is); (case l38 => k_is); (case c38 => k_is); (case k38 => k_is); (case a39 => k_is); (case l39 => k_is); (case c39 => k_is); (case k39 => k_is); (case a40 => k_is); (case l40 => k_is); (case c40 => k_is); (case k40 => k_is); (case a41 => k_is); (case l41 => k_is); (case c41 => k_is); (case k41 => k_is); (case a42 => k_is); (case l42 => k_is); (case c42 => k_is); (case k42 => k_is); (case a43 => k_is); (case l43 => k_is); (case c43 => k_is); (case k43 => k_is); (case a44 => k_is); (case l44 => k_is); (case c44 => k_is); (case k44 => k_is); (case a45 => k_is); (case l45 => k_is); (case c45 => k_is); (case k45 => k_is); (case a46 => k_is); (case l46 => k_is); (case c46 => k_is); (case k46 => k_is); (case a47 => k_is); (case l47 => k_is); (case c47 => k_is); (case k47 => k_is); (case a48 => k_is); (case l48 => k_is); (case c48 => k_is); (case k48 => k_is); (case a49 => k_is); (case l49 => k_is); (case c49 => k_is); (case k49 => k_is); (case a50 => k_is); (case l50 => k_is); (case c50 => k_is); (case k50 => k_is); (case a51 => k_is); (case l51 => k_is); (case c51 => k_is); (case k51 => k_is); (case a52 => k_is); (case l52 => k_is); (case c52 => k_is); (case k52 => k_is); (case a53 => k_is); (case l53 => k_is); (case c53 => k_is); (case k53 => k_is); (case a54 => k_is); (case l54 => k_is); (case c54 => k_is); (case k54 => k_is); (case a55 => k_is); (case l55 => k_is); (case c55 => k_is); (case k55 => k_is); (case a56 => k_is); (case l56 => k_is); (case c56 => k_is); (case k56 => k_is); (case a57 => k_is); (case l57 => k_is); (case c57 => k_is); (case k57 => k_is); (case a58 => k_is); (case l58 => k_is); (case c58 => k_is); (case k58 => k_is); (case a59 => k_is); (case l59 => k_is); (case c59 => k_is); (case k59 => k_is); (case a60 => k_is); (case l60 => k_is); (case c60 => k_is); (case k60 => k_is); (case a61 => k_is); (case l61 => k_is); (case c61 => k_is); (case k61 => k_is); (case a62 => k_is); (case l62 => k_is); (case c62 => k_is); (case k62 => k_is); (case a63 => k_is); (case l63 => k_is); (case c63 => k_is); (case k63 => k_is); (case a64 => k_is); (case l64 => k_is); (case c64 => k_is); (case k64 => k_is); (case z_all => k_is); (case z_bool => k_is); (case z_enumerate => k_is); (case z_int => k_is); (case z_isinstance => k_is); (case z_len => k_is); (case z_list => k_is); (case z_max => k_is); (case z_range => k_is); (case z_repr => k_is); (case z_set => k_is); (case z_sorted => k_is); (case z_str => k_is); (case z_tuple => k_is); (case z_zip => k_is); (case q_MOST_TERRACES => k_is); (case q_WORDS => k_is); (case r_WORDS => k_is)
