import PyProof.Rows.All
import Wide.All
import OpenK.AllK
import Wide.FinOn
import HandS.ForMost
import HandS.ForExc
import HandS.Deep
import HandS.Walk
import HandS.Lambda
import KE.KeyNested
import HandS.TupAny
import HandS.TupMul
import HandS.TupLen
import HandS.Conv
import HandS.Zip
import HandS.More
import HandS.SortInts
import KE.GoesEnum
import HandS.IsInst
import KE.KDictCopyH
import HandS.TupLe
import HandS.Strs
import HandS.SetFor
import HandS.NoneIn
import KE.KIndexOf
import HandS.NamedTupSort
import HandS.SortKw
import HandS.ExcValue
import KE.SortKeyHeap
import HandS.EndTab
import KE.SortData
import HandS.Style
import HandS.Rev
import HandS.DictTup
import HandS.SetKeys
import KE.KDictList
import KE.KDictPairs
import HandS.Exc
import HandS.ExcOwn
import HandS.ExcIs
import HandS.ExcBuiltin
import HandS.Wide
import HandS.TupSets
import KE.KDictWalk
import PyProof.FactsAll.set_2
import PySem.Challenge.RW_mapwright_k13_apart_onto_back
set_option Elab.async false
set_option linter.all false
set_option maxRecDepth 100000
set_option maxHeartbeats 4000000
namespace VL
open PySem L2

/-- data without addresses -/
inductive D where
  | non | bl (b : Bool) | int (i : Int) | str (x : Str)
  | lst (xs : List D) | tup (xs : List D)
  | dK (kvs : List (Key × D)) | dT (kvs : List (List Key × D))
  | ins (c : Str) (fs : List (Str × D))
  /-- a list that is read only: the script -/
  | scr (xs : List D)
  /-- a tuple known to its object: it has no dict -/
  | tz (xs : List D)
  /-- a dict from tuples of tuples of ints to truths -/
  | dN (kbs : List (D × Bool))
  /-- an exception of an own class -/
  | exc (c : Str)
/-- what a name owns: trees of mutable objects over data -/
inductive O where
  | fz (d : D)
  | lst (xs : List O)
  | dK (kvs : List (Key × O)) | dT (kvs : List (List Key × O))
  | ins (c : Str) (fs : List (Str × O))
  | dN (kbs : List (D × Bool))

/-! ### keys that are tuples of tuples -/
mutual
def nKey : D → NestedKey
  | .int i => .num i
  | .tup xs => .tup (nKeys xs)
  | .tz xs => .tup (nKeys xs)
  | _ => .none
def nKeys : List D → List NestedKey
  | [] => []
  | d :: ds => nKey d :: nKeys ds
end
mutual
def nHash : D → Int
  | .int i => hashInt i
  | .tup xs => reduceHash (Builtin.Tuple.tupleHashOf (nHashes xs))
  | .tz xs => reduceHash (Builtin.Tuple.tupleHashOf (nHashes xs))
  | _ => 0
def nHashes : List D → List Int
  | [] => []
  | d :: ds => nHash d :: nHashes ds
end
mutual
/-- ints, and tuples of such -/
def nFit : D → Bool
  | .int _ => true
  | .tup xs => nFits xs
  | .tz xs => nFits xs
  | _ => false
def nFits : List D → Bool
  | [] => true
  | d :: ds => nFit d && nFits ds
end
/-- a tuple, to depth 8 -/
def nTop : D → Bool
  | .tup xs => nFits xs && decide ((NestedKey.tup (nKeys xs)).depth ≤ 8)
  | .tz xs => nFits xs && decide ((NestedKey.tup (nKeys xs)).depth ≤ 8)
  | _ => false
structure NOk (kbs : List (D × Bool)) : Prop where
  top : ∀ x ∈ kbs, nTop x.1 = true
  nd : (kbs.map fun x => nKey x.1).Nodup
  few : kbs.length ≤ sizeLine
def refV : V → Value
  | .ref b => .ref b
  | _ => .none
def dnE (v : V) (kb : D × Bool) : DictEntry := ⟨nHash kb.1, refV v, .bool kb.2⟩
/-- a dict with such keys, told by its entries -/
def dnO (a : Addr) (kas : List V) (kbs : List (D × Bool)) : HO := .ext fun h => (a == sysModules) = false ∧ ∃ (o : Obj) (ep : Nat), h.get? a = some o ∧ o.ExactDict ∧ o.data = .dict (List.zipWith dnE kas kbs).toArray ep

/-- the written part and where the own classes stand -/
structure Gx where
  K : PySem.W.Frag
  cl : Str → Addr
  /-- tables of code objects, the name that these bear -/
  tb : List (Addr × Str)

/-- an object of the class at C, without a dict -/
def excO (C a : Addr) : HO := .ext fun h => ∃ (oe : Obj) (vs : Array Value), h.get? a = some oe ∧ oe.cls = .ref C ∧ oe.dict = none ∧ oe.data = .fields vs
inductive RDx (G : Gx) (H : Hp) : Bool → V → D → List V → List D → Prop
  | non : RDx G H false .non .non [] []
  | bl (b : Bool) : RDx G H false (.bl b) (.bl b) [] []
  | int (i : Int) : RDx G H false (.int i) (.int i) [] []
  | str (x : Str) : RDx G H false (.str x) (.str x) [] []
  | lst {a : Addr} {xs : List V} {ds : List D} : H a = some (.lst xs) → RDx G H true .non .non xs ds → RDx G H false (.ref a) (.lst ds) [] []
  | scr {a : Addr} {xs : List V} {ds : List D} : SqL G.K H a xs → RDx G H true .non .non xs ds → RDx G H false (.ref a) (.scr ds) [] []
  | tup {a : Addr} {xs : List V} {ds : List D} : H a = some (.tup xs) → RDx G H true .non .non xs ds → RDx G H false (.ref a) (.tup ds) [] []
  | tz {a : Addr} {xs : List V} {ds : List D} {o : Obj} : H a = some (.frz o (.tup xs)) → o.cls = .type "tuple" → o.dict = none → RDx G H true .non .non xs ds → RDx G H false (.ref a) (.tz ds) [] []
  | dK {a : Addr} {kvs : List (Key × V)} {kds : List (Key × D)} : Rd H a (.dK kvs) → kvs.map (·.1) = kds.map (·.1) → RDx G H true .non .non (kvs.map (·.2)) (kds.map (·.2)) → RDx G H false (.ref a) (.dK kds) [] []
  | dT {a : Addr} {kvs : List (List Key × V)} {kds : List (List Key × D)} : Rd H a (.dT kvs) → kvs.map (·.1) = kds.map (·.1) → RDx G H true .non .non (kvs.map (·.2)) (kds.map (·.2)) → RDx G H false (.ref a) (.dT kds) [] []
  | ins {a dx : Addr} {c : Str} {fs : List (Str × V)} {fds : List (Str × D)} : H a = some (.ins (G.cl c) dx fs) → fs.map (·.1) = fds.map (·.1) → RDx G H true .non .non (fs.map (·.2)) (fds.map (·.2)) → RDx G H false (.ref a) (.ins c fds) [] []
  | dN {a : Addr} {kas : List V} {kbs : List (D × Bool)} : NOk kbs → H a = some (dnO a kas kbs) → RDx G H true .non .non kas (kbs.map (·.1)) → RDx G H false (.ref a) (.dN kbs) [] []
  | exc {a : Addr} {c : Str} : H a = some (excO (G.cl c) a) → RDx G H false (.ref a) (.exc c) [] []
  | nil : RDx G H true .non .non [] []
  | cons {v : V} {d : D} {vs : List V} {ds : List D} : RDx G H false v d [] [] → RDx G H true .non .non vs ds → RDx G H true .non .non (v :: vs) (d :: ds)
abbrev RD (G : Gx) (H : Hp) (v : V) (d : D) : Prop := RDx G H false v d [] []
abbrev RDs (G : Gx) (H : Hp) (vs : List V) (ds : List D) : Prop := RDx G H true .non .non vs ds

abbrev Col := Addr → Option (List Nat)
/-- v is what the tree o tells: its mutable nodes stand in H under their colours, its data in F -/
inductive ROx (G : Gx) (F : Hp) (κ : Col) (H : Hp) : Bool → List Nat → Nat → V → O → List V → List O → Prop
  | fz {p : List Nat} {v : V} {d : D} : RD G F v d → ROx G F κ H false p 0 v (.fz d) [] []
  | lst {p : List Nat} {a : Addr} {vs : List V} {os : List O} : κ a = some p → H a = some (.lst vs) → ROx G F κ H true p 0 .non (.fz .non) vs os → ROx G F κ H false p 0 (.ref a) (.lst os) [] []
  | dK {p : List Nat} {a : Addr} {kvs : List (Key × V)} {kos : List (Key × O)} : κ a = some p → H a = some (.dK kvs) → kvs.map (·.1) = kos.map (·.1) → ROx G F κ H true p 0 .non (.fz .non) (kvs.map (·.2)) (kos.map (·.2)) → ROx G F κ H false p 0 (.ref a) (.dK kos) [] []
  | dT {p : List Nat} {a : Addr} {kvs : List (List Key × V)} {kos : List (List Key × O)} : κ a = some p → H a = some (.dT kvs) → kvs.map (·.1) = kos.map (·.1) → ROx G F κ H true p 0 .non (.fz .non) (kvs.map (·.2)) (kos.map (·.2)) → ROx G F κ H false p 0 (.ref a) (.dT kos) [] []
  | ins {p : List Nat} {a dx : Addr} {c : Str} {fs : List (Str × V)} {fos : List (Str × O)} : κ a = some p → H a = some (.ins (G.cl c) dx fs) → fs.map (·.1) = fos.map (·.1) → ROx G F κ H true p 0 .non (.fz .non) (fs.map (·.2)) (fos.map (·.2)) → ROx G F κ H false p 0 (.ref a) (.ins c fos) [] []
  | dN {p : List Nat} {a : Addr} {kas : List V} {kbs : List (D × Bool)} : κ a = some p → NOk kbs → H a = some (dnO a kas kbs) → RDs G F kas (kbs.map (·.1)) → ROx G F κ H false p 0 (.ref a) (.dN kbs) [] []
  | nil {p : List Nat} {n : Nat} : ROx G F κ H true p n .non (.fz .non) [] []
  | cons {p : List Nat} {n : Nat} {v : V} {o : O} {vs : List V} {os : List O} : ROx G F κ H false (p ++ [n]) 0 v o [] [] → ROx G F κ H true p (n + 1) .non (.fz .non) vs os → ROx G F κ H true p n .non (.fz .non) (v :: vs) (o :: os)
abbrev RO (G : Gx) (F : Hp) (κ : Col) (H : Hp) (p : List Nat) (v : V) (o : O) : Prop := ROx G F κ H false p 0 v o [] []
abbrev ROs (G : Gx) (F : Hp) (κ : Col) (H : Hp) (p : List Nat) (n : Nat) (vs : List V) (os : List O) : Prop := ROx G F κ H true p n .non (.fz .non) vs os

abbrev Env' := List (Option O)
/-- an object of F stands in H, a dict perhaps locked -/
def Here (H : Hp) (a : Addr) (o : HO) : Prop := H a = some o ∨ (∃ ob, H a = some (.frz ob o) ∧ ((∃ kvs, o = .dK kvs) ∨ ∃ kvs, o = .dT kvs))
/-- the table of code objects that bear the name q -/
abbrev tabMark (_ : Unit) : HO := .set (fun _ => true) 0
def TabF (G : Gx) (F H : Hp) (P : Addr) (_ : Unit) : Prop := ∃ ps : Array Value, H P = some (.tbl ps) ∧ TriplesOk ps.toList ∧ ∀ (pos : Pos) (cv : Value), codeAmong pos ps.toList = some cv → ∃ c, cv = .ref c ∧ ∀ q, (P, q) ∈ G.tb → F c = some (LamX.CodeO c q)
/-- what F holds stands in H -/
def Sub (G : Gx) (F H : Hp) : Prop := ∀ a o, F a = some o → Here H a o ∨ ∃ q, o = tabMark q ∧ TabF G F H a q
theorem Sub.at {G : Gx} {F H : Hp} (s : Sub G F H) {a : Addr} {o : HO} (h : F a = some o) (n : ∀ q, o ≠ tabMark q := by intro q h; cases h) : Here H a o := by
  rcases s a o h with z | ⟨q, z, _⟩
  · exact z
  · exact absurd z (n q)
theorem TabF.mono {G : Gx} {F F' H H' : Hp} {P : Addr} {q : Unit} (t : TabF G F H P q) (hP : ∀ ps, H P = some (.tbl ps) → H' P = some (.tbl ps)) (hF : ∀ c {q : Str}, F c = some (LamX.CodeO c q) → F' c = some (LamX.CodeO c q)) : TabF G F' H' P q := by
  obtain ⟨ps, h1, h2, h3⟩ := t
  refine ⟨ps, hP _ h1, h2, fun pos cv h => ?_⟩
  obtain ⟨c, e1, e2⟩ := h3 pos cv h
  exact ⟨c, e1, fun q hq => hF c (e2 q hq)⟩
/-- a table of code objects, or an object told by a property -/
def tE : Array Value → HO := .tbl
/-- something stands at a, no tuple and no table -/
def Mo (H : Hp) (a : Addr) : Prop := H a ≠ none ∧ (∀ xs, H a ≠ some (.tup xs)) ∧ ∀ ps, H a ≠ some (tE ps)
theorem Mo.at {H : Hp} {a : Addr} {o : HO} (h : H a = some o) (n : ∀ xs, o ≠ .tup xs) (n2 : ∀ ps, o ≠ tE ps := by intro ps h; cases h) : Mo H a := ⟨by rw [h]; simp, fun xs e => by rw [h] at e; exact n xs (Option.some.inj e), fun xs e => by rw [h] at e; exact n2 xs (Option.some.inj e)⟩
theorem Mo.eq {H H' : Hp} {a : Addr} (m : Mo H a) (e : H' a = H a) : Mo H' a := by unfold Mo; rw [e]; exact m
theorem Mo.get {H : Hp} {a : Addr} (m : Mo H a) : ∃ o, H a = some o ∧ (∀ xs, o ≠ .tup xs) ∧ ∀ ps, o ≠ tE ps := by
  cases q : H a with
  | none => exact absurd q m.1
  | some o => exact ⟨o, rfl, fun xs e => m.2.1 xs (by rw [q, e]), fun xs e => m.2.2 xs (by rw [q, e])⟩
structure SS (G : Gx) (F : Hp) (κ : Col) (σ : St) (H : Hp) (ρ : Env') : Prop where
  sub : Sub G F H
  own : ∀ a p, κ a = some p → F a = none ∧ Mo H a
  len : ρ.length = σ.length
  slots : ∀ (i : Nat) (o : O), ρ[i]? = some (some o) → ∃ v, σ[i]? = some (some v) ∧ RO G F κ H [i] v o
  tab : ∀ p ∈ G.tb, F p.1 = some (tabMark ())
/-- from one state to a later one: data stay, what is neither data nor owned stays as it is -/
structure Step (F : Hp) (κ : Col) (H : Hp) (F' : Hp) (κ' : Col) (H' : Hp) : Prop where
  ext : ∀ a o, F a = some o → F' a = some o
  frame : ∀ a o, H a = some o → κ a = none → H' a ≠ none ∧ ((∀ ps, o ≠ tE ps) → H' a = some o)
  nofz : ∀ a o, H a = some o → κ a = none → (∀ xs, o ≠ .tup xs) → (∀ ps, o ≠ tE ps) → F' a = F a
  own : ∀ a p, κ' a = some p → H a = none ∨ κ a ≠ none
theorem Step.refl {F : Hp} {κ : Col} {H : Hp} : Step F κ H F κ H := ⟨fun _ _ h => h, fun _ _ h _ => ⟨by rw [h]; simp, fun _ => h⟩, fun _ _ _ _ _ _ => rfl, fun a p h => .inr (by rw [h]; simp)⟩
theorem Step.frm {F : Hp} {κ : Col} {H : Hp} {F' : Hp} {κ' : Col} {H' : Hp} (s : Step F κ H F' κ' H') {a : Addr} {o : HO} (h : H a = some o) (hk : κ a = none) (n : ∀ ps, o ≠ tE ps := by intro ps h; cases h) : H' a = some o := (s.frame a o h hk).2 n
theorem Step.there {F : Hp} {κ : Col} {H : Hp} {F' : Hp} {κ' : Col} {H' : Hp} (s : Step F κ H F' κ' H') {a : Addr} {o : HO} (h : H a = some o) (hk : κ a = none) : H' a ≠ none := (s.frame a o h hk).1
theorem Step.trans {F F1 F2 : Hp} {κ κ1 κ2 : Col} {H H1 H2 : Hp} (a : Step F κ H F1 κ1 H1) (b : Step F1 κ1 H1 F2 κ2 H2) : Step F κ H F2 κ2 H2 := by
  have key : ∀ c o, H c = some o → κ c = none → κ1 c = none := fun c o h hk => by
    cases q : κ1 c with
    | none => rfl
    | some p =>
      rcases a.own c p q with z | z
      · rw [h] at z; cases z
      · exact absurd hk z
  have mid : ∀ c o, H c = some o → κ c = none → ∃ u, H1 c = some u := fun c o h hk => by
    cases q : H1 c with
    | none => exact absurd q (a.there h hk)
    | some u => exact ⟨u, rfl⟩
  refine ⟨fun c o h => b.ext c o (a.ext c o h), fun c o h hk => ?_, fun c o h hk hn ht => ?_, fun c p h => ?_⟩
  · obtain ⟨u, hu⟩ := mid c o h hk
    exact ⟨b.there hu (key c o h hk), fun n => b.frm (a.frm h hk n) (key c o h hk) n⟩
  · rw [b.nofz c o (a.frm h hk ht) (key c o h hk) hn ht, a.nofz c o h hk hn ht]
  · rcases b.own c p h with z | z
    · cases q : H c with
      | none => exact .inl rfl
      | some o =>
        refine .inr fun hk => ?_
        exact absurd z (a.there q hk)
    · cases q : κ1 c with
      | none => exact absurd q z
      | some p1 => exact a.own c p1 q

/-! ### monotone -/
def Ex (H H' : Hp) : Prop := ∀ a o, H a = some o → H' a = some o
def ExH (F H : Hp) : Prop := ∀ a o, F a = some o → (∀ q, o ≠ tabMark q) → Here H a o
theorem Ex.refl (H : Hp) : Ex H H := fun _ _ h => h
theorem Ex.trans {H H1 H2 : Hp} (a : Ex H H1) (b : Ex H1 H2) : Ex H H2 := fun x o h => b x o (a x o h)
theorem Ex.hh {H H' : Hp} (h : Ex H H') : ExH H H' := fun a o e _ => .inl (h a o e)
theorem ExH.rd {F H : Hp} (e : ExH F H) {a : Addr} {u : HO} (h : Rd F a u) (n : ∀ q, u ≠ tabMark q := by intro q h; cases h) : Rd H a u := by
  rcases h with h | ⟨o, h⟩
  · rcases e a _ h n with z | ⟨ob, z, _⟩
    · exact .inl z
    · exact .inr ⟨ob, z⟩
  · rcases e a _ h (by intro q h; cases h) with z | ⟨ob, z, q⟩
    · exact .inr ⟨o, z⟩
    · rcases q with ⟨_, q⟩ | ⟨_, q⟩ <;> cases q
theorem ExH.l {G : Gx} {F H : Hp} (e : ExH F H) {a : Addr} {xs : List V} (h : SqL G.K F a xs) : SqL G.K H a xs := by
  rcases h with h | h
  · exact .inl (e.rd h)
  · exact .inr h
theorem ExH.t {G : Gx} {F H : Hp} (e : ExH F H) {a : Addr} {xs : List V} (h : SqT G.K F a xs) : SqT G.K H a xs := by
  rcases h with h | h
  · exact .inl (e.rd h)
  · exact .inr h
theorem RDx.mono {G : Gx} {F H : Hp} (e : ExH F H) {b v d vs ds} (h : RDx G F b v d vs ds) : RDx G H b v d vs ds := by
  induction h with
  | non => exact .non
  | bl b => exact .bl b
  | int i => exact .int i
  | str x => exact .str x
  | lst s _ ih =>
    rcases e _ _ s (by intro q h; cases h) with z | ⟨ob, z, q⟩
    · exact .lst z ih
    · rcases q with ⟨_, q⟩ | ⟨_, q⟩ <;> cases q
  | scr s _ ih => exact .scr (e.l s) ih
  | tup s _ ih =>
    rcases e _ _ s (by intro q h; cases h) with z | ⟨ob, z, q⟩
    · exact .tup z ih
    · rcases q with ⟨_, q⟩ | ⟨_, q⟩ <;> cases q
  | tz s c d _ ih =>
    rcases e _ _ s (by intro q h; cases h) with z | ⟨ob, z, q⟩
    · exact .tz z c d ih
    · rcases q with ⟨_, q⟩ | ⟨_, q⟩ <;> cases q
  | dK s m _ ih => exact .dK (e.rd s) m ih
  | dT s m _ ih => exact .dT (e.rd s) m ih
  | ins s m _ ih =>
    rcases e _ _ s (by intro q h; cases h) with z | ⟨ob, z, q⟩
    · exact .ins z m ih
    · rcases q with ⟨_, q⟩ | ⟨_, q⟩ <;> cases q
  | dN n s _ ih =>
    rcases e _ _ s (by intro q h; unfold dnO at h; cases h) with z | ⟨ob, z, q⟩
    · exact .dN n z ih
    · rcases q with ⟨_, q⟩ | ⟨_, q⟩ <;> (unfold dnO at q; cases q)
  | exc s =>
    rcases e _ _ s (by intro q h; unfold excO at h; cases h) with z | ⟨ob, z, q⟩
    · exact .exc z
    · rcases q with ⟨_, q⟩ | ⟨_, q⟩ <;> (unfold excO at q; cases q)
  | nil => exact .nil
  | cons _ _ ih1 ih2 => exact .cons ih1 ih2
/-- .. and of trees: what is coloured must stay as it is -/
theorem ROx.mono {G : Gx} {F F' : Hp} {κ κ' : Col} {H H' : Hp} (R : List Nat → Prop) (hR : ∀ p n, R p → R (p ++ [n])) (e : Ex F F') {f : List Nat → List Nat} (hf : ∀ p n, f (p ++ [n]) = f p ++ [n])
    (k : ∀ a q, R q → κ a = some q → κ' a = some (f q)) (hh : ∀ a q o, R q → κ a = some q → H a = some o → H' a = some o)
    {b p n v o vs os} (h : ROx G F κ H b p n v o vs os) : R p → ROx G F' κ' H' b (f p) n v o vs os := by
  induction h with
  | fz h => exact fun _ => .fz (h.mono e.hh)
  | lst c h _ ih => exact fun r => .lst (k _ _ r c) (hh _ _ _ r c h) (ih r)
  | dK c h m _ ih => exact fun r => .dK (k _ _ r c) (hh _ _ _ r c h) m (ih r)
  | dT c h m _ ih => exact fun r => .dT (k _ _ r c) (hh _ _ _ r c h) m (ih r)
  | ins c h m _ ih => exact fun r => .ins (k _ _ r c) (hh _ _ _ r c h) m (ih r)
  | dN c n h m => exact fun r => .dN (k _ _ r c) n (hh _ _ _ r c h) (m.mono e.hh)
  | nil => exact fun _ => .nil
  | cons _ _ ih1 ih2 => exact fun r => .cons (by have := ih1 (hR _ _ r); rw [hf] at this; exact this) (ih2 r)
/-- the colours under a root -/
abbrev Rt (i : Nat) (q : List Nat) : Prop := q.head? = some i
theorem Rt.app {i : Nat} (p : List Nat) (n : Nat) (h : Rt i p) : Rt i (p ++ [n]) := by
  cases p with
  | nil => cases h
  | cons x xs => exact h
theorem ROx.keep {G : Gx} {F F' : Hp} {κ κ' : Col} {H H' : Hp} {i : Nat} (e : Ex F F') (k : ∀ a q, Rt i q → κ a = some q → κ' a = some q) (hh : ∀ a q o, Rt i q → κ a = some q → H a = some o → H' a = some o)
    {v o} (h : RO G F κ H [i] v o) : RO G F' κ' H' [i] v o := h.mono (Rt i) Rt.app (f := id) e (fun _ _ => rfl) k hh rfl

/-! ### readings of data -/
abbrev DF := Env' → Option (D × Env')
abbrev OF := Env' → Option (O × Env')
def tD (G : Gx) (f : DF) : TE := fun σ H Q => ∃ F κ ρ d ρ', SS G F κ σ H ρ ∧ f ρ = some (d, ρ') ∧
  ∀ v F' κ' H', SS G F' κ' σ H' ρ' → Step F κ H F' κ' H' → RD G F' v d → Q v H'
/-- a new tree, of a colour of its own -/
def tN (G : Gx) (f : OF) : TE := fun σ H Q => ∃ F κ ρ o ρ', SS G F κ σ H ρ ∧ f ρ = some (o, ρ') ∧
  ∀ v F' κ' H' κt, SS G F' κ' σ H' ρ' → Step F κ H F' κ' H' → RO G F' κt H' [] v o → (∀ a p, κt a = some p → (H a = none ∨ κ a ≠ none) ∧ Mo H' a ∧ F' a = none ∧ κ' a = none) → Q v H'
theorem peImp {X : Cx} {e : Expr} {t t' : TE} (h : PE X e t) (k : ∀ σ H Q, t' σ H Q → t σ H Q) : PE X e t' := ⟨fun pins s σ H Q I q => h.run pins s σ H Q I (k σ H Q q)⟩
/-- e computes f -/
abbrev VX (G : Gx) (X : Cx) (e : Expr) (f : DF) : Prop := PE X e (tD G f)
abbrev VN (G : Gx) (X : Cx) (e : Expr) (f : OF) : Prop := PE X e (tN G f)

mutual
def O.freeze : O → D
  | .fz d => d
  | .lst xs => .lst (O.freezes xs)
  | .dK kvs => .dK (O.freezeK kvs)
  | .dT kvs => .dT (O.freezeT kvs)
  | .ins c fs => .ins c (O.freezeS fs)
  | .dN kbs => .dN kbs
def O.freezes : List O → List D
  | [] => []
  | o :: os => o.freeze :: O.freezes os
def O.freezeK : List (Key × O) → List (Key × D)
  | [] => []
  | (k, o) :: os => (k, o.freeze) :: O.freezeK os
def O.freezeT : List (List Key × O) → List (List Key × D)
  | [] => []
  | (k, o) :: os => (k, o.freeze) :: O.freezeT os
def O.freezeS : List (Str × O) → List (Str × D)
  | [] => []
  | (k, o) :: os => (k, o.freeze) :: O.freezeS os
end
theorem freezeK_keys : ∀ kos : List (Key × O), (O.freezeK kos).map (·.1) = kos.map (·.1)
  | [] => by rw [O.freezeK]; rfl
  | (k, o) :: r => by rw [O.freezeK, List.map_cons, List.map_cons, freezeK_keys r]
theorem freezeT_keys : ∀ kos : List (List Key × O), (O.freezeT kos).map (·.1) = kos.map (·.1)
  | [] => by rw [O.freezeT]; rfl
  | (k, o) :: r => by rw [O.freezeT, List.map_cons, List.map_cons, freezeT_keys r]
theorem freezeS_keys : ∀ kos : List (Str × O), (O.freezeS kos).map (·.1) = kos.map (·.1)
  | [] => by rw [O.freezeS]; rfl
  | (k, o) :: r => by rw [O.freezeS, List.map_cons, List.map_cons, freezeS_keys r]
theorem freezeK_vals : ∀ kos : List (Key × O), (O.freezeK kos).map (·.2) = O.freezes (kos.map (·.2))
  | [] => by rw [O.freezeK]; rfl
  | (k, o) :: r => by rw [O.freezeK, List.map_cons, List.map_cons, O.freezes, freezeK_vals r]
theorem freezeT_vals : ∀ kos : List (List Key × O), (O.freezeT kos).map (·.2) = O.freezes (kos.map (·.2))
  | [] => by rw [O.freezeT]; rfl
  | (k, o) :: r => by rw [O.freezeT, List.map_cons, List.map_cons, O.freezes, freezeT_vals r]
theorem freezeS_vals : ∀ kos : List (Str × O), (O.freezeS kos).map (·.2) = O.freezes (kos.map (·.2))
  | [] => by rw [O.freezeS]; rfl
  | (k, o) :: r => by rw [O.freezeS, List.map_cons, List.map_cons, O.freezes, freezeS_vals r]
/-- frozen: the coloured objects become data -/
theorem ROx.freeze {G : Gx} {F F' : Hp} {κ : Col} {H : Hp} (R : List Nat → Prop) (hR : ∀ p n, R p → R (p ++ [n])) (e : Ex F F') (hh : ∀ a q o, R q → κ a = some q → H a = some o → F' a = some o)
    {b p n v o vs os} (h : ROx G F κ H b p n v o vs os) : R p → RDx G F' b v (if b then .non else o.freeze) vs (O.freezes os) := by
  induction h with
  | fz h => intro _; rw [O.freeze, O.freezes]; exact h.mono e.hh
  | lst c h _ ih => intro r; rw [O.freeze, O.freezes]; exact .lst (hh _ _ _ r c h) (ih r)
  | dK c h m _ ih =>
    intro r
    simp only [Bool.false_eq_true, if_false, O.freeze, O.freezes]
    exact .dK (.of (hh _ _ _ r c h)) (by rw [m, freezeK_keys]) (by rw [freezeK_vals]; exact ih r)
  | dT c h m _ ih =>
    intro r
    simp only [Bool.false_eq_true, if_false, O.freeze, O.freezes]
    exact .dT (.of (hh _ _ _ r c h)) (by rw [m, freezeT_keys]) (by rw [freezeT_vals]; exact ih r)
  | ins c h m _ ih =>
    intro r
    simp only [Bool.false_eq_true, if_false, O.freeze, O.freezes]
    exact .ins (hh _ _ _ r c h) (by rw [m, freezeS_keys]) (by rw [freezeS_vals]; exact ih r)
  | dN c n h m => intro r; rw [O.freeze, O.freezes]; exact .dN n (hh _ _ _ r c h) (m.mono e.hh)
  | nil => intro _; rw [O.freezes]; exact .nil
  | cons _ _ ih1 ih2 => intro r; rw [O.freezes]; exact .cons (ih1 (hR _ _ r)) (ih2 r)
end VL
set_option Elab.async false
set_option linter.all false
set_option maxRecDepth 100000
set_option maxHeartbeats 4000000
namespace VL
open PySem L2
section
variable {G : Gx} {F : Hp} {κ : Col} {σ : St} {H : Hp} {ρ : Env'} {p a : Addr} {o : HO} {i : Nat} {v : V} {d : D}

theorem SS.exh (S : SS G F κ σ H ρ) : ExH F H := fun _ _ h n => S.sub.at h n
theorem SS.rd (S : SS G F κ σ H ρ) (h : RD G F v d) : RD G H v d := h.mono S.exh
theorem SS.tupF (S : SS G F κ σ H ρ) {xs : List V} (h : F a = some (.tup xs)) : H a = some (.tup xs) := by
  rcases S.sub.at h with z | ⟨_, _, z⟩
  · exact z
  · rcases z with ⟨_, z⟩ | ⟨_, z⟩ <;> cases z
theorem SS.tzF (S : SS G F κ σ H ρ) {o : Obj} {xs : List V} (h : F a = some (.frz o (.tup xs))) : H a = some (.frz o (.tup xs)) := by
  rcases S.sub.at h with z | ⟨_, _, z⟩
  · exact z
  · rcases z with ⟨_, z⟩ | ⟨_, z⟩ <;> cases z
theorem SS.lstF (S : SS G F κ σ H ρ) {xs : List V} (h : F a = some (.lst xs)) : H a = some (.lst xs) := by
  rcases S.sub.at h with z | ⟨_, _, z⟩
  · exact z
  · rcases z with ⟨_, z⟩ | ⟨_, z⟩ <;> cases z
theorem SS.free (S : SS G F κ σ H ρ) (h : H p = none) : F p = none ∧ κ p = none := by
  constructor
  · cases q : F p with
    | none => rfl
    | some u =>
      rcases S.sub p u q with (z | ⟨_, z, _⟩) | ⟨_, _, _, z, _⟩ <;> rw [h] at z <;> cases z
  · cases q : κ p with
    | none => rfl
    | some r => exact absurd h (S.own p r q).2.1
theorem Ex.new (h : H p = none) : Ex H (upd H p o) := fun b u e => by rw [upd_ne (ne_of_none e h)]; exact e
theorem here_upd {F F' H : Hp} (h : H p = none) (ex : Ex F F') {b : Addr} {u : HO} (e : Here H b u ∨ ∃ q, u = tabMark q ∧ TabF G F H b q) : Here (upd H p o) b u ∨ ∃ q, u = tabMark q ∧ TabF G F' (upd H p o) b q := by
  rcases e with (z | ⟨ob, z, q⟩) | ⟨q, z, t⟩
  · exact .inl (.inl (Ex.new h _ _ z))
  · exact .inl (.inr ⟨ob, Ex.new h _ _ z, q⟩)
  · exact .inr ⟨q, z, t.mono (fun ps e => Ex.new h _ _ e) fun c _ e => ex _ _ e⟩
/-- a new object becomes data -/
theorem SS.fresh (S : SS G F κ σ H ρ) (h : H p = none) : SS G (upd F p o) κ σ (upd H p o) ρ := by
  obtain ⟨hF, hκ⟩ := S.free h
  refine ⟨fun b u e => ?_, fun b q e => ?_, S.len, fun j u e => ?_, fun q hq => Ex.new hF _ _ (S.tab q hq)⟩
  · by_cases hb : b = p
    · subst hb; rw [upd_same] at e; cases e; exact .inl (.inl upd_same)
    · rw [upd_ne hb] at e; exact here_upd h (Ex.new hF) (S.sub b u e)
  · have hb : b ≠ p := fun z => by rw [z, hκ] at e; cases e
    rw [upd_ne hb]
    exact ⟨(S.own b q e).1, (S.own b q e).2.eq (upd_ne hb)⟩
  · obtain ⟨w, hw, r⟩ := S.slots j u e
    exact ⟨w, hw, r.keep (Ex.new hF) (fun _ _ _ z => z) fun b q u _ _ z => Ex.new h _ _ z⟩
theorem Step.fresh (S : SS G F κ σ H ρ) (h : H p = none) : Step F κ H (upd F p o) κ (upd H p o) := by
  obtain ⟨hF, hκ⟩ := S.free h
  refine ⟨Ex.new hF, fun b u e _ => ⟨by rw [Ex.new h _ _ e]; simp, fun _ => Ex.new h _ _ e⟩, fun b u e _ _ _ => ?_, fun b q e => .inr (by rw [e]; simp)⟩
  rw [upd_ne (ne_of_none e h)]
/-- a new object that is neither data nor owned -/
theorem SS.loose (S : SS G F κ σ H ρ) (h : H p = none) : SS G F κ σ (upd H p o) ρ := by
  obtain ⟨hF, hκ⟩ := S.free h
  refine ⟨fun b u e => here_upd h (Ex.refl F) (S.sub b u e), fun b q e => ?_, S.len, fun j u e => ?_, S.tab⟩
  · have hb : b ≠ p := fun z => by rw [z, hκ] at e; cases e
    exact ⟨(S.own b q e).1, (S.own b q e).2.eq (upd_ne hb)⟩
  · obtain ⟨w, hw, r⟩ := S.slots j u e
    exact ⟨w, hw, r.keep (Ex.refl F) (fun _ _ _ z => z) fun b q u _ _ z => Ex.new h _ _ z⟩
theorem Step.loose (S : SS G F κ σ H ρ) (h : H p = none) : Step F κ H F κ (upd H p o) :=
  ⟨Ex.refl F, fun b u e _ => ⟨by rw [Ex.new h _ _ e]; simp, fun _ => Ex.new h _ _ e⟩, fun b u e _ _ _ => rfl, fun b q e => .inr (by rw [e]; simp)⟩

/-- colours without a root -/
def unc (κ : Col) (i : Nat) : Col := fun a => match κ a with
  | some (j :: q) => if j = i then none else some (j :: q)
  | _ => none
theorem unc_some {q : List Nat} (h : unc κ i a = some q) : κ a = some q ∧ q.head? ≠ some i := by
  unfold unc at h
  split at h
  · rename_i j r e
    split at h
    · cases h
    · rename_i hj
      cases h
      exact ⟨e, fun z => hj (Option.some.inj z)⟩
  · cases h
theorem unc_keep {q : List Nat} {j : Nat} (hj : j ≠ i) (r : Rt j q) (h : κ a = some q) : unc κ i a = some q := by
  unfold unc
  cases q with
  | nil => cases r
  | cons x xs =>
    have e : x = j := Option.some.inj r
    rw [h]
    show (if x = i then none else some (x :: xs)) = _
    rw [if_neg (by rw [e]; exact hj)]
theorem Step.unc : Step F κ H F (unc κ i) H := ⟨fun _ _ h => h, fun _ _ h _ => ⟨by rw [h]; simp, fun _ => h⟩, fun _ _ _ _ _ _ => rfl, fun a p h => .inr (by rw [(unc_some h).1]; simp)⟩
/-- a slot holds data -/
theorem SS.setD (S : SS G F κ σ H ρ) (r : RD G F v d) : SS G F (unc κ i) (σ.set i (some v)) H (ρ.set i (some (.fz d))) := by
  refine ⟨S.sub, fun b q e => S.own b q (unc_some e).1, by simp [S.len], fun j u e => ?_, S.tab⟩
  by_cases hj : j = i
  · subst hj
    have hl : j < ρ.length := by
      have := (List.getElem?_eq_some_iff.mp e).1
      simpa using this
    rw [List.getElem?_set_self hl] at e
    cases e
    exact ⟨v, by rw [List.getElem?_set_self (by rw [← S.len]; exact hl)], .fz r⟩
  · rw [List.getElem?_set_ne (Ne.symm hj)] at e
    obtain ⟨w, hw, r⟩ := S.slots j u e
    exact ⟨w, by rw [List.getElem?_set_ne (Ne.symm hj)]; exact hw, r.keep (Ex.refl F) (fun b q rq z => unc_keep hj rq z) fun _ _ _ _ _ z => z⟩
/-- the temporary tree's colours under a root -/
def put (κ : Col) (i : Nat) (κt : Col) : Col := fun a => match κt a with
  | some q => some (i :: q)
  | none => unc κ i a
/-- a slot takes a new tree -/
theorem SS.setO {κt : Col} {o : O} (S : SS G F κ σ H ρ) (r : RO G F κt H [] v o) (ht : ∀ a p, κt a = some p → Mo H a ∧ F a = none ∧ κ a = none) : SS G F (put κ i κt) (σ.set i (some v)) H (ρ.set i (some o)) := by
  refine ⟨S.sub, fun b q e => ?_, by simp [S.len], fun j u e => ?_, S.tab⟩
  · unfold put at e
    cases z : κt b with
    | none => rw [z] at e; exact S.own b q (unc_some e).1
    | some q' => exact ⟨(ht b q' z).2.1, (ht b q' z).1⟩
  · by_cases hj : j = i
    · subst hj
      have hl : j < ρ.length := by
        have := (List.getElem?_eq_some_iff.mp e).1
        simpa using this
      rw [List.getElem?_set_self hl] at e
      cases e
      refine ⟨v, by rw [List.getElem?_set_self (by rw [← S.len]; exact hl)], ?_⟩
      exact r.mono (fun _ => True) (fun _ _ _ => trivial) (f := fun q => j :: q) (Ex.refl F) (fun _ _ => rfl) (fun b q _ z => by unfold put; rw [z]) (fun _ _ _ _ _ z => z) trivial
    · rw [List.getElem?_set_ne (Ne.symm hj)] at e
      obtain ⟨w, hw, r⟩ := S.slots j u e
      refine ⟨w, by rw [List.getElem?_set_ne (Ne.symm hj)]; exact hw, r.keep (Ex.refl F) (fun b q rq z => ?_) fun _ _ _ _ _ z => z⟩
      unfold put
      cases zt : κt b with
      | none => exact unc_keep hj rq z
      | some q' => rw [(ht b q' zt).2.2] at z; cases z
theorem Step.put {κt : Col} {F0 : Hp} {κ0 : Col} {H0 : Hp} (s : Step F0 κ0 H0 F κ H) (ht : ∀ a p, κt a = some p → H0 a = none ∨ κ0 a ≠ none) : Step F0 κ0 H0 F (put κ i κt) H :=
  ⟨s.ext, s.frame, s.nofz, fun b q e => by
    unfold VL.put at e
    cases z : κt b with
    | none => rw [z] at e; exact s.own b q (unc_some e).1
    | some q' => exact ht b q' z⟩
/-- what is coloured becomes data -/
def fzt (F H : Hp) (κt : Col) : Hp := fun a => if κt a = none then F a else H a
theorem SS.frozen {κt : Col} {o : O} (S : SS G F κ σ H ρ) (r : RO G F κt H [] v o) (ht : ∀ a p, κt a = some p → Mo H a ∧ F a = none ∧ κ a = none) :
    SS G (fzt F H κt) κ σ H ρ ∧ RD G (fzt F H κt) v o.freeze ∧ Ex F (fzt F H κt) := by
  have ex : Ex F (fzt F H κt) := fun b u e => by
    unfold fzt
    cases z : κt b with
    | none => rw [if_pos rfl]; exact e
    | some q => rw [(ht b q z).2.1] at e; cases e
  refine ⟨⟨fun b u e => ?_, fun b q e => ⟨?_, (S.own b q e).2⟩, S.len, fun j u e => ?_, fun q hq => ex _ _ (S.tab q hq)⟩, ?_, ex⟩
  · unfold fzt at e
    by_cases z : κt b = none
    · rw [if_pos z] at e
      rcases S.sub b u e with y | ⟨q, y, t⟩
      · exact .inl y
      · exact .inr ⟨q, y, t.mono (fun _ e => e) fun c _ e => ex _ _ e⟩
    · rw [if_neg z] at e; exact .inl (.inl e)
  · unfold fzt
    cases z : κt b with
    | none => rw [if_pos rfl]; exact (S.own b q e).1
    | some q' => rw [(ht b q' z).2.2] at e; cases e
  · obtain ⟨w, hw, r⟩ := S.slots j u e
    exact ⟨w, hw, r.keep ex (fun _ _ _ z => z) fun _ _ _ _ _ z => z⟩
  · exact ROx.freeze (fun _ => True) (fun _ _ _ => trivial) ex (fun b q u _ c z => by unfold fzt; rw [if_neg (by rw [c]; simp)]; exact z) r trivial
theorem Step.frozen {κt : Col} {F0 : Hp} {κ0 : Col} {H0 : Hp} (s : Step F0 κ0 H0 F κ H) (ht : ∀ a p, κt a = some p → (H0 a = none ∨ κ0 a ≠ none) ∧ F a = none) : Step F0 κ0 H0 (fzt F H κt) κ H := by
  refine ⟨fun b u e => ?_, s.frame, fun b u e hk hn ht' => ?_, s.own⟩
  · unfold fzt
    cases z : κt b with
    | none => rw [if_pos rfl]; exact s.ext b u e
    | some q => have := s.ext b u e; rw [(ht b q z).2] at this; cases this
  · unfold fzt
    cases z : κt b with
    | none => rw [if_pos rfl]; exact s.nofz b u e hk hn ht'
    | some q =>
      rcases (ht b q z).1 with y | y
      · rw [e] at y; cases y
      · exact absurd hk y
/-- an owned slot becomes data -/
def fzs (F H : Hp) (κ : Col) (i : Nat) : Hp := fun a => match κ a with
  | some (j :: _) => if j = i then H a else F a
  | _ => F a
theorem fzs_root {q : List Nat} (h : κ a = some q) (r : Rt i q) : fzs F H κ i a = H a := by
  unfold fzs
  cases q with
  | nil => cases r
  | cons x xs => rw [h]; exact if_pos (Option.some.inj r)
theorem fzs_none (h : κ a = none) : fzs F H κ i a = F a := by unfold fzs; rw [h]
theorem SS.freezeAt {o : O} (S : SS G F κ σ H ρ) (e : ρ[i]? = some (some o)) : ∃ v, σ[i]? = some (some v) ∧ SS G (fzs F H κ i) (unc κ i) σ H (ρ.set i (some (.fz o.freeze))) ∧ RD G (fzs F H κ i) v o.freeze ∧ Step F κ H (fzs F H κ i) (unc κ i) H := by
  obtain ⟨v, hv, r⟩ := S.slots i o e
  have ex : Ex F (fzs F H κ i) := fun b u z => by
    have hk : κ b = none := by
      cases q : κ b with
      | none => rfl
      | some p => rw [(S.own b p q).1] at z; cases z
    rw [fzs_none hk]; exact z
  have rd : RD G (fzs F H κ i) v o.freeze := ROx.freeze (Rt i) Rt.app ex (fun b q u rq c z => by rw [fzs_root c rq]; exact z) r rfl
  refine ⟨v, hv, ⟨fun b u z => ?_, fun b q z => ?_, by simp [S.len], fun j u z => ?_, fun q hq => ex _ _ (S.tab q hq)⟩, rd, ⟨ex, fun b u z _ => ⟨by rw [z]; simp, fun _ => z⟩, fun b u z hk _ _ => fzs_none hk, fun b q z => .inr (by rw [(unc_some z).1]; simp)⟩⟩
  · unfold fzs at z
    split at z
    · split at z
      · exact .inl (.inl z)
      · rcases S.sub b u z with y | ⟨q, y, t⟩
        · exact .inl y
        · exact .inr ⟨q, y, t.mono (fun _ e => e) fun c _ e => ex _ _ e⟩
    · rcases S.sub b u z with y | ⟨q, y, t⟩
      · exact .inl y
      · exact .inr ⟨q, y, t.mono (fun _ e => e) fun c _ e => ex _ _ e⟩
  · obtain ⟨z1, z2⟩ := unc_some z
    obtain ⟨h1, h2⟩ := S.own b q z1
    refine ⟨?_, h2⟩
    unfold fzs
    rw [z1]
    cases q with
    | nil => exact h1
    | cons x xs =>
      show (if x = i then H b else F b) = none
      rw [if_neg (fun y => z2 (by rw [y]; rfl))]; exact h1
  · by_cases hj : j = i
    · subst hj
      have hl : j < ρ.length := (List.getElem?_eq_some_iff.mp e).1
      rw [List.getElem?_set_self hl] at z
      cases z
      exact ⟨v, hv, .fz rd⟩
    · rw [List.getElem?_set_ne (Ne.symm hj)] at z
      obtain ⟨w, hw, r⟩ := S.slots j u z
      exact ⟨w, hw, r.keep ex (fun b q rq z => unc_keep hj rq z) fun _ _ _ _ _ z => z⟩

/-! ### owned lists -/
theorem ROs.get {p : List Nat} : ∀ {n : Nat} {vs : List V} {os : List O}, ROs G F κ H p n vs os → ∀ {j : Nat} {o : O}, os[j]? = some o → ∃ v, vs[j]? = some v ∧ RO G F κ H (p ++ [n + j]) v o := by
  intro n vs os h
  induction os generalizing n vs with
  | nil => intro j o e; simp at e
  | cons u us ih =>
    intro j o e
    cases h with
    | cons h1 h2 =>
      cases j with
      | zero =>
        simp at e; subst e
        exact ⟨_, rfl, h1⟩
      | succ j =>
        obtain ⟨w, hw, r⟩ := ih h2 (j := j) (o := o) (by simpa using e)
        refine ⟨w, by simpa using hw, ?_⟩
        have : n + 1 + j = n + (j + 1) := by omega
        rw [this] at r; exact r
theorem ROs.length {p : List Nat} : ∀ {n : Nat} {vs : List V} {os : List O}, ROs G F κ H p n vs os → vs.length = os.length := by
  intro n vs os h
  induction os generalizing n vs with
  | nil => cases h; rfl
  | cons u us ih => cases h with | cons h1 h2 => simp [ih h2]
theorem ROs.append {p : List Nat} : ∀ {n : Nat} {vs ws : List V} {os us : List O}, ROs G F κ H p n vs os → ROs G F κ H p (n + os.length) ws us → ROs G F κ H p n (vs ++ ws) (os ++ us) := by
  intro n vs ws os us h
  induction os generalizing n vs with
  | nil => intro h2; cases h; exact h2
  | cons u us' ih =>
    intro h2
    cases h with
    | cons a b => exact .cons a (ih b (by rw [show n + 1 + us'.length = n + (us'.length + 1) by omega]; exact h2))
theorem ROs.set {p : List Nat} {v : V} {o : O} : ∀ {n : Nat} {vs : List V} {os : List O}, ROs G F κ H p n vs os → ∀ j, RO G F κ H (p ++ [n + j]) v o → ROs G F κ H p n (vs.set j v) (os.set j o) := by
  intro n vs os h
  induction os generalizing n vs with
  | nil => intro j r; cases h; exact .nil
  | cons u us ih =>
    intro j r
    cases h with
    | cons a b =>
      cases j with
      | zero => exact .cons r b
      | succ j => exact .cons a (ih b j (by rw [show n + 1 + j = n + (j + 1) by omega]; exact r))
/-- data items -/
theorem ROs.ofD {p : List Nat} : ∀ {n : Nat} {vs : List V} {ds : List D}, RDs G F vs ds → ROs G F κ H p n vs (ds.map .fz) := by
  intro n vs ds h
  induction ds generalizing n vs with
  | nil => cases h; exact .nil
  | cons d ds ih => cases h with | cons a b => exact .cons (.fz a) (ih b)
theorem ROs.dataAt {p : List Nat} {n : Nat} {vs : List V} {os : List O} (h : ROs G F κ H p n vs os) {j : Nat} {d : D} (e : os[j]? = some (.fz d)) : ∃ v, vs[j]? = some v ∧ RD G F v d := by
  obtain ⟨v, hv, r⟩ := h.get e
  cases r with
  | fz r => exact ⟨v, hv, r⟩
theorem RDs.length : ∀ {vs : List V} {ds : List D}, RDs G F vs ds → vs.length = ds.length := by
  intro vs ds h
  induction ds generalizing vs with
  | nil => cases h; rfl
  | cons d ds ih => cases h with | cons a b => simp [ih b]
theorem RDs.get : ∀ {vs : List V} {ds : List D}, RDs G F vs ds → ∀ {j : Nat} {d : D}, ds[j]? = some d → ∃ v, vs[j]? = some v ∧ RD G F v d := by
  intro vs ds h
  induction ds generalizing vs with
  | nil => intro j d e; simp at e
  | cons d ds ih =>
    intro j d' e
    cases h with
    | cons a b =>
      cases j with
      | zero => simp at e; subst e; exact ⟨_, rfl, a⟩
      | succ j => obtain ⟨w, hw, r⟩ := ih b (j := j) (by simpa using e); exact ⟨w, by simpa using hw, r⟩
theorem RDs.append : ∀ {vs ws : List V} {ds es : List D}, RDs G F vs ds → RDs G F ws es → RDs G F (vs ++ ws) (ds ++ es) := by
  intro vs ws ds es h
  induction ds generalizing vs with
  | nil => intro h2; cases h; exact h2
  | cons d ds ih => intro h2; cases h with | cons a b => exact .cons a (ih b h2)
theorem RDs.take : ∀ (n : Nat) {vs : List V} {ds : List D}, RDs G F vs ds → RDs G F (vs.take n) (ds.take n) := by
  intro n vs ds h
  induction ds generalizing vs n with
  | nil => cases h; simp only [List.take_nil]; exact .nil
  | cons d ds ih => cases h with | cons a b => cases n with | zero => exact .nil | succ n => exact .cons a (ih n b)
theorem RDs.drop : ∀ (n : Nat) {vs : List V} {ds : List D}, RDs G F vs ds → RDs G F (vs.drop n) (ds.drop n) := by
  intro n vs ds h
  induction ds generalizing vs n with
  | nil => cases h; simp only [List.drop_nil]; exact .nil
  | cons d ds ih => cases h with | cons a b => cases n with | zero => exact .cons a b | succ n => exact ih n b
theorem RDs.eraseIdx : ∀ (n : Nat) {vs : List V} {ds : List D}, RDs G F vs ds → RDs G F (vs.eraseIdx n) (ds.eraseIdx n) := by
  intro n vs ds h
  induction ds generalizing vs n with
  | nil => cases h; exact .nil
  | cons d ds ih => cases h with | cons a b => cases n with | zero => exact b | succ n => exact .cons a (ih n b)
theorem RDs.mono {F' : Hp} (e : Ex F F') {vs : List V} {ds : List D} (h : RDs G F vs ds) : RDs G F' vs ds := RDx.mono e.hh h
theorem RD.mono' {F' : Hp} (e : Ex F F') {v : V} {d : D} (h : RD G F v d) : RD G F' v d := RDx.mono e.hh h

/-- the objects under a path but not at it -/
def Rb (p : List Nat) (q : List Nat) : Prop := ∃ r, r ≠ [] ∧ q = p ++ r
theorem Rb.app {p : List Nat} (q : List Nat) (n : Nat) (h : Rb p q) : Rb p (q ++ [n]) := by
  obtain ⟨r, hr, rfl⟩ := h
  exact ⟨r ++ [n], by simp, by rw [List.append_assoc]⟩
theorem Rb.ne {p : List Nat} {q : List Nat} (h : Rb p q) : q ≠ p := by
  obtain ⟨r, hr, rfl⟩ := h
  intro z
  have := congrArg List.length z
  rw [List.length_append] at this
  have : r.length = 0 := by omega
  exact hr (List.eq_nil_of_length_eq_zero this)
/-- items below p stay where the object at p is written -/
theorem ROs.upd_at {p : List Nat} {n : Nat} {vs : List V} {os : List O} {u : HO} (h : ROs G F κ H p n vs os) (hk : κ a = some p) : ROs G F κ (upd H a u) p n vs os := by
  induction os generalizing n vs with
  | nil => cases h; exact .nil
  | cons o os ih =>
    cases h with
    | cons h1 h2 =>
      refine .cons ?_ (ih h2)
      refine h1.mono (Rb p) Rb.app (f := id) (Ex.refl F) (fun _ _ => rfl) (fun _ _ _ z => z) (fun b q w rq c z => ?_) ⟨[n], by simp, rfl⟩
      have hb : b ≠ a := fun e => by rw [e, hk] at c; exact rq.ne (Option.some.inj c).symm
      rw [upd_ne hb]; exact z
/-- another slot's tree stays -/
theorem SS.others {j : Nat} {q0 : List Nat} {u : HO} {o : O} (S : SS G F κ σ H ρ) (hk : κ a = some q0) (r0 : Rt i q0) (hj : j ≠ i) {w : V} (r : RO G F κ H [j] w o) : RO G F κ (upd H a u) [j] w o :=
  r.keep (Ex.refl F) (fun _ _ _ z => z) fun b q x rq c z => by
    have hb : b ≠ a := fun e => by
      rw [e, hk] at c
      have e2 : q0 = q := Option.some.inj c
      rw [e2] at r0
      have e3 : (some j : Option Nat) = some i := rq.symm.trans r0
      exact hj (Option.some.inj e3)
    rw [upd_ne hb]; exact z
/-- the slot's own object is written anew -/
theorem SS.write {q0 : List Nat} {u : HO} {o' : O} {v : V} (S : SS G F κ σ H ρ) (hk : κ a = some q0) (r0 : Rt i q0) (hv : σ[i]? = some (some v)) (r : RO G F κ (upd H a u) [i] v o') (hu : ∀ xs, u ≠ .tup xs := by intro xs h; cases h) (hu2 : ∀ xs, u ≠ tE xs := by intro xs h; cases h) : SS G F κ σ (upd H a u) (ρ.set i (some o')) := by
  refine ⟨fun b x e => ?_, fun b q e => ⟨(S.own b q e).1, ?_⟩, by simp [S.len], fun j x e => ?_, S.tab⟩
  · have hb : b ≠ a := fun z => by rw [z, (S.own a q0 hk).1] at e; cases e
    rcases S.sub b x e with (z | ⟨ob, z, y⟩) | ⟨q, y, t⟩
    · exact .inl (.inl (by rw [upd_ne hb]; exact z))
    · exact .inl (.inr ⟨ob, by rw [upd_ne hb]; exact z, y⟩)
    · exact .inr ⟨q, y, t.mono (fun ps z => by rw [upd_ne hb]; exact z) fun _ _ z => z⟩
  · by_cases hb : b = a
    · rw [hb]; exact .at upd_same hu hu2
    · exact (S.own b q e).2.eq (upd_ne hb)
  · by_cases hj : j = i
    · subst hj
      have hl : j < ρ.length := by
        have := (List.getElem?_eq_some_iff.mp e).1
        simpa using this
      rw [List.getElem?_set_self hl] at e
      cases e
      exact ⟨v, hv, r⟩
    · rw [List.getElem?_set_ne (Ne.symm hj)] at e
      obtain ⟨w, hw, r⟩ := S.slots j x e
      exact ⟨w, hw, S.others hk r0 hj r⟩
theorem Step.write {q0 : List Nat} {u : HO} (hk : κ a = some q0) : Step F κ H F κ (upd H a u) :=
  ⟨Ex.refl F, fun b x e hn => by
    have hb : b ≠ a := fun z => by rw [z, hk] at hn; cases hn
    rw [upd_ne hb]; exact ⟨by rw [e]; simp, fun _ => e⟩, fun _ _ _ _ _ _ => rfl, fun b q e => .inr (by rw [e]; simp)⟩
theorem SS.same (S : SS G F κ σ H ρ) {o : O} (e : ρ[i]? = some (some o)) : ρ.set i (some o) = ρ := by
  have hl := (List.getElem?_eq_some_iff.mp e).1
  exact List.ext_getElem? fun j => by
    by_cases hj : i = j
    · subst hj; rw [List.getElem?_set_self hl, e]
    · rw [List.getElem?_set_ne hj]
end
end VL
set_option Elab.async false
set_option linter.all false
set_option maxRecDepth 100000
set_option maxHeartbeats 4000000
namespace VL
open PySem L2

/-- for omega, simp: lengths that a list may have -/
def lim : Nat := 6000000
theorem lim_line : lim ≤ sizeLine := by rw [sizeLine_eq]; decide
theorem lim_lt {n : Nat} (h : n < lim) : n < sizeLine := Nat.lt_of_lt_of_le h lim_line
theorem lim_le {n : Nat} (h : n ≤ lim) : n ≤ sizeLine := Nat.le_trans h lim_line

section
variable {G : Gx} {X : Cx} {e : Expr} {es : List Expr} {pos : Pos}

/-! ### from the one judgement to the other -/
def toD (f : OF) : DF := fun ρ => (f ρ).map fun p => (p.1.freeze, p.2)
def toO (f : DF) : OF := fun ρ => (f ρ).map fun p => (.fz p.1, p.2)
theorem tD_tN {f : OF} {σ : St} {H : Hp} {Q : VK} (h : tD G (toD f) σ H Q) : tN G f σ H Q := by
  obtain ⟨F, κ, ρ, d, ρ', S, e, k⟩ := h
  unfold toD at e
  cases q : f ρ with
  | none => rw [q] at e; cases e
  | some p =>
    obtain ⟨o, ρ1⟩ := p
    rw [q] at e
    cases e
    refine ⟨F, κ, ρ, o, _, S, q, fun v F' κ' H' κt S' st r ht => ?_⟩
    obtain ⟨S2, r2, ex⟩ := S'.frozen r fun a p z => (ht a p z).2
    exact k v _ _ _ S2 (st.frozen fun a p z => ⟨(ht a p z).1, (ht a p z).2.2.1⟩) r2
theorem tN_tD {f : DF} {σ : St} {H : Hp} {Q : VK} (h : tN G (toO f) σ H Q) : tD G f σ H Q := by
  obtain ⟨F, κ, ρ, o, ρ', S, e, k⟩ := h
  unfold toO at e
  cases q : f ρ with
  | none => rw [q] at e; cases e
  | some p =>
    obtain ⟨d, ρ1⟩ := p
    rw [q] at e
    cases e
    exact ⟨F, κ, ρ, d, _, S, q, fun v F' κ' H' S' st r => k v F' κ' H' (fun _ => none) S' st (.fz r) fun _ _ z => nomatch z⟩
theorem vx_of_vn {f : OF} (h : VN G X e f) : VX G X e (toD f) := peImp h fun _ _ _ q => tD_tN q
theorem vn_of_vx {f : DF} (h : VX G X e f) : VN G X e (toO f) := peImp h fun _ _ _ q => tN_tD q

/-! ### names, constants -/
def dVar (i : Nat) : DF := fun ρ => match ρ[i]? with
  | some (some (.fz d)) => some (d, ρ)
  | _ => none
theorem dVar_ok {i : Nat} {d : D} {ρ ρ' : Env'} (h : dVar i ρ = some (d, ρ')) : ρ[i]? = some (some (.fz d)) ∧ ρ' = ρ := by
  unfold dVar at h
  split at h
  · rename_i d' e; cases h; exact ⟨e, rfl⟩
  · cases h
theorem SS.varD {F κ σ H ρ} (S : SS G F κ σ H ρ) {i : Nat} {d : D} (e : ρ[i]? = some (some (.fz d))) : ∃ v, σ[i]? = some (some v) ∧ RD G F v d := by
  obtain ⟨v, hv, r⟩ := S.slots i _ e
  cases r with
  | fz r => exact ⟨v, hv, r⟩
theorem vx_var {i : Nat} (h : PE X e (tVar i)) : VX G X e (dVar i) := peImp h fun σ H Q ⟨F, κ, ρ, d, ρ', S, e, k⟩ => by
  obtain ⟨e1, rfl⟩ := dVar_ok e
  obtain ⟨v, hv, r⟩ := S.varD e1
  exact ⟨v, hv, k v F κ H S .refl r⟩
/-- a name that owned its tree gives it up -/
def dFz (i : Nat) : DF := fun ρ => match ρ[i]? with
  | some (some o) => some (o.freeze, ρ.set i (some (.fz o.freeze)))
  | _ => none
theorem vx_fz {i : Nat} (h : PE X e (tVar i)) : VX G X e (dFz i) := peImp h fun σ H Q ⟨F, κ, ρ, d, ρ', S, e, k⟩ => by
  unfold dFz at e
  split at e
  · rename_i o e1
    cases e
    obtain ⟨v, hv, S2, r, st⟩ := S.freezeAt e1
    exact ⟨v, hv, k v _ _ H S2 st r⟩
  · cases e
/-- .. and hands it on -/
def dMove (i : Nat) : OF := fun ρ => match ρ[i]? with
  | some (some o) => some (o, ρ.set i none)
  | _ => none
/-- colours of one root, the root off -/
def sub (κ : Col) (i : Nat) : Col := fun a => match κ a with
  | some (j :: q) => if j = i then some q else none
  | _ => none
theorem sub_some {κ : Col} {i : Nat} {a : Addr} {q : List Nat} (h : sub κ i a = some q) : κ a = some (i :: q) := by
  unfold sub at h
  split at h
  · rename_i j r e
    split at h
    · rename_i hj; cases h; rw [e, hj]
    · cases h
  · cases h
theorem sub_of {κ : Col} {i : Nat} {a : Addr} {q : List Nat} (h : κ a = some (i :: q)) : sub κ i a = some q := by
  unfold sub; rw [h]; exact if_pos rfl
theorem sub_tail {κ : Col} {i : Nat} {a : Addr} {p : List Nat} (r : Rt i p) (h : κ a = some p) : sub κ i a = some p.tail := by
  cases p with
  | nil => cases r
  | cons x xs =>
    have e : x = i := Option.some.inj r
    subst e
    exact sub_of h
theorem Rt.tail {i : Nat} {p : List Nat} {n : Nat} (r : Rt i p) : (p ++ [n]).tail = p.tail ++ [n] := by
  cases p with
  | nil => cases r
  | cons x xs => rfl
theorem ROx.sub {F : Hp} {κ : Col} {H : Hp} {i : Nat} {b p n v o vs os} (h : ROx G F κ H b p n v o vs os) : Rt i p → ROx G F (VL.sub κ i) H b p.tail n v o vs os := by
  induction h with
  | fz h => exact fun _ => .fz h
  | lst c h _ ih => exact fun r => .lst (sub_tail r c) h (ih r)
  | dK c h m _ ih => exact fun r => .dK (sub_tail r c) h m (ih r)
  | dT c h m _ ih => exact fun r => .dT (sub_tail r c) h m (ih r)
  | ins c h m _ ih => exact fun r => .ins (sub_tail r c) h m (ih r)
  | dN c n h m => exact fun r => .dN (sub_tail r c) n h m
  | nil => exact fun _ => .nil
  | cons _ _ ih1 ih2 => exact fun r => .cons (by have := ih1 (Rt.app _ _ r); rw [r.tail] at this; exact this) (ih2 r)
theorem vn_move {i : Nat} (h : PE X e (tVar i)) : VN G X e (dMove i) := peImp h fun σ H Q ⟨F, κ, ρ, o, ρ', S, e, k⟩ => by
  unfold dMove at e
  split at e
  · rename_i o' e1
    cases e
    obtain ⟨v, hv, r⟩ := S.slots i _ e1
    refine ⟨v, hv, k v F (unc κ i) H (VL.sub κ i) ⟨S.sub, fun b q z => S.own b q (unc_some z).1, by simp [S.len], fun j u z => ?_, S.tab⟩ .unc (r.sub rfl) fun a p z => ?_⟩
    · by_cases hj : j = i
      · subst hj
        have hl : j < ρ.length := (List.getElem?_eq_some_iff.mp e1).1
        rw [List.getElem?_set_self hl] at z
        cases z
      · rw [List.getElem?_set_ne (Ne.symm hj)] at z
        obtain ⟨w, hw, r⟩ := S.slots j u z
        exact ⟨w, hw, r.keep (Ex.refl F) (fun b q rq z => unc_keep hj rq z) fun _ _ _ _ _ z => z⟩
    · have z1 := sub_some z
      refine ⟨.inr (by rw [z1]; simp), (S.own a _ z1).2, (S.own a _ z1).1, ?_⟩
      unfold unc
      rw [z1]
      exact if_pos rfl
  · cases e
def dC (d : D) : DF := fun ρ => some (d, ρ)
theorem vx_c {v : V} {d : D} (h : PE X e (tC v)) (r : ∀ F, RD G F v d) : VX G X e (dC d) := peImp h fun σ H Q ⟨F, κ, ρ, d', ρ', S, e, k⟩ => by
  cases e
  exact k v F κ H S .refl (r F)
theorem vx_int {i j} : VX G X (.Constant (.int i) j pos) (dC (.int i)) := vx_c pe_int fun _ => .int i
theorem vx_bl {b j} : VX G X (.Constant (.bool b) j pos) (dC (.bl b)) := vx_c pe_bl fun _ => .bl b
theorem vx_non {j} : VX G X (.Constant .none j pos) (dC .non) := vx_c pe_non fun _ => .non
/-! ### argument lists -/
abbrev LF := Env' → Option (List D × Env')
def tA (G : Gx) (f : LF) : TA := fun σ H Q => ∃ F κ ρ ds ρ', SS G F κ σ H ρ ∧ f ρ = some (ds, ρ') ∧
  ∀ vs F' κ' H', SS G F' κ' σ H' ρ' → Step F κ H F' κ' H' → RDs G F' vs ds → Q vs H'
abbrev VA (G : Gx) (X : Cx) (es : List Expr) (f : LF) : Prop := PA X es (tA G f)
theorem paImp {t t' : TA} (h : PA X es t) (k : ∀ σ H Q, t' σ H Q → t σ H Q) : PA X es t' := ⟨fun pos pins s σ H Q I q => h.run pos pins s σ H Q I (k σ H Q q)⟩
def aNil : LF := fun ρ => some ([], ρ)
def aCons (f : DF) (g : LF) : LF := fun ρ => (f ρ).bind fun p => (g p.2).map fun q => (p.1 :: q.1, q.2)
theorem aCons_ok {f : DF} {g : LF} {ρ ρ2 : Env'} {ds : List D} (h : aCons f g ρ = some (ds, ρ2)) : ∃ d ds' ρ1, ds = d :: ds' ∧ f ρ = some (d, ρ1) ∧ g ρ1 = some (ds', ρ2) := by
  unfold aCons at h
  cases q : f ρ with
  | none => rw [q] at h; cases h
  | some p =>
    obtain ⟨d, ρ1⟩ := p
    rw [q] at h
    cases q2 : g ρ1 with
    | none => simp only [Option.bind_some, q2] at h; cases h
    | some p2 =>
      obtain ⟨ds', ρ2'⟩ := p2
      simp only [Option.bind_some, q2, Option.map_some] at h
      cases h
      exact ⟨d, ds', ρ1, rfl, rfl, q2⟩
theorem va_nil : VA G X [] aNil := paImp pa_nil fun σ H Q ⟨F, κ, ρ, d, ρ', S, e, k⟩ => by
  cases e
  exact k ([] : List V) F κ H S .refl .nil
theorem va_cons {f : DF} {g : LF} (ha : VX G X e f) (hr : VA G X es g) (hs : starEach (e :: es) X.env = (false, eval e X.env) :: starEach es X.env := by rfl) : VA G X (e :: es) (aCons f g) :=
  paImp (pa_cons ha hr hs) fun σ H Q ⟨F, κ, ρ, ds, ρ2, S, e, k⟩ => by
    obtain ⟨d, ds', ρ1, rfl, e1, e2⟩ := aCons_ok e
    exact ⟨F, κ, ρ, d, ρ1, S, e1, fun v F1 κ1 H1 S1 s1 r1 => ⟨F1, κ1, ρ1, ds', ρ2, S1, e2, fun vs F2 κ2 H2 S2 s2 r2 => k (v :: vs) F2 κ2 H2 S2 (s1.trans s2) (.cons (r1.mono' s2.ext) r2)⟩⟩

/-! ### results that an operation on values gives -/
/-- the value z tells c: behind it the state is a later one -/
def Gives (G : Gx) (F : Hp) (κ : Col) (σ : St) (H : Hp) (ρ : Env') (c : D) (Q : VK) : Prop :=
  ∀ v F' κ' H', SS G F' κ' σ H' ρ → Step F κ H F' κ' H' → RD G F' v c → Q v H'
def GivesN (G : Gx) (F : Hp) (κ : Col) (σ : St) (H : Hp) (ρ : Env') (o : O) (Q : VK) : Prop :=
  ∀ v F' κ' H' κt, SS G F' κ' σ H' ρ → Step F κ H F' κ' H' → RO G F' κt H' [] v o → (∀ a p, κt a = some p → (H a = none ∨ κ a ≠ none) ∧ Mo H' a ∧ F' a = none ∧ κ' a = none) → Q v H'
section
variable {F : Hp} {κ : Col} {σ : St} {H : Hp} {ρ : Env'} {Q : VK} {c : D} {v : V}
theorem Gives.here (k : Gives G F κ σ H ρ c Q) (S : SS G F κ σ H ρ) (r : RD G F v c) : Q v H := k v F κ H S .refl r
theorem Gives.newT {vs : List V} {ds : List D} (k : Gives G F κ σ H ρ (.tup ds) Q) (S : SS G F κ σ H ρ) (r : RDs G F vs ds) {p : Addr} (hp : H p = none) : Q (.ref p) (upd H p (.tup vs)) :=
  k _ _ _ _ (S.fresh hp) (.fresh S hp) (.tup upd_same (r.mono (Ex.new (S.free hp).1)))
theorem Gives.newL {vs : List V} {ds : List D} (k : Gives G F κ σ H ρ (.lst ds) Q) (S : SS G F κ σ H ρ) (r : RDs G F vs ds) {p : Addr} (hp : H p = none) : Q (.ref p) (upd H p (.lst vs)) :=
  k _ _ _ _ (S.fresh hp) (.fresh S hp) (.lst upd_same (r.mono (Ex.new (S.free hp).1)))
/-- a single new object, owned -/
def one (p : Addr) : Col := fun a => if a = p then some [] else none
theorem one_some {p a : Addr} {q : List Nat} (h : one p a = some q) : a = p ∧ q = [] := by
  unfold one at h
  split at h
  · rename_i e; cases h; exact ⟨e, rfl⟩
  · cases h
theorem one_same {p : Addr} : one p p = some [] := if_pos rfl
theorem GivesN.newL {vs : List V} {ds : List D} (k : GivesN G F κ σ H ρ (.lst (ds.map .fz)) Q) (S : SS G F κ σ H ρ) (r : RDs G F vs ds) {p : Addr} (hp : H p = none) : Q (.ref p) (upd H p (.lst vs)) := by
  refine k _ F κ _ (one p) (S.loose hp) (.loose S hp) (.lst one_same upd_same (ROs.ofD r)) fun a q z => ?_
  obtain ⟨rfl, _⟩ := one_some z
  exact ⟨.inl hp, .at upd_same (by intro xs h; cases h), (S.free hp).1, (S.free hp).2⟩
end

/-! ### operators -/
/-- the rule r, on data, computes g -/
def Does2 (G : Gx) (r : R2) (g : D → D → Option D) : Prop := ∀ F κ σ H ρ x y a b c Q, SS G F κ σ H ρ → RD G F x a → RD G F y b → g a b = some c → Gives G F κ σ H ρ c Q → r x y H Q
def DoesN2 (G : Gx) (r : R2) (g : D → D → Option O) : Prop := ∀ F κ σ H ρ x y a b c Q, SS G F κ σ H ρ → RD G F x a → RD G F y b → g a b = some c → GivesN G F κ σ H ρ c Q → r x y H Q
def Does1 (G : Gx) (r : V → Hp → VK → Prop) (g : D → Option D) : Prop := ∀ F κ σ H ρ x a c Q, SS G F κ σ H ρ → RD G F x a → g a = some c → Gives G F κ σ H ρ c Q → r x H Q
def DoesA (G : Gx) (r : List V → Hp → VK → Prop) (g : List D → Option D) : Prop := ∀ F κ σ H ρ xs as c Q, SS G F κ σ H ρ → RDs G F xs as → g as = some c → Gives G F κ σ H ρ c Q → r xs H Q
def DoesNA (G : Gx) (r : List V → Hp → VK → Prop) (g : List D → Option O) : Prop := ∀ F κ σ H ρ xs as c Q, SS G F κ σ H ρ → RDs G F xs as → g as = some c → GivesN G F κ σ H ρ c Q → r xs H Q
def d2 (g : D → D → Option D) (f h : DF) : DF := fun ρ => (f ρ).bind fun p => (h p.2).bind fun q => (g p.1 q.1).map fun c => (c, q.2)
def n2 (g : D → D → Option O) (f h : DF) : OF := fun ρ => (f ρ).bind fun p => (h p.2).bind fun q => (g p.1 q.1).map fun c => (c, q.2)
def d1 (g : D → Option D) (f : DF) : DF := fun ρ => (f ρ).bind fun p => (g p.1).map fun c => (c, p.2)
def dA (g : List D → Option D) (f : LF) : DF := fun ρ => (f ρ).bind fun p => (g p.1).map fun c => (c, p.2)
def nA (g : List D → Option O) (f : LF) : OF := fun ρ => (f ρ).bind fun p => (g p.1).map fun c => (c, p.2)
theorem bind2_ok {α β γ δ : Type} {x : Option (α × β)} {g : α → Option γ} {c : γ} {ρ' : β} (h : (x.bind fun p => (g p.1).map fun c => (c, p.2)) = some (c, ρ')) : ∃ a, x = some (a, ρ') ∧ g a = some c := by
  cases x with
  | none => cases h
  | some p =>
    obtain ⟨a, b⟩ := p
    simp only [Option.bind_some] at h
    cases q : g a with
    | none => rw [q] at h; cases h
    | some z => rw [q] at h; cases h; exact ⟨a, rfl, q⟩
theorem d2_ok {γ : Type} {f h : DF} {g : D → D → Option γ} {ρ ρ' : Env'} {c : γ} (e : ((f ρ).bind fun p => (h p.2).bind fun q => (g p.1 q.1).map fun c => (c, q.2)) = some (c, ρ')) : ∃ a b ρ1, f ρ = some (a, ρ1) ∧ h ρ1 = some (b, ρ') ∧ g a b = some c := by
  cases q : f ρ with
  | none => rw [q] at e; cases e
  | some p =>
    obtain ⟨a, ρ1⟩ := p
    rw [q] at e
    obtain ⟨b, h1, h2⟩ := bind2_ok (δ := D) (g := g a) e
    exact ⟨a, b, ρ1, rfl, h1, h2⟩
theorem t2_run {r : R2} {g : D → D → Option D} (dr : Does2 G r g) {f h : DF} {σ : St} {H : Hp} {Q : VK} (q : tD G (d2 g f h) σ H Q) : tOp r (tD G f) (tD G h) σ H Q := by
  obtain ⟨F, κ, ρ, c, ρ', S, e, k⟩ := q
  obtain ⟨a, b, ρ1, e1, e2, e3⟩ := d2_ok e
  exact ⟨F, κ, ρ, a, ρ1, S, e1, fun x F1 κ1 H1 S1 s1 r1 => ⟨F1, κ1, ρ1, b, ρ', S1, e2, fun y F2 κ2 H2 S2 s2 r2 => dr F2 κ2 σ H2 ρ' x y a b c Q S2 (r1.mono' s2.ext) r2 e3 fun v F3 κ3 H3 S3 s3 r3 => k v F3 κ3 H3 S3 ((s1.trans s2).trans s3) r3⟩⟩
theorem tn_step {κ κ1 : Col} {F F1 H H1 : Hp} (s : Step F κ H F1 κ1 H1) {a : Addr} (z : H1 a = none ∨ κ1 a ≠ none) : H a = none ∨ κ a ≠ none := by
  rcases z with z | z
  · cases q : H a with
    | none => exact .inl rfl
    | some o =>
      refine .inr fun hk => ?_
      exact absurd z (s.there q hk)
  · cases q : κ1 a with
    | none => exact absurd q z
    | some p => exact s.own a p q
theorem t2_runN {r : R2} {g : D → D → Option O} (dr : DoesN2 G r g) {f h : DF} {σ : St} {H : Hp} {Q : VK} (q : tN G (n2 g f h) σ H Q) : tOp r (tD G f) (tD G h) σ H Q := by
  obtain ⟨F, κ, ρ, c, ρ', S, e, k⟩ := q
  obtain ⟨a, b, ρ1, e1, e2, e3⟩ := d2_ok e
  exact ⟨F, κ, ρ, a, ρ1, S, e1, fun x F1 κ1 H1 S1 s1 r1 => ⟨F1, κ1, ρ1, b, ρ', S1, e2, fun y F2 κ2 H2 S2 s2 r2 => dr F2 κ2 σ H2 ρ' x y a b c Q S2 (r1.mono' s2.ext) r2 e3 fun v F3 κ3 H3 κt S3 s3 r3 ht =>
    k v F3 κ3 H3 κt S3 ((s1.trans s2).trans s3) r3 fun a p z => ⟨tn_step (s1.trans s2) (ht a p z).1, (ht a p z).2⟩⟩⟩
theorem vx_op {a b : Expr} {op : Operator} {r : R2} {g : D → D → Option D} {f h : DF} (ho : OpR X (binaryOp op) r) (dr : Does2 G r g) (ha : VX G X a f) (hb : VX G X b h) : VX G X (.BinOp a op b pos) (d2 g f h) := peImp (pe_op ho ha hb) fun _ _ _ q => t2_run dr q
theorem vn_op {a b : Expr} {op : Operator} {r : R2} {g : D → D → Option O} {f h : DF} (ho : OpR X (binaryOp op) r) (dr : DoesN2 G r g) (ha : VX G X a f) (hb : VX G X b h) : VN G X (.BinOp a op b pos) (n2 g f h) := peImp (pe_op ho ha hb) fun _ _ _ q => t2_runN dr q
theorem vx_cmp {a b : Expr} {op : CmpOp} {r : R2} {g : D → D → Option D} {f h : DF} (ho : OpR X (compareOp op) r) (dr : Does2 G r g) (ha : VX G X a f) (hb : VX G X b h) (hm : behindInMarks op b = false) : VX G X (.Compare a [op] [b] pos) (d2 g f h) := peImp (pe_cmpR ho ha hb hm) fun _ _ _ q => t2_run dr q
theorem vx_ix {a b : Expr} {r : R2} {g : D → D → Option D} {f h : DF} (hr : IxR X r) (dr : Does2 G r g) (ha : VX G X a f) (hb : VX G X b h) (hs : PlainIx b) : VX G X (.Subscript a b pos) (d2 g f h) := peImp (pe_ix hr ha hb hs) fun _ _ _ q => t2_run dr q
theorem t1_run {r : V → Hp → VK → Prop} {g : D → Option D} (dr : Does1 G r g) {f : DF} {σ : St} {H : Hp} {Q : VK} (q : tD G (d1 g f) σ H Q) : tD G f σ H fun x H1 => r x H1 Q := by
  obtain ⟨F, κ, ρ, c, ρ', S, e, k⟩ := q
  obtain ⟨a, e1, e2⟩ := bind2_ok (δ := D) e
  exact ⟨F, κ, ρ, a, ρ', S, e1, fun x F1 κ1 H1 S1 s1 r1 => dr F1 κ1 σ H1 ρ' x a c Q S1 r1 e2 fun v F3 κ3 H3 S3 s3 r3 => k v F3 κ3 H3 S3 (s1.trans s3) r3⟩
theorem vx_un {a : Expr} {op : UnaryOp} {r : V → Hp → VK → Prop} {g : D → Option D} {f : DF} (ho : UnR X (unaryOp op) r) (dr : Does1 G r g) (ha : VX G X a f) : VX G X (.UnaryOp op a pos) (d1 g f) := peImp (pe_un ho ha) fun _ _ _ q => t1_run dr q
theorem tA_run {r : List V → Hp → VK → Prop} {g : List D → Option D} (dr : DoesA G r g) {f : LF} {σ : St} {H : Hp} {Q : VK} (q : tD G (dA g f) σ H Q) : tA G f σ H fun x H1 => r x H1 Q := by
  obtain ⟨F, κ, ρ, c, ρ', S, e, k⟩ := q
  obtain ⟨a, e1, e2⟩ := bind2_ok (δ := D) e
  exact ⟨F, κ, ρ, a, ρ', S, e1, fun x F1 κ1 H1 S1 s1 r1 => dr F1 κ1 σ H1 ρ' x a c Q S1 r1 e2 fun v F3 κ3 H3 S3 s3 r3 => k v F3 κ3 H3 S3 (s1.trans s3) r3⟩
theorem tA_runN {r : List V → Hp → VK → Prop} {g : List D → Option O} (dr : DoesNA G r g) {f : LF} {σ : St} {H : Hp} {Q : VK} (q : tN G (nA g f) σ H Q) : tA G f σ H fun x H1 => r x H1 Q := by
  obtain ⟨F, κ, ρ, c, ρ', S, e, k⟩ := q
  obtain ⟨a, e1, e2⟩ := bind2_ok (δ := D) e
  exact ⟨F, κ, ρ, a, ρ', S, e1, fun x F1 κ1 H1 S1 s1 r1 => dr F1 κ1 σ H1 ρ' x a c Q S1 r1 e2 fun v F3 κ3 H3 κt S3 s3 r3 ht => k v F3 κ3 H3 κt S3 (s1.trans s3) r3 fun a p z => ⟨tn_step s1 (ht a p z).1, (ht a p z).2⟩⟩
/-- a built-in function, a built-in type -/
theorem vx_cb {x : Str} {p : Pos} {id : String} {r : List V → Hp → VK → Prop} {g : List D → Option D} {f : LF} (hc : CallR X (.builtin id) r) (dr : DoesA G r g) (hg : Gl X x) (hm : X.mg x = none) (hv : bootBuiltins x = some (.builtin id)) (ha : VA G X (e :: es) f)
    (hn : x ≠ "__name__" := by decide) (hdb : (x == ("__debug__" : Str)) = false := by decide)
    (he : starEach (e :: es) X.env = (false, eval e X.env) :: starEach es X.env := by rfl) (hpl : (backTo pos (starEach es X.env)).any (·.1) = false := by rfl) : VX G X (.Call (.Name x p) (e :: es) [] pos) (dA g f) :=
  peImp (pe_callB hc hg hm hv ha hn hdb he hpl) fun _ _ _ q => tA_run dr q
theorem vx_ct {x : Str} {p : Pos} {T : String} {r : List V → Hp → VK → Prop} {g : List D → Option D} {f : LF} (hc : CallR X (.type T) r) (dr : DoesA G r g) (hg : Gl X x) (hm : X.mg x = none) (hv : bootBuiltins x = some (.type T)) (ha : VA G X (e :: es) f)
    (hn : x ≠ "__name__" := by decide) (hdb : (x == ("__debug__" : Str)) = false := by decide)
    (he : starEach (e :: es) X.env = (false, eval e X.env) :: starEach es X.env := by rfl) (hpl : (backTo pos (starEach es X.env)).any (·.1) = false := by rfl) : VX G X (.Call (.Name x p) (e :: es) [] pos) (dA g f) :=
  peImp (pe_callTy hc hg hm hv ha hn hdb he hpl) fun _ _ _ q => tA_run dr q
theorem vn_ct {x : Str} {p : Pos} {T : String} {r : List V → Hp → VK → Prop} {g : List D → Option O} {f : LF} (hc : CallR X (.type T) r) (dr : DoesNA G r g) (hg : Gl X x) (hm : X.mg x = none) (hv : bootBuiltins x = some (.type T)) (ha : VA G X (e :: es) f)
    (hn : x ≠ "__name__" := by decide) (hdb : (x == ("__debug__" : Str)) = false := by decide)
    (he : starEach (e :: es) X.env = (false, eval e X.env) :: starEach es X.env := by rfl) (hpl : (backTo pos (starEach es X.env)).any (·.1) = false := by rfl) : VN G X (.Call (.Name x p) (e :: es) [] pos) (nA g f) :=
  peImp (pe_callTy hc hg hm hv ha hn hdb he hpl) fun _ _ _ q => tA_runN dr q

/-! ### displays -/
def gTup' (ds : List D) : Option D := if ds.length ≤ lim then some (.tup ds) else none
def gLst' (ds : List D) : Option O := if ds.length ≤ lim then some (.lst (ds.map .fz)) else none
theorem vx_tup {x1} {f : LF} (h : VA G X es f) : VX G X (.Tuple es x1 pos) (dA gTup' f) := peImp (pe_tup h) fun σ H Q q => by
  refine tA_run (r := fun xs H1 Q => xs.length ≤ sizeLine ∧ ∀ p, H1 p = none → Q (.ref p) (upd H1 p (.tup xs))) ?_ q
  intro F κ σ H ρ xs as c Q S r e k
  unfold gTup' at e
  split at e
  · rename_i hl
    cases e
    exact ⟨by rw [r.length]; exact lim_le hl, fun p hp => k.newT S r hp⟩
  · cases e
theorem vn_lst {f : LF} (h : VA G X es f) : VN G X (.List es pos) (nA gLst' f) := peImp (pe_lst h) fun σ H Q q => by
  refine tA_runN (r := fun xs H1 Q => xs.length ≤ sizeLine ∧ ∀ p, H1 p = none → Q (.ref p) (upd H1 p (.lst xs))) ?_ q
  intro F κ σ H ρ xs as c Q S r e k
  unfold gLst' at e
  split at e
  · rename_i hl
    cases e
    exact ⟨by rw [r.length]; exact lim_le hl, fun p hp => k.newL S r hp⟩
  · cases e
end
end VL
set_option Elab.async false
set_option linter.all false
set_option maxRecDepth 100000
set_option maxHeartbeats 4000000
namespace VL
open PySem L2
section
variable {G : Gx} {X : Cx} {e a b c : Expr} {es : List Expr} {pos : Pos}

/-! ### tests -/
abbrev BF := Env' → Option (Bool × Env')
def tT (G : Gx) (f : BF) : TT := fun σ H Q => ∃ F κ ρ d ρ', SS G F κ σ H ρ ∧ f ρ = some (d, ρ') ∧
  ∀ F' κ' H', SS G F' κ' σ H' ρ' → Step F κ H F' κ' H' → Q d H'
abbrev VT (G : Gx) (X : Cx) (e : Expr) (f : BF) : Prop := PT X e (tT G f)
abbrev VW (G : Gx) (X : Cx) (e : Expr) (f : BF) : Prop := PW X e (tT G f)
theorem ptImp {t t' : TT} (h : PT X e t) (k : ∀ σ H Q, t' σ H Q → t σ H Q) : PT X e t' := ⟨fun pins s σ H Q I q => h.run pins s σ H Q I (k σ H Q q)⟩
theorem pwImp {t t' : TT} (h : PW X e t) (k : ∀ σ H Q, t' σ H Q → t σ H Q) : PW X e t' := ⟨fun wh pins s σ H Q I q => h.run wh pins s σ H Q I (k σ H Q q)⟩
def D.truth : D → Option Bool
  | .bl b => some b
  | _ => none
theorem D.truth_ok {d : D} {b : Bool} (h : d.truth = some b) : d = .bl b := by
  cases d <;> first | (cases h; rfl) | cases h
theorem RD.bl_inv {F : Hp} {v : V} {b : Bool} (h : RD G F v (.bl b)) : v = .bl b := by cases h; rfl
theorem RD.int_inv {F : Hp} {v : V} {b : Int} (h : RD G F v (.int b)) : v = .int b := by cases h; rfl
def bD (f : DF) : BF := fun ρ => (f ρ).bind fun p => (p.1.truth).map fun b => (b, p.2)
theorem tB_run {f : DF} {σ : St} {H : Hp} {Q : Bool → Hp → Prop} (q : tT G (bD f) σ H Q) : tD G f σ H fun x H1 => ∃ k, x = .bl k ∧ Q k H1 := by
  obtain ⟨F, κ, ρ, c, ρ', S, e, k⟩ := q
  obtain ⟨d, e1, e2⟩ := bind2_ok (δ := D) (g := D.truth) e
  obtain rfl := D.truth_ok e2
  exact ⟨F, κ, ρ, _, ρ', S, e1, fun v F1 κ1 H1 S1 s1 r1 => ⟨_, r1.bl_inv, k F1 κ1 H1 S1 s1⟩⟩
theorem vt_val {f : DF} (h : VX G X e f) (he : ∀ whole, isTrue e X.env whole = (do let v ← whole; standAt e.pos; holding [v] (truthy v)) := by intro _; rfl) : VT G X e (bD f) :=
  ptImp (pt_val h he) fun _ _ _ q => tB_run q
theorem vt_cmp {op : CmpOp} {r : R2} {g : D → D → Option D} {f h : DF} (ho : OpR X (compareOp op) r) (dr : Does2 G r g) (ha : VX G X a f) (hb : VX G X b h) (hm : behindInMarks op b = false) : VT G X (.Compare a [op] [b] pos) (bD (d2 g f h)) :=
  ptImp (pt_cmpR ho ha hb hm) fun _ _ _ q => t2_run dr (tB_run q)
def bAnd (f g : BF) : BF := fun ρ => (f ρ).bind fun p => if p.1 then g p.2 else some (false, p.2)
def bOr (f g : BF) : BF := fun ρ => (f ρ).bind fun p => if p.1 then some (true, p.2) else g p.2
def bNot (f : BF) : BF := fun ρ => (f ρ).map fun p => (!p.1, p.2)
theorem bAnd_run {f g : BF} {σ : St} {H : Hp} {Q : Bool → Hp → Prop} (q : tT G (bAnd f g) σ H Q) : tAnd (tT G f) (tT G g) σ H Q := by
  obtain ⟨F, κ, ρ, c, ρ', S, e, k⟩ := q
  unfold bAnd at e
  cases q1 : f ρ with
  | none => rw [q1] at e; cases e
  | some p =>
    obtain ⟨b1, ρ1⟩ := p
    rw [q1] at e
    refine ⟨F, κ, ρ, b1, ρ1, S, q1, fun F1 κ1 H1 S1 s1 => ?_⟩
    cases b1 with
    | true => exact ⟨F1, κ1, ρ1, c, ρ', S1, e, fun F2 κ2 H2 S2 s2 => k F2 κ2 H2 S2 (s1.trans s2)⟩
    | false => cases e; exact k F1 κ1 H1 S1 s1
theorem bOr_run {f g : BF} {σ : St} {H : Hp} {Q : Bool → Hp → Prop} (q : tT G (bOr f g) σ H Q) : tOr (tT G f) (tT G g) σ H Q := by
  obtain ⟨F, κ, ρ, c, ρ', S, e, k⟩ := q
  unfold bOr at e
  cases q1 : f ρ with
  | none => rw [q1] at e; cases e
  | some p =>
    obtain ⟨b1, ρ1⟩ := p
    rw [q1] at e
    refine ⟨F, κ, ρ, b1, ρ1, S, q1, fun F1 κ1 H1 S1 s1 => ?_⟩
    cases b1 with
    | false => exact ⟨F1, κ1, ρ1, c, ρ', S1, e, fun F2 κ2 H2 S2 s2 => k F2 κ2 H2 S2 (s1.trans s2)⟩
    | true => cases e; exact k F1 κ1 H1 S1 s1
theorem vw_and1 {f : BF} (h : VT G X a f) : VW G X (.BoolOp .And [a] pos) f := pw_and1 h
theorem vw_or1 {f : BF} (h : VT G X a f) : VW G X (.BoolOp .Or [a] pos) f := pw_or1 h
theorem vw_and {f g : BF} {r : List Expr} (h : VT G X a f) (hb : VW G X (.BoolOp .And (b :: r) pos) g) : VW G X (.BoolOp .And (a :: b :: r) pos) (bAnd f g) := pwImp (pw_and h hb) fun _ _ _ q => bAnd_run q
theorem vw_or {f g : BF} {r : List Expr} (h : VT G X a f) (hb : VW G X (.BoolOp .Or (b :: r) pos) g) : VW G X (.BoolOp .Or (a :: b :: r) pos) (bOr f g) := pwImp (pw_or h hb) fun _ _ _ q => bOr_run q
theorem vt_not {f : BF} (h : VT G X a f) : VT G X (.UnaryOp .Not a pos) (bNot f) := ptImp (pt_not h) fun σ H Q ⟨F, κ, ρ, c, ρ', S, e, k⟩ => by
  unfold bNot at e
  cases q1 : f ρ with
  | none => rw [q1] at e; cases e
  | some p =>
    obtain ⟨b1, ρ1⟩ := p
    rw [q1] at e
    cases e
    exact ⟨F, κ, ρ, b1, _, S, q1, fun F1 κ1 H1 S1 s1 => k F1 κ1 H1 S1 s1⟩
/-- as values, of truth values -/
def dAnd (f g : DF) : DF := fun ρ => (f ρ).bind fun p => (p.1.truth).bind fun b => if b then g p.2 else some (.bl false, p.2)
def dOr (f g : DF) : DF := fun ρ => (f ρ).bind fun p => (p.1.truth).bind fun b => if b then some (.bl true, p.2) else g p.2
def dNot (f : DF) : DF := fun ρ => (f ρ).bind fun p => (p.1.truth).map fun b => (.bl (!b), p.2)
theorem vx_one {op} {f : DF} (h : VX G X a f) : VX G X (.BoolOp op [a] pos) f := pe_one h
theorem dTr_ok {α : Type} {f : DF} {ρ : Env'} {k : Bool → Env' → Option α} {z : α} (e : ((f ρ).bind fun p => (p.1.truth).bind fun b => k b p.2) = some z) : ∃ b ρ1, f ρ = some (.bl b, ρ1) ∧ k b ρ1 = some z := by
  cases q1 : f ρ with
  | none => rw [q1] at e; cases e
  | some p =>
    obtain ⟨d, ρ1⟩ := p
    rw [q1] at e
    simp only [Option.bind_some] at e
    cases q2 : d.truth with
    | none => rw [q2] at e; cases e
    | some b =>
      rw [q2] at e
      obtain rfl := D.truth_ok q2
      exact ⟨b, ρ1, rfl, e⟩
theorem vx_and {f g : DF} {r : List Expr} (h : VX G X a f) (hb : VX G X (.BoolOp .And (b :: r) pos) g) : VX G X (.BoolOp .And (a :: b :: r) pos) (dAnd f g) := peImp (pe_and h hb) fun σ H Q ⟨F, κ, ρ, c, ρ', S, e, k⟩ => by
  obtain ⟨b1, ρ1, q1, e⟩ := dTr_ok (f := f) (ρ := ρ) (z := (c, ρ')) (k := fun (b : Bool) (ρ : Env') => if b then g ρ else some (D.bl false, ρ)) e
  refine ⟨F, κ, ρ, _, ρ1, S, q1, fun v F1 κ1 H1 S1 s1 r1 => ⟨b1, r1.bl_inv, ?_⟩⟩
  cases b1 with
  | true => exact ⟨F1, κ1, ρ1, c, ρ', S1, e, fun v F2 κ2 H2 S2 s2 => k v F2 κ2 H2 S2 (s1.trans s2)⟩
  | false => cases e; exact k _ F1 κ1 H1 S1 s1 (.bl false)
/-- a if t else b -/
def dIf (t : BF) (f g : DF) : DF := fun ρ => (t ρ).bind fun p => if p.1 then f p.2 else g p.2
theorem vx_if {t : BF} {f g : DF} (hc : VT G X c t) (ha : VX G X a f) (hb : VX G X b g) : VX G X (.IfExp c a b pos) (dIf t f g) := peImp (pe_ifExp hc ha hb) fun σ H Q ⟨F, κ, ρ, d, ρ', S, e, k⟩ => by
  unfold dIf at e
  cases q1 : t ρ with
  | none => rw [q1] at e; cases e
  | some p =>
    obtain ⟨b1, ρ1⟩ := p
    rw [q1] at e
    refine ⟨F, κ, ρ, b1, ρ1, S, q1, fun F1 κ1 H1 S1 s1 => ?_⟩
    cases b1 with
    | true => exact ⟨F1, κ1, ρ1, d, ρ', S1, e, fun v F2 κ2 H2 S2 s2 => k v F2 κ2 H2 S2 (s1.trans s2)⟩
    | false => exact ⟨F1, κ1, ρ1, d, ρ', S1, e, fun v F2 κ2 H2 S2 s2 => k v F2 κ2 H2 S2 (s1.trans s2)⟩
/-- a < b < c -/
def dChain (g g' : D → D → Option D) (f h i : DF) : DF := fun ρ => (f ρ).bind fun p => (h p.2).bind fun q => (g p.1 q.1).bind fun z => (z.truth).bind fun k =>
  if k then (i q.2).bind fun r => (g' q.1 r.1).bind fun z2 => (z2.truth).map fun k2 => (.bl k2, r.2) else some (.bl false, q.2)
end
end VL
set_option Elab.async false
set_option linter.all false
set_option maxRecDepth 100000
set_option maxHeartbeats 4000000
namespace VL
open PySem L2
section
variable {G : Gx} {X : Cx} {e a b c : Expr} {es : List Expr} {pos : Pos}

/-! ### statements -/
inductive Out where
  | nx | bk | ct | rt (o : O)
abbrev SF := Env' → Option (Out × Env')
/-- the slots of P keep their values -/
def Pin (P : List Nat) (σ σ' : St) : Prop := σ'.length = σ.length ∧ ∀ i ∈ P, σ'[i]? = σ[i]?
theorem Pin.refl {P : List Nat} {σ : St} : Pin P σ σ := ⟨rfl, fun _ _ => rfl⟩
theorem Pin.trans {P : List Nat} {σ σ1 σ2 : St} (a : Pin P σ σ1) (b : Pin P σ1 σ2) : Pin P σ σ2 := ⟨b.1.trans a.1, fun i h => (b.2 i h).trans (a.2 i h)⟩
theorem Pin.set {P : List Nat} {σ : St} {i : Nat} {x : Option V} (h : i ∉ P) : Pin P σ (σ.set i x) := ⟨List.length_set, fun j hj => List.getElem?_set_ne (fun e => h (by rw [e]; exact hj))⟩
/-- what must follow an end -/
def After (G : Gx) (P : List Nat) (F : Hp) (κ : Col) (σ : St) (H : Hp) (Dn : Ends) (out : Out) (ρ' : Env') : Prop := match out with
  | .nx => ∀ σ' F' κ' H', SS G F' κ' σ' H' ρ' → Step F κ H F' κ' H' → Pin P σ σ' → Dn.nx σ' H'
  | .bk => ∀ σ' F' κ' H', SS G F' κ' σ' H' ρ' → Step F κ H F' κ' H' → Pin P σ σ' → Dn.bk σ' H'
  | .ct => ∀ σ' F' κ' H', SS G F' κ' σ' H' ρ' → Step F κ H F' κ' H' → Pin P σ σ' → Dn.ct σ' H'
  | .rt o => ∀ v σ' F' κ' H' κt, SS G F' κ' σ' H' ρ' → Step F κ H F' κ' H' → Pin P σ σ' → RO G F' κt H' [] v o →
      (∀ a p, κt a = some p → (H a = none ∨ κ a ≠ none) ∧ Mo H' a ∧ F' a = none ∧ κ' a = none) → Dn.rt v H'
theorem After.step {P : List Nat} {F F1 : Hp} {κ κ1 : Col} {σ σ1 : St} {H H1 : Hp} {Dn : Ends} {out : Out} {ρ' : Env'} (k : After G P F κ σ H Dn out ρ') (s : Step F κ H F1 κ1 H1) (p : Pin P σ σ1) : After G P F1 κ1 σ1 H1 Dn out ρ' := by
  cases out with
  | nx => exact fun σ' F' κ' H' S' s' p' => k σ' F' κ' H' S' (s.trans s') (p.trans p')
  | bk => exact fun σ' F' κ' H' S' s' p' => k σ' F' κ' H' S' (s.trans s') (p.trans p')
  | ct => exact fun σ' F' κ' H' S' s' p' => k σ' F' κ' H' S' (s.trans s') (p.trans p')
  | rt o => exact fun v σ' F' κ' H' κt S' s' p' r ht => k v σ' F' κ' H' κt S' (s.trans s') (p.trans p') r fun a q z => ⟨tn_step s (ht a q z).1, (ht a q z).2⟩
def tS (G : Gx) (P : List Nat) (f : SF) : TS := fun Dn σ H => ∃ F κ ρ out ρ', SS G F κ σ H ρ ∧ f ρ = some (out, ρ') ∧ After G P F κ σ H Dn out ρ'
abbrev VS (G : Gx) (P : List Nat) (X : Cx) (st : Stmt) (f : SF) : Prop := PS X st (tS G P f)
abbrev VB (G : Gx) (P : List Nat) (X : Cx) (sts : List Stmt) (f : SF) : Prop := PSs X sts (tS G P f)
theorem psImp {st : Stmt} {t t' : TS} (h : PS X st t) (k : ∀ D σ H, t' D σ H → t D σ H) : PS X st t' := ⟨fun pins s σ H D I q => h.run pins s σ H D I (k D σ H q)⟩
theorem pssImp {st : List Stmt} {t t' : TS} (h : PSs X st t) (k : ∀ D σ H, t' D σ H → t D σ H) : PSs X st t' := ⟨fun pins s σ H D I q => h.run pins s σ H D I (k D σ H q)⟩
variable {P : List Nat} {st : Stmt} {sts : List Stmt}
def sNil : SF := fun ρ => some (.nx, ρ)
def sSeq (f g : SF) : SF := fun ρ => (f ρ).bind fun p => match p.1 with
  | .nx => g p.2
  | o => some (o, p.2)
theorem vb_nil : VB G P X [] sNil := pssImp pss_nil fun Dn σ H ⟨F, κ, ρ, out, ρ', S, e, k⟩ => by
  cases e
  exact k σ F κ H S .refl .refl
theorem vb_one {f : SF} (h : VS G P X st f) : VB G P X [st] f := pss_one h
theorem vb_cons {f g : SF} (h : VS G P X st f) (hr : VB G P X sts g) : VB G P X (st :: sts) (sSeq f g) := pssImp (pss_cons h hr) fun Dn σ H ⟨F, κ, ρ, out, ρ', S, e, k⟩ => by
  unfold sSeq at e
  cases q : f ρ with
  | none => rw [q] at e; cases e
  | some p =>
    obtain ⟨o1, ρ1⟩ := p
    rw [q] at e
    refine ⟨F, κ, ρ, o1, ρ1, S, q, ?_⟩
    cases o1 with
    | nx => exact fun σ1 F1 κ1 H1 S1 s1 p1 => ⟨F1, κ1, ρ1, out, ρ', S1, e, k.step s1 p1⟩
    | bk => cases e; exact k
    | ct => cases e; exact k
    | rt o => cases e; exact k
/-- the flow is told: for the plain readings -/
def sPass : SF := sNil
def sBreak : SF := fun ρ => some (.bk, ρ)
theorem vs_break : VS G P X (.Break pos) sBreak := psImp ps_break fun Dn σ H ⟨F, κ, ρ, out, ρ', S, e, k⟩ => by
  cases e; exact k σ F κ H S .refl .refl
def sNever : SF := fun _ => none
theorem vs_never : VS G P X st sNever := psImp ps_never fun Dn σ H ⟨F, κ, ρ, out, ρ', S, e, k⟩ => by cases e
def sExpr (f : DF) : SF := fun ρ => (f ρ).map fun p => (.nx, p.2)
theorem vs_expr {f : DF} (h : VX G X e f) (hs : swapsWith e none pos.line X.env = pure false := by rfl) : VS G P X (.Expr e pos) (sExpr f) := psImp (ps_expr h hs) fun Dn σ H ⟨F, κ, ρ, out, ρ', S, q, k⟩ => by
  unfold sExpr at q
  cases q1 : f ρ with
  | none => rw [q1] at q; cases q
  | some p =>
    obtain ⟨d, ρ1⟩ := p
    rw [q1] at q
    cases q
    exact ⟨F, κ, ρ, d, _, S, q1, fun v F1 κ1 H1 S1 s1 _ => k σ F1 κ1 H1 S1 s1 .refl⟩
def sRet (f : OF) : SF := fun ρ => (f ρ).map fun p => (.rt p.1, p.2)
theorem vs_ret {f : OF} (h : VN G X e f) : VS G P X (.Return (some e) pos) (sRet f) := psImp (ps_ret h) fun Dn σ H ⟨F, κ, ρ, out, ρ', S, q, k⟩ => by
  unfold sRet at q
  cases q1 : f ρ with
  | none => rw [q1] at q; cases q
  | some p =>
    obtain ⟨o, ρ1⟩ := p
    rw [q1] at q
    cases q
    exact ⟨F, κ, ρ, o, _, S, q1, fun v F1 κ1 H1 κt S1 s1 r ht => k v σ F1 κ1 H1 κt S1 s1 .refl r ht⟩
def sRetN : SF := fun ρ => some (.rt (.fz .non), ρ)
def sIf (t : BF) (f g : SF) : SF := fun ρ => (t ρ).bind fun p => if p.1 then f p.2 else g p.2
theorem vs_if {x y : List Stmt} {t : BF} {f g : SF} (hc : VT G X c t) (ha : VB G P X x f) (hb : VB G P X y g) : VS G P X (.If c x y pos) (sIf t f g) := psImp (ps_if hc ha hb) fun Dn σ H ⟨F, κ, ρ, out, ρ', S, q, k⟩ => by
  unfold sIf at q
  cases q1 : t ρ with
  | none => rw [q1] at q; cases q
  | some p =>
    obtain ⟨b1, ρ1⟩ := p
    rw [q1] at q
    refine ⟨F, κ, ρ, b1, ρ1, S, q1, fun F1 κ1 H1 S1 s1 => ?_⟩
    cases b1 with
    | true => exact ⟨F1, κ1, ρ1, out, ρ', S1, q, k.step s1 .refl⟩
    | false => exact ⟨F1, κ1, ρ1, out, ρ', S1, q, k.step s1 .refl⟩

/-! ### targets -/
abbrev GF := D → Env' → Option Env'
/-- a target takes data -/
def tG (G : Gx) (P : List Nat) (g : GF) : TG := fun v σ H Q => ∃ F κ ρ d ρ', SS G F κ σ H ρ ∧ RD G F v d ∧ g d ρ = some ρ' ∧
  ∀ σ' F' κ' H', SS G F' κ' σ' H' ρ' → Step F κ H F' κ' H' → Pin P σ σ' → Q σ' H'
def tGs (G : Gx) (P : List Nat) (g : List D → Env' → Option Env') : TGs := fun vs σ H Q => ∃ F κ ρ ds ρ', SS G F κ σ H ρ ∧ RDs G F vs ds ∧ g ds ρ = some ρ' ∧
  ∀ σ' F' κ' H', SS G F' κ' σ' H' ρ' → Step F κ H F' κ' H' → Pin P σ σ' → Q σ' H'
abbrev VG (G : Gx) (P : List Nat) (X : Cx) (e : Expr) (g : GF) : Prop := PG X e (tG G P g)
abbrev VGs (G : Gx) (P : List Nat) (X : Cx) (es : List Expr) (g : List D → Env' → Option Env') : Prop := PGs X es (tGs G P g)
theorem pgImp {t t' : TG} (h : PG X e t) (k : ∀ v σ H Q, t' v σ H Q → t v σ H Q) : PG X e t' := ⟨fun pins s σ H v u Q I r q => h.run pins s σ H v u Q I r (k v σ H Q q)⟩
theorem pgsImp {t t' : TGs} (h : PGs X es t) (k : ∀ v σ H Q, t' v σ H Q → t v σ H Q) : PGs X es t' := ⟨fun pins s σ H v u Q I r q => h.run pins s σ H v u Q I r (k v σ H Q q)⟩
def gN (i : Nat) : GF := fun d ρ => some (ρ.set i (some (.fz d)))
theorem vg_name {i : Nat} {x : Str} (hN : X.N.Nodup) (hi : X.N[i]? = some x) (hx : Loc X.env.scope x) (hP : i ∉ P) (hf : X.fn x = true ∨ X.env.scope.names.lookup x = some .local := by first | exact .inl rfl | exact .inr rfl | assumption) : VG G P X (.Name x pos) (gN i) :=
  pgImp (pg_name hN hi hx hf) fun v σ H Q ⟨F, κ, ρ, d, ρ', S, r, q, k⟩ => by
    cases q
    exact k _ F _ H (S.setD r) .unc (.set hP)
def gsNil : List D → Env' → Option Env' := fun ds ρ => if ds.isEmpty then some ρ else none
def gsCons (g : GF) (h : List D → Env' → Option Env') : List D → Env' → Option Env' := fun ds ρ => match ds with
  | [] => none
  | d :: r => (g d ρ).bind fun ρ1 => h r ρ1
theorem vgs_nil : VGs G P X [] gsNil := pgsImp pgs_nil fun vs σ H Q ⟨F, κ, ρ, ds, ρ', S, r, q, k⟩ => by
  unfold gsNil at q
  cases ds with
  | nil => cases r; cases q; exact ⟨rfl, k σ F κ H S .refl .refl⟩
  | cons _ _ => cases q
theorem vgs_cons {g : GF} {h : List D → Env' → Option Env'} (h1 : VG G P X e g) (h2 : VGs G P X es h) (hs : (assignEach (e :: es) X.env).map (·.2) = assign e X.env :: (assignEach es X.env).map (·.2) := by rfl) : VGs G P X (e :: es) (gsCons g h) :=
  pgsImp (pgs_cons h1 h2 hs) fun vs σ H Q ⟨F, κ, ρ, ds, ρ', S, r, q, k⟩ => by
    unfold gsCons at q
    cases r with
    | nil => cases q
    | @cons v d vs ds r rs =>
      simp only at q
      cases q1 : g d ρ with
      | none => rw [q1] at q; cases q
      | some ρ1 =>
        rw [q1] at q
        exact ⟨v, vs, rfl, F, κ, ρ, d, ρ1, S, r, q1, fun σ1 F1 κ1 H1 S1 s1 p1 => ⟨F1, κ1, ρ1, ds, ρ', S1, RDs.mono s1.ext rs, q, fun σ2 F2 κ2 H2 S2 s2 p2 => k σ2 F2 κ2 H2 S2 (s1.trans s2) (p1.trans p2)⟩⟩
/-- (a, b, ..) from a tuple -/
def gTu (n : Nat) (h : List D → Env' → Option Env') : GF := fun d ρ => match d with
  | .tup ds => if ds.length = n then h ds ρ else none
  | _ => none
theorem vg_tup {k : Nat} {n : Nat} {h : List D → Env' → Option Env'} (hc : X.calm = true) (hK : G.K = X.K) (hs : VGs G P X es h) (hn : (assignEach es X.env).length = n := by rfl) (hst : (assignEach es X.env).findIdx? (·.1) = none := by rfl) : VG G P X (.Tuple es k pos) (gTu n h) :=
  pgImp (pg_tup hc hs hn hst) fun v σ H Q ⟨F, κ, ρ, d, ρ', S, r, q, k⟩ => by
    unfold gTu at q
    split at q
    · rename_i ds
      split at q
      · rename_i hl
        cases r with
        | tup t rs => exact ⟨_, _, rfl, by rw [← hK]; exact .of (S.tupF t), by rw [RDs.length rs]; exact hl, F, κ, ρ, ds, ρ', S, rs, q, k⟩
      · cases q
    · cases q
/-- target = data -/
def sAsg (f : DF) (g : GF) : SF := fun ρ => (f ρ).bind fun p => (g p.1 p.2).map fun ρ' => (.nx, ρ')
theorem sAsg_run {f : DF} {g : GF} {Dn : Ends} {σ : St} {H : Hp} (q : tS G P (sAsg f g) Dn σ H) : tAsg (tD G f) (tG G P g) Dn σ H := by
  obtain ⟨F, κ, ρ, out, ρ', S, q, k⟩ := q
  unfold sAsg at q
  cases q1 : f ρ with
  | none => rw [q1] at q; cases q
  | some p =>
    obtain ⟨d, ρ1⟩ := p
    rw [q1] at q
    simp only [Option.bind_some] at q
    cases q2 : g d ρ1 with
    | none => rw [q2] at q; cases q
    | some ρ2 =>
      rw [q2] at q
      cases q
      exact ⟨F, κ, ρ, d, ρ1, S, q1, fun v F1 κ1 H1 S1 s1 r1 => ⟨F1, κ1, ρ1, d, _, S1, r1, q2, fun σ2 F2 κ2 H2 S2 s2 p2 => k σ2 F2 κ2 H2 S2 (s1.trans s2) p2⟩⟩
theorem vs_asg {tg : Expr} {f : DF} {g : GF} (he : VX G X e f) (hg : VG G P X tg g) (hs : swapsWithSole [tg] e pos.line X.env = pure false := by rfl) (hw : swappedStores [tg] e X.env = pure none := by rfl)
    (h1 : (assignEach [tg] X.env).map (·.2) = [assign tg X.env] := by rfl) : VS G P X (.Assign [tg] e pos) (sAsg f g) := psImp (ps_asg he hg hs hw h1) fun _ _ _ q => sAsg_run q
theorem vs_set {i : Nat} {x : Str} {f : DF} {pos' : Pos} (hN : X.N.Nodup) (hi : X.N[i]? = some x) (hx : Loc X.env.scope x) (hP : i ∉ P) (he : VX G X e f) (hs : swapsWith e (some (.Name x pos')) pos.line X.env = pure false := by rfl) (hf : X.fn x = true ∨ X.env.scope.names.lookup x = some .local := by first | exact .inl rfl | exact .inr rfl | assumption) :
    VS G P X (.Assign [.Name x pos'] e pos) (sAsg f (gN i)) := psImp (ps_set hN hi hx he hs hf) fun Dn σ H q => by
  have q2 := sAsg_run q
  obtain ⟨F, κ, ρ, d, ρ1, S, e1, k⟩ := q2
  exact ⟨F, κ, ρ, d, ρ1, S, e1, fun v F1 κ1 H1 S1 s1 r1 => by
    obtain ⟨F2, κ2, ρ2, d2, ρ3, S2, r2, q3, k2⟩ := k v F1 κ1 H1 S1 s1 r1
    cases q3
    exact k2 _ F2 _ H1 (S2.setD r2) .unc (.set hP)⟩
/-- name = a new tree -/
def sSetN (i : Nat) (f : OF) : SF := fun ρ => (f ρ).map fun p => (.nx, p.2.set i (some p.1))
theorem sSetN_run {i : Nat} {f : OF} (hP : i ∉ P) {Dn : Ends} {σ : St} {H : Hp} (q : tS G P (sSetN i f) Dn σ H) : tAsg (tN G f) (gName i) Dn σ H := by
  obtain ⟨F, κ, ρ, out, ρ', S, q, k⟩ := q
  unfold sSetN at q
  cases q1 : f ρ with
  | none => rw [q1] at q; cases q
  | some p =>
    obtain ⟨o, ρ1⟩ := p
    rw [q1] at q
    cases q
    exact ⟨F, κ, ρ, o, _, S, q1, fun v F1 κ1 H1 κt S1 s1 r ht => k _ F1 _ H1 (S1.setO r fun a p z => (ht a p z).2) (s1.put fun a p z => (ht a p z).1) (.set hP)⟩
theorem vs_setN {i : Nat} {x : Str} {f : OF} {pos' : Pos} (hN : X.N.Nodup) (hi : X.N[i]? = some x) (hx : Loc X.env.scope x) (hP : i ∉ P) (he : VN G X e f) (hs : swapsWith e (some (.Name x pos')) pos.line X.env = pure false := by rfl) (hf : X.fn x = true ∨ X.env.scope.names.lookup x = some .local := by first | exact .inl rfl | exact .inr rfl | assumption) :
    VS G P X (.Assign [.Name x pos'] e pos) (sSetN i f) := psImp (ps_set hN hi hx he hs hf) fun Dn σ H q => sSetN_run hP q

/-! ### while -/
/-- at most n turns -/
def sWhile (t : BF) (body : SF) : Nat → SF
  | 0 => fun _ => none
  | n + 1 => fun ρ => (t ρ).bind fun p => if p.1 then (body p.2).bind fun q => match q.1 with
      | .nx => sWhile t body n q.2
      | .ct => sWhile t body n q.2
      | .bk => some (.nx, q.2)
      | .rt o => some (.rt o, q.2)
    else some (.nx, p.2)
theorem vs_while {body : List Stmt} {t : BF} {f : SF} (n : Nat) (hp : PassesOwn (model X.prog X.w) X.A X.env X.xe) (hc : VT G X c t) (hb : VB G P X body f) : VS G P X (.While c body [] pos) (sWhile t f n) :=
  psImp (ps_while hp hc hb) fun Dn σ0 H0 ⟨F0, κ0, ρ0, out, ρ', S0, q0, k0⟩ => by
    refine ⟨fun m σ H => ∃ F κ ρ, SS G F κ σ H ρ ∧ sWhile t f m ρ = some (out, ρ') ∧ After G P F κ σ H Dn out ρ', ⟨n, F0, κ0, ρ0, S0, q0, k0⟩, ?_⟩
    rintro m σ H ⟨F, κ, ρ, S, q, k⟩
    cases m with
    | zero => cases q
    | succ m =>
      unfold sWhile at q
      cases q1 : t ρ with
      | none => rw [q1] at q; cases q
      | some p =>
        obtain ⟨b1, ρ1⟩ := p
        rw [q1] at q
        refine ⟨F, κ, ρ, b1, ρ1, S, q1, fun F1 κ1 H1 S1 s1 => ?_⟩
        cases b1 with
        | false =>
          cases q
          exact k σ F1 κ1 H1 S1 s1 .refl
        | true =>
          simp only [Option.bind_some, if_true] at q
          rw [if_pos rfl]
          refine ⟨fun σ' H' => ∃ F κ ρ, SS G F κ σ' H' ρ ∧ sWhile t f m ρ = some (out, ρ') ∧ After G P F κ σ' H' Dn out ρ', fun σ' H' h => ⟨m, Nat.lt_succ_self m, h⟩, ?_⟩
          cases q2 : f ρ1 with
          | none => rw [q2] at q; cases q
          | some p =>
            obtain ⟨o1, ρ2⟩ := p
            rw [q2] at q
            refine ⟨F1, κ1, ρ1, o1, ρ2, S1, q2, ?_⟩
            cases o1 with
            | nx => exact fun σ2 F2 κ2 H2 S2 s2 p2 => ⟨F2, κ2, ρ2, S2, q, k.step (s1.trans s2) p2⟩
            | ct => exact fun σ2 F2 κ2 H2 S2 s2 p2 => ⟨F2, κ2, ρ2, S2, q, k.step (s1.trans s2) p2⟩
            | bk =>
              cases q
              exact fun σ2 F2 κ2 H2 S2 s2 p2 => k σ2 F2 κ2 H2 S2 (s1.trans s2) p2
            | rt o =>
              cases q
              exact k.step s1 .refl

/-! ### for, comprehensions: what is walked -/
/-- the walk yields the items as data, while they stand -/
def Yields (G : Gx) (J : It) (F : Hp) (ds : List D) : Prop := ∃ (Gd : Hp → Prop) (Y : Nat → Hp → V → Hp → Prop), Walk J ds.length Gd Y ∧ (∀ F' H', Ex F F' → ExH F' H' → Gd H') ∧
  ∀ i d F' κ' σ' H' ρ' x H'', ds[i]? = some d → Ex F F' → SS G F' κ' σ' H' ρ' → Y i H' x H'' → ∃ F'', SS G F'' κ' σ' H'' ρ' ∧ Step F' κ' H' F'' κ' H'' ∧ RD G F'' x d
abbrev IF := Env' → Option (List D × Env')
def tI (G : Gx) (f : IF) : TI := fun σ H R => ∃ F κ ρ ds ρ', SS G F κ σ H ρ ∧ f ρ = some (ds, ρ') ∧
  ∀ J F' κ' H', SS G F' κ' σ H' ρ' → Step F κ H F' κ' H' → Yields G J F' ds → R J H'
abbrev VI (G : Gx) (X : Cx) (tg iter : Expr) (f : IF) : Prop := PI X tg iter (tI G f)
theorem piImp {tg it : Expr} {t t' : TI} (h : PI X tg it t) (k : ∀ σ H R, t' σ H R → t σ H R) : PI X tg it t' := ⟨fun pins s σ H R I q => h.run pins s σ H R I (k σ H R q)⟩
def forL (g : GF) (body : SF) : List D → SF
  | [] => fun ρ => some (.nx, ρ)
  | d :: ds => fun ρ => (g d ρ).bind fun ρ1 => (body ρ1).bind fun q => match q.1 with
      | .nx => forL g body ds q.2
      | .ct => forL g body ds q.2
      | .bk => some (.nx, q.2)
      | .rt o => some (.rt o, q.2)
def sFor (f : IF) (g : GF) (body : SF) : SF := fun ρ => (f ρ).bind fun p => forL g body p.1 p.2
theorem vs_for {tg iter : Expr} {body : List Stmt} {fi : IF} {g : GF} {f : SF} (hp : PassesOwn (model X.prog X.w) X.A X.env X.xe) (hc : X.calm = true) (hi : VI G X tg iter fi) (hg : VG G P X tg g) (hb : VB G P X body f)
    (hs : ∀ x, foldedSetIterable iter X.env x = pure x := by intro _; rfl) : VS G P X (.For tg iter body [] pos) (sFor fi g f) :=
  psImp (ps_for hp hc hi hg hb hs) fun Dn σ0 H0 ⟨F0, κ0, ρ0, out, ρ', S0, q0, k0⟩ => by
    unfold sFor at q0
    cases q1 : fi ρ0 with
    | none => rw [q1] at q0; cases q0
    | some p =>
      obtain ⟨ds, ρ1⟩ := p
      rw [q1] at q0
      refine ⟨F0, κ0, ρ0, ds, ρ1, S0, q1, fun J F1 κ1 H1 S1 s1 y => ?_⟩
      obtain ⟨Gd, Y, w, hG, hY⟩ := y
      refine for_it w (fun i σ H => ∃ F κ ρ, SS G F κ σ H ρ ∧ Ex F1 F ∧ forL g f (ds.drop i) ρ = some (out, ρ') ∧ After G P F κ σ H Dn out ρ') ⟨F1, κ1, ρ1, S1, Ex.refl _, q0, k0.step s1 .refl⟩
        (fun i σ H _ ⟨F, κ, ρ, S, ex, _⟩ => hG F H ex S.exh) (fun i x σ H H' hi ⟨F, κ, ρ, S, ex, q, k⟩ hy => ?_) (fun σ H ⟨F, κ, ρ, S, ex, q, k⟩ => ?_)
      · have hd : ds[i]? = some ds[i] := List.getElem?_eq_getElem hi
        obtain ⟨F2, S2, s2, r2⟩ := hY i _ F κ σ H ρ x H' hd ex S hy
        rw [List.drop_eq_getElem_cons hi] at q
        unfold forL at q
        cases q2 : g ds[i] ρ with
        | none => rw [q2] at q; cases q
        | some ρ2 =>
          rw [q2] at q
          simp only [Option.bind_some] at q
          refine ⟨F2, κ, ρ, ds[i], ρ2, S2, r2, q2, fun σ3 F3 κ3 H3 S3 s3 p3 => ?_⟩
          cases q3 : f ρ2 with
          | none => rw [q3] at q; cases q
          | some p =>
            obtain ⟨o1, ρ4⟩ := p
            rw [q3] at q
            refine ⟨F3, κ3, ρ2, o1, ρ4, S3, q3, ?_⟩
            have ex3 : Ex F1 F3 := (ex.trans s2.ext).trans s3.ext
            cases o1 with
            | nx => exact fun σ4 F4 κ4 H4 S4 s4 p4 => ⟨F4, κ4, ρ4, S4, ex3.trans s4.ext, q, k.step ((s2.trans s3).trans s4) (p3.trans p4)⟩
            | ct => exact fun σ4 F4 κ4 H4 S4 s4 p4 => ⟨F4, κ4, ρ4, S4, ex3.trans s4.ext, q, k.step ((s2.trans s3).trans s4) (p3.trans p4)⟩
            | bk =>
              cases q
              exact fun σ4 F4 κ4 H4 S4 s4 p4 => k σ4 F4 κ4 H4 S4 ((s2.trans s3).trans s4) (p3.trans p4)
            | rt o =>
              cases q
              exact (k.step (s2.trans s3) p3)
      · rw [List.drop_length] at q
        cases q
        exact k σ F κ H S .refl .refl
end
end VL
set_option Elab.async false
set_option linter.all false
set_option maxRecDepth 100000
set_option maxHeartbeats 4000000
namespace VL
open PySem L2
section
variable {G : Gx} {X : Cx} {e a b c : Expr} {es : List Expr} {pos : Pos}

/-! ### what is walked -/
def dItems : D → Option (List D)
  | .lst ds => some ds
  | .tup ds => some ds
  | .tz ds => some ds
  | .scr ds => some ds
  | _ => none
def iSeq (f : DF) : IF := fun ρ => (f ρ).bind fun p => (dItems p.1).map fun ds => (ds, p.2)
theorem PI.or {tg it : Expr} {w w' : TI} (h : PI X tg it w) (h' : PI X tg it w') : PI X tg it (fun σ H R => w σ H R ∨ w' σ H R) := ⟨fun pins s σ H R I q => by
  rcases q with q | q
  · exact h.run pins s σ H R I q
  · exact h'.run pins s σ H R I q⟩
theorem yields_list {F : Hp} {a : Addr} {xs : List V} {ds : List D} (h : SqL G.K F a xs) (r : RDs G F xs ds) : Yields G (Itl G.K a) F ds := by
  have hl : xs.length = ds.length := RDs.length r
  refine ⟨fun H => SqL G.K H a xs, YAt xs, by rw [← hl]; exact walk_list, fun F' H' ex eh => eh.l (ex.hh.l h), fun i d F' κ' σ' H' ρ' x H'' e ex S y => ?_⟩
  obtain ⟨rfl, hx⟩ := y
  obtain ⟨v, hv, rv⟩ := RDs.get r e
  rw [hx] at hv; cases hv
  exact ⟨F', S, .refl, rv.mono' ex⟩
theorem yields_tup {F : Hp} {a : Addr} {xs : List V} {ds : List D} (h : SqT G.K F a xs) (r : RDs G F xs ds) : Yields G (Itt G.K a) F ds := by
  have hl : xs.length = ds.length := RDs.length r
  refine ⟨fun H => SqT G.K H a xs, YAt xs, by rw [← hl]; exact walk_tup, fun F' H' ex eh => eh.t (ex.hh.t h), fun i d F' κ' σ' H' ρ' x H'' e ex S y => ?_⟩
  obtain ⟨rfl, hx⟩ := y
  obtain ⟨v, hv, rv⟩ := RDs.get r e
  rw [hx] at hv; cases hv
  exact ⟨F', S, .refl, rv.mono' ex⟩
theorem vi_seq {tg : Expr} {f : DF} (hK : G.K = X.K) (h : VX G X e f) : VI G X tg e (iSeq f) := piImp (PI.or (pi_list h) (pi_tup h)) fun σ H R ⟨F, κ, ρ, ds, ρ', S, q, k⟩ => by
  obtain ⟨d, q1, q2⟩ := bind2_ok (δ := D) q
  cases d with
  | lst xs =>
    cases q2
    refine .inl ⟨F, κ, ρ, _, ρ', S, q1, fun v F1 κ1 H1 S1 s1 r1 => ?_⟩
    cases r1 with
    | lst h r => exact ⟨_, rfl, ⟨_, .inl (S1.exh.rd (.of h))⟩, by rw [← hK]; exact k _ F1 κ1 H1 S1 s1 (yields_list (.of h) r)⟩
  | scr xs =>
    cases q2
    refine .inl ⟨F, κ, ρ, _, ρ', S, q1, fun v F1 κ1 H1 S1 s1 r1 => ?_⟩
    cases r1 with
    | scr h r => exact ⟨_, rfl, ⟨_, by rw [← hK]; exact S1.exh.l h⟩, by rw [← hK]; exact k _ F1 κ1 H1 S1 s1 (yields_list h r)⟩
  | tup xs =>
    cases q2
    refine .inr ⟨F, κ, ρ, _, ρ', S, q1, fun v F1 κ1 H1 S1 s1 r1 => ?_⟩
    cases r1 with
    | tup h r => exact ⟨_, rfl, ⟨_, .of (S1.tupF h)⟩, by rw [← hK]; exact k _ F1 κ1 H1 S1 s1 (yields_tup (.of h) r)⟩
  | tz xs =>
    cases q2
    refine .inr ⟨F, κ, ρ, _, ρ', S, q1, fun v F1 κ1 H1 S1 s1 r1 => ?_⟩
    cases r1 with
    | tz h _ _ r => exact ⟨_, rfl, ⟨_, .inl (.inr ⟨_, S1.tzF h⟩)⟩, by rw [← hK]; exact k _ F1 κ1 H1 S1 s1 (yields_tup (.inl (.inr ⟨_, h⟩)) r)⟩
  | _ => cases q2
/-- ints -/
def D.toInt : D → Option Int
  | .int i => some i
  | _ => none
theorem D.toInt_ok {d : D} {b : Int} (h : d.toInt = some b) : d = .int b := by
  cases d <;> first | (cases h; rfl) | cases h
def rgD (lo : Int) (n : Nat) : List D := (List.range n).map fun i => .int (lo + (i : Nat))
def big : Int := 1000000
def gRg1 : List D → Option (List D)
  | [.int j] => if j ≤ big ∧ -big ≤ j then some (rgD 0 j.toNat) else none
  | _ => none
def iRg (g : List D → Option (List D)) (f : LF) : IF := fun ρ => (f ρ).bind fun p => (g p.1).map fun ds => (ds, p.2)
theorem yields_range {F : Hp} {lo : Int} {n : Nat} : Yields G (Itr lo n) F (rgD lo n) := by
  have hl : (rgD lo n).length = n := by unfold rgD; simp
  refine ⟨fun _ => True, YFn fun i => .int (lo + i), by rw [hl]; exact walk_range, fun _ _ _ _ => trivial, fun i d F' κ' σ' H' ρ' x H'' e ex S y => ?_⟩
  obtain ⟨rfl, hx⟩ := y
  have hd : d = .int (lo + i) := by
    unfold rgD at e
    rw [List.getElem?_map] at e
    cases q : (List.range n)[i]? with
    | none => rw [q] at e; cases e
    | some j =>
      rw [q] at e
      have := List.getElem?_eq_some_iff.mp q
      obtain ⟨h1, h2⟩ := this
      simp at h2
      subst h2
      cases e
      rfl
  subst hd hx
  exact ⟨F', S, .refl, .int _⟩
theorem RDs.one_int {F : Hp} {vs : List V} {j : Int} (r : RDs G F vs [.int j]) : vs = [.int j] := by
  cases r with
  | cons h t => cases t; cases h; rfl
theorem RDs.two_int {F : Hp} {vs : List V} {i j : Int} (r : RDs G F vs [.int i, .int j]) : vs = [.int i, .int j] := by
  cases r with
  | cons h t => cases h; rw [RDs.one_int t]
theorem vi_range1 {tg : Expr} {f : LF} {p : Pos} (hg : Gl X "range") (hm : X.mg "range" = none) (ha : VA G X [a] f) (hs : starEach [a] X.env = [(false, eval a X.env)] := by rfl) : VI G X tg (.Call (.Name "range" p) [a] [] pos) (iRg gRg1 f) :=
  piImp (pi_range1 hg hm ha hs) fun σ H R ⟨F, κ, ρ, ds, ρ', S, q, k⟩ => by
    obtain ⟨as, q1, q2⟩ := bind2_ok (δ := D) q
    refine ⟨F, κ, ρ, as, ρ', S, q1, fun vs F1 κ1 H1 S1 s1 r1 => ?_⟩
    unfold gRg1 at q2
    split at q2
    · rename_i j
      split at q2
      · rename_i hj
        cases q2
        unfold big at hj
        exact ⟨j, RDs.one_int r1, by omega, by omega, k _ F1 κ1 H1 S1 s1 yields_range⟩
      · cases q2
    · cases q2
/-! ### comprehensions -/
def wipeE (ρ : Env') : List Nat → Env'
  | [] => ρ
  | v :: vs => (wipeE ρ vs).set v none
theorem wipeE_length (ρ : Env') : ∀ vs : List Nat, (wipeE ρ vs).length = ρ.length
  | [] => rfl
  | v :: vs => by unfold wipeE; rw [List.length_set, wipeE_length ρ vs]
theorem wipeE_some {ρ : Env'} {i : Nat} {x : O} : ∀ {vs : List Nat}, (wipeE ρ vs)[i]? = some (some x) → ρ[i]? = some (some x) ∧ i ∉ vs
  | [], h => ⟨h, by simp⟩
  | v :: vs, h => by
    unfold wipeE at h
    by_cases hi : v = i
    · subst hi
      by_cases hv : v < (wipeE ρ vs).length
      · rw [List.getElem?_set_self hv] at h; cases h
      · rw [List.getElem?_eq_none (by simpa using hv)] at h; cases h
    · rw [List.getElem?_set_ne hi] at h
      obtain ⟨h1, h2⟩ := wipeE_some h
      exact ⟨h1, by simp only [List.mem_cons, not_or]; exact ⟨fun e => hi e.symm, h2⟩⟩
theorem wipe_in {σ : St} {i : Nat} : ∀ {vs : List Nat}, i ∈ vs → i < σ.length → (wipe σ vs)[i]? = some none
  | v :: vs, h, hl => by
    unfold wipe
    by_cases hi : v = i
    · subst hi; rw [List.getElem?_set_self (by rw [wipe_length]; exact hl)]
    · rw [List.getElem?_set_ne hi]
      exact wipe_in ((List.mem_cons.mp h).resolve_left fun e => hi e.symm) hl
theorem wipe_out {σ : St} {i : Nat} : ∀ {vs : List Nat}, i ∉ vs → (wipe σ vs)[i]? = σ[i]?
  | [], _ => rfl
  | v :: vs, h => by
    unfold wipe
    rw [List.getElem?_set_ne (fun e => h (by rw [e]; exact List.mem_cons_self))]
    exact wipe_out fun e => h (List.mem_cons_of_mem _ e)
theorem SS.wipe {F : Hp} {κ : Col} {σ : St} {H : Hp} {ρ : Env'} (S : SS G F κ σ H ρ) (vs : List Nat) : SS G F κ (wipe σ vs) H (wipeE ρ vs) := by
  refine ⟨S.sub, S.own, by rw [wipeE_length, wipe_length]; exact S.len, fun i o e => ?_, S.tab⟩
  obtain ⟨e1, hi⟩ := wipeE_some e
  obtain ⟨v, hv, r⟩ := S.slots i o e1
  exact ⟨v, by rw [wipe_out hi]; exact hv, r⟩
def keepD : Option (Option O) → Option O
  | some (some (.fz d)) => some (.fz d)
  | _ => none
/-- behind the block: its own names as they were (data), the others as they are -/
def unwipe (ρ0 ρ1 : Env') : List Nat → Env'
  | [] => ρ1
  | v :: vs => (unwipe ρ0 ρ1 vs).set v (keepD ρ0[v]?)
theorem unwipe_length (ρ0 ρ1 : Env') : ∀ vs : List Nat, (unwipe ρ0 ρ1 vs).length = ρ1.length
  | [] => rfl
  | v :: vs => by unfold unwipe; rw [List.length_set, unwipe_length ρ0 ρ1 vs]
theorem keepD_some {x : Option (Option O)} {o : O} (h : keepD x = some o) : ∃ d, o = .fz d ∧ x = some (some (.fz d)) := by
  unfold keepD at h
  split at h
  · cases h; exact ⟨_, rfl, rfl⟩
  · cases h
theorem unwipe_some {ρ0 ρ1 : Env'} {i : Nat} {o : O} : ∀ {vs : List Nat}, (unwipe ρ0 ρ1 vs)[i]? = some (some o) → (i ∈ vs ∧ ∃ d, o = .fz d ∧ ρ0[i]? = some (some (.fz d))) ∨ (i ∉ vs ∧ ρ1[i]? = some (some o))
  | [], h => .inr ⟨by simp, h⟩
  | v :: vs, h => by
    unfold unwipe at h
    by_cases hi : v = i
    · subst hi
      by_cases hv : v < (unwipe ρ0 ρ1 vs).length
      · rw [List.getElem?_set_self hv] at h
        obtain ⟨d, h1, h2⟩ := keepD_some (Option.some.inj h)
        exact .inl ⟨List.mem_cons_self, d, h1, h2⟩
      · rw [List.getElem?_eq_none (by simpa using hv)] at h; cases h
    · rw [List.getElem?_set_ne hi] at h
      rcases unwipe_some h with ⟨h1, h2⟩ | ⟨h1, h2⟩
      · exact .inl ⟨List.mem_cons_of_mem _ h1, h2⟩
      · exact .inr ⟨by simp only [List.mem_cons, not_or]; exact ⟨fun e => hi e.symm, h1⟩, h2⟩
theorem SS.unwipe {F F1 : Hp} {κ κ1 : Col} {σ σ1 : St} {H H1 : Hp} {ρ ρ1 : Env'} {vs : List Nat} (S : SS G F κ σ H ρ) (S1 : SS G F1 κ1 σ1 H1 ρ1) (ex : Ex F F1) (hw : L2.wipe σ1 vs = L2.wipe σ vs) : SS G F1 κ1 σ H1 (VL.unwipe ρ ρ1 vs) := by
  have hl : σ1.length = σ.length := by rw [← wipe_length σ1 vs, hw, wipe_length]
  refine ⟨S1.sub, S1.own, by rw [unwipe_length, S1.len, hl], fun i o e => ?_, S1.tab⟩
  rcases unwipe_some e with ⟨h1, d, rfl, h2⟩ | ⟨h1, h2⟩
  · obtain ⟨v, hv, r⟩ := S.varD h2
    exact ⟨v, hv, .fz (r.mono' ex)⟩
  · obtain ⟨v, hv, r⟩ := S1.slots i o h2
    exact ⟨v, by rw [← hv, ← wipe_out h1, ← hw, wipe_out h1], r⟩
/-- the target of a block writes only its own names -/
theorem pin_wipe {P vs : List Nat} {σ σ1 : St} {n : Nat} (hn : σ.length = n) (p : Pin P (L2.wipe σ vs) σ1) (hP : ∀ i, i < n → i ∉ vs → i ∈ P) : L2.wipe σ1 vs = L2.wipe σ vs := by
  have h1 : σ1.length = σ.length := by rw [p.1, wipe_length]
  apply List.ext_getElem?
  intro i
  by_cases hi : i < n
  · by_cases hv : i ∈ vs
    · rw [wipe_in hv (by omega), wipe_in hv (by omega)]
    · rw [wipe_out hv, p.2 i (hP i hi hv), wipe_out hv]
  · rw [List.getElem?_eq_none (by rw [wipe_length]; omega), List.getElem?_eq_none (by rw [wipe_length]; omega)]
/-- what is walked, the target, the tests, the element -/
def compL (n : Nat) (vs : List Nat) (g : GF) (t : BF) (e : DF) : List D → Env' → Option (List D × Env')
  | [], ρ => some ([], ρ)
  | d :: ds, ρ => if ρ.length = n then (g d (wipeE ρ vs)).bind fun ρ1 => (t ρ1).bind fun p => if p.1 then (e p.2).bind fun q => (compL n vs g t e ds (unwipe ρ q.2 vs)).map fun r => (q.1 :: r.1, r.2)
      else compL n vs g t e ds (unwipe ρ p.2 vs) else none
def nLc (n : Nat) (vs : List Nat) (f : IF) (g : GF) (t : BF) (e : DF) : OF := fun ρ => (f ρ).bind fun p => if p.1.length ≤ lim then (compL n vs g t e p.1 p.2).map fun r => (.lst (r.1.map .fz), r.2) else none
/-- a loose object (the list that is made) is written -/
theorem SS.looseWrite {F : Hp} {κ : Col} {σ : St} {H : Hp} {ρ : Env'} {a : Addr} {o : HO} (S : SS G F κ σ H ρ) (hF : F a = none) (hk : κ a = none) : SS G F κ σ (upd H a o) ρ := by
  refine ⟨fun b u e => ?_, fun b q e => ?_, S.len, fun j u e => ?_, S.tab⟩
  · have hb : b ≠ a := fun z => by rw [z, hF] at e; cases e
    rcases S.sub b u e with (z | ⟨ob, z, y⟩) | ⟨q, y, t⟩
    · exact .inl (.inl (by rw [upd_ne hb]; exact z))
    · exact .inl (.inr ⟨ob, by rw [upd_ne hb]; exact z, y⟩)
    · exact .inr ⟨q, y, t.mono (fun ps z => by rw [upd_ne hb]; exact z) fun _ _ z => z⟩
  · have hb : b ≠ a := fun z => by rw [z, hk] at e; cases e
    exact ⟨(S.own b q e).1, (S.own b q e).2.eq (upd_ne hb)⟩
  · obtain ⟨w, hw, r⟩ := S.slots j u e
    refine ⟨w, hw, r.keep (Ex.refl F) (fun _ _ _ z => z) fun b q x _ c z => ?_⟩
    have hb : b ≠ a := fun z => by rw [z, hk] at c; cases c
    rw [upd_ne hb]; exact z
theorem Step.looseWrite {F0 F : Hp} {κ0 κ : Col} {H0 H : Hp} {a : Addr} {o : HO} (s : Step F0 κ0 H0 F κ H) (h0 : H0 a = none) : Step F0 κ0 H0 F κ (upd H a o) :=
  ⟨s.ext, fun b u e hk => by rw [upd_ne (ne_of_none e h0)]; exact s.frame b u e hk, s.nofz, s.own⟩
/-- a loose object stays loose -/
theorem Step.looseAt {F F1 : Hp} {κ κ1 : Col} {H H1 : Hp} {a : Addr} {o : HO} (s : Step F κ H F1 κ1 H1) (h : H a = some o) (hF : F a = none) (hk : κ a = none) (hn : ∀ xs, o ≠ .tup xs := by intro xs h; cases h) (hn2 : ∀ xs, o ≠ tE xs := by intro xs h; cases h) : H1 a = some o ∧ F1 a = none ∧ κ1 a = none := by
  refine ⟨s.frm h hk hn2, by rw [s.nofz a o h hk hn hn2, hF], ?_⟩
  cases q : κ1 a with
  | none => rfl
  | some p =>
    rcases s.own a p q with z | z
    · rw [h] at z; cases z
    · exact absurd hk z
abbrev VTs (G : Gx) (X : Cx) (es : List Expr) (f : BF) : Prop := PTs X es (tT G f)
def bYes : BF := fun ρ => some (true, ρ)
theorem vts_nil : VTs G X [] bYes := ⟨fun pins s σ H Q I ⟨F, κ, ρ, d, ρ', S, q, k⟩ => by
  cases q
  exact pts_nil.run pins s σ H Q I (k F κ H S .refl)⟩
theorem vts_one {f : BF} (h : VT G X c f) : VTs G X [c] f := pts_one h
/-- what a comprehension's reading asks -/
theorem lc_run {n : Nat} {vs P : List Nat} {fi : IF} {g : GF} {t : BF} {fe : DF} (hP : ∀ i, i < n → i ∉ vs → i ∈ P) {σ : St} {H : Hp} {Q : VK} (q : tN G (nLc n vs fi g t fe) σ H Q) : tLc (tI G fi) (tG G P g) (tT G t) (tD G fe) vs σ H Q := by
  obtain ⟨F, κ, ρ, o, ρ', S, q, k⟩ := q
  unfold nLc at q
  cases q1 : fi ρ with
  | none => rw [q1] at q; cases q
  | some p =>
    obtain ⟨ds, ρ1⟩ := p
    rw [q1] at q
    simp only [Option.bind_some] at q
    split at q
    · rename_i hlim
      cases q2 : compL n vs g t fe ds ρ1 with
      | none => rw [q2] at q; cases q
      | some p =>
        obtain ⟨all, ρ2⟩ := p
        rw [q2] at q
        cases q
        refine ⟨F, κ, ρ, ds, ρ1, S, q1, fun J F1 κ1 H1 S1 s1 y Dl hD => ?_⟩
        obtain ⟨Gd, Y, w, hG, hY⟩ := y
        have f0 := S1.free hD
        refine lc_it w (fun i H' => ∃ (F' : Hp) (κ' : Col) (ρi : Env') (done : List D) (rest : List D) (acc : List V), SS G F' κ' σ H' ρi ∧ Ex F1 F' ∧ Step F1 κ1 H1 F' κ' H' ∧ H' Dl = some (.lst acc) ∧ F' Dl = none ∧ κ' Dl = none ∧ RDs G F' acc done ∧
          compL n vs g t fe (ds.drop i) ρi = some (rest, _) ∧ all = done ++ rest ∧ done.length ≤ i) ⟨F1, κ1, ρ1, [], all, [], S1.loose hD, Ex.refl _, .loose S1 hD, upd_same, f0.1, f0.2, .nil, q2, rfl, Nat.le_refl _⟩
          (fun i H' _ ⟨F', κ', ρi, done, rest, acc, S', ex, _⟩ => hG F' H' ex S'.exh) (fun i x H2 H3 hi ⟨F', κ', ρi, done, rest, acc, S', ex, st, hacc, hF, hk, hr, hc, ha, hdl⟩ hy => ?_) (fun H' ⟨F', κ', ρi, done, rest, acc, S', ex, st, hacc, hF, hk, hr, hc, ha, hdl⟩ => ?_)
        · have hd : ds[i]? = some ds[i] := List.getElem?_eq_getElem hi
          obtain ⟨F2, S2, st2, r2⟩ := hY i _ F' κ' σ H2 ρi x H3 hd ex S' hy
          obtain ⟨a1, a2, a3⟩ := st2.looseAt hacc hF hk
          rw [List.drop_eq_getElem_cons hi] at hc
          unfold compL at hc
          split at hc
          · rename_i hn
            cases q3 : g ds[i] (wipeE ρi vs) with
            | none => rw [q3] at hc; cases hc
            | some ρ3 =>
              rw [q3] at hc
              simp only [Option.bind_some] at hc
              refine ⟨F2, κ', wipeE ρi vs, ds[i], ρ3, S2.wipe vs, r2, q3, fun σ4 F4 κ4 H4 S4 st4 p4 => ?_⟩
              have hw : L2.wipe σ4 vs = L2.wipe σ vs := pin_wipe (n := n) (by rw [← S'.len]; exact hn) p4 hP
              refine ⟨hw, ?_⟩
              cases q4 : t ρ3 with
              | none => rw [q4] at hc; cases hc
              | some p =>
                obtain ⟨b1, ρ4⟩ := p
                rw [q4] at hc
                simp only [Option.bind_some] at hc
                refine ⟨F4, κ4, ρ3, b1, ρ4, S4, q4, fun F5 κ5 H5 S5 st5 => ?_⟩
                have st25 := (st2.trans st4).trans st5
                cases b1 with
                | false =>
                  simp only [Bool.false_eq_true, if_false] at hc ⊢
                  obtain ⟨b1, b2, b3⟩ := st25.looseAt hacc hF hk
                  exact ⟨F5, κ5, _, done, rest, acc, S'.unwipe S5 st25.ext hw, ex.trans st25.ext, st.trans st25, b1, b2, b3, hr.mono st25.ext, hc, ha, by omega⟩
                | true =>
                  simp only [if_true] at hc ⊢
                  cases q5 : fe ρ4 with
                  | none => rw [q5] at hc; cases hc
                  | some p =>
                    obtain ⟨z, ρ5⟩ := p
                    rw [q5] at hc
                    simp only [Option.bind_some] at hc
                    refine ⟨F5, κ5, ρ4, z, ρ5, S5, q5, fun v F6 κ6 H6 S6 st6 r6 => ?_⟩
                    have st26 := st25.trans st6
                    obtain ⟨b1, b2, b3⟩ := st26.looseAt hacc hF hk
                    cases q6 : compL n vs g t fe (ds.drop (i + 1)) (unwipe ρi ρ5 vs) with
                    | none => rw [q6] at hc; cases hc
                    | some p =>
                      obtain ⟨rest', ρ6⟩ := p
                      rw [q6] at hc
                      cases hc
                      have hle : acc.length ≤ i := by rw [RDs.length hr]; exact hdl
                      refine ⟨acc, b1, lim_lt (by omega), F6, κ6, _, done ++ [z], rest', acc ++ [v], (S'.unwipe S6 st26.ext hw).looseWrite b2 b3, ex.trans st26.ext, (st.trans st26).looseWrite hD, upd_same, b2, b3, (hr.mono st26.ext).append (.cons r6 .nil), q6, by rw [ha, List.append_assoc]; rfl, by simp; omega⟩
          · cases hc
        · rw [List.drop_length] at hc
          cases hc
          rw [List.append_nil] at ha
          subst ha
          refine k (.ref Dl) F' κ' H' (one Dl) S' (s1.trans st) (.lst one_same hacc (ROs.ofD hr)) fun a p z => ?_
          obtain ⟨rfl, _⟩ := one_some z
          exact ⟨tn_step s1 (.inl hD), .at hacc (by intro xs h; cases h), hF, hk⟩
    · cases q
theorem vn_lc {elt tg iter : Expr} {ifs : List Expr} {scope : Scope} {own : List (Str × Nat)} {P : List Nat} {n : Nat} {fi : IF} {g : GF} {t : BF} {f : DF} (hc : X.calm = true) (hN : X.N.Nodup) (hi : VI G X tg iter fi) (ok : BlkOk X.N X.env.scope scope own)
    (hg : ∀ (s : Shared) (H : Hp) (C : Addr) (cl : List (Str × Addr)) (fp : List Addr), VG G P (X.blk s H scope (compEnvC scope cl C X.env) fp) tg g) (ht : ∀ (s : Shared) (H : Hp) (C : Addr) (cl : List (Str × Addr)) (fp : List Addr), VTs G (X.blk s H scope (compEnvC scope cl C X.env) fp) ifs t)
    (he : ∀ (s : Shared) (H : Hp) (C : Addr) (cl : List (Str × Addr)) (fp : List Addr), VX G (X.blk s H scope (compEnvC scope cl C X.env) fp) elt f) (hP : ∀ i, i < n → i ∉ own.map (·.2) → i ∈ P) (hs : ∀ x, foldedSetIterable iter X.env x = pure x := by intro _; rfl) :
    VN G X (.ListComp elt [⟨tg, iter, ifs, 0⟩] scope pos) (nLc n (own.map (·.2)) fi g t f) := peImp (pe_lc hc hN hi ok hg ht he hs) fun _ _ _ q => lc_run hP q
/-- name = [..] -/
theorem vs_setLc {i : Nat} {y : Str} {py : Pos} {elt tg iter : Expr} {ifs : List Expr} {scope : Scope} {own : List (Str × Nat)} {spos : Pos} {P P' : List Nat} {n : Nat} {fi : IF} {g : GF} {t : BF} {f : DF} (hc : X.calm = true) (hN : X.N.Nodup) (hy : X.N[i]? = some y) (hyl : X.env.scope.names.lookup y = some .local) (hP' : i ∉ P')
    (hsw : swapsWith (.ListComp elt [⟨tg, iter, ifs, 0⟩] scope pos) (some (.Name y py)) spos.line X.env = pure true) (hi : VI G X tg iter fi) (ok : BlkOk X.N X.env.scope scope own)
    (hg : ∀ (s : Shared) (H : Hp) (C : Addr) (cl : List (Str × Addr)) (fp : List Addr), VG G P (X.blk s H scope (compEnvC scope cl C X.env) fp) tg g) (ht : ∀ (s : Shared) (H : Hp) (C : Addr) (cl : List (Str × Addr)) (fp : List Addr), VTs G (X.blk s H scope (compEnvC scope cl C X.env) fp) ifs t)
    (he : ∀ (s : Shared) (H : Hp) (C : Addr) (cl : List (Str × Addr)) (fp : List Addr), VX G (X.blk s H scope (compEnvC scope cl C X.env) fp) elt f) (hP : ∀ i, i < n → i ∉ own.map (·.2) → i ∈ P) (hs : ∀ x, foldedSetIterable iter X.env x = pure x := by intro _; rfl) :
    VS G P' X (.Assign [.Name y py] (.ListComp elt [⟨tg, iter, ifs, 0⟩] scope pos) spos) (sSetN i (nLc n (own.map (·.2)) fi g t f)) := psImp (ps_setLc hc hN hy hyl hsw hi ok hg ht he hs) fun Dn σ H q => by
  obtain ⟨F, κ, ρ, o, ρ1, S, e1, k⟩ := sSetN_run hP' q
  exact lc_run hP ⟨F, κ, ρ, o, ρ1, S, e1, k⟩
end
end VL
set_option Elab.async false
set_option linter.all false
set_option maxRecDepth 100000
set_option maxHeartbeats 4000000
namespace VL
open PySem PySem.Spec PyProof.Rows L2

/-! ### what a def promises -/
abbrev FF := List O → Option (O × List O)
def outs (ρ : Env') : List Nat → Option (List O)
  | [] => some []
  | i :: P => match ρ[i]? with
    | some (some o) => (outs ρ P).map (o :: ·)
    | _ => none
theorem outs_get {ρ : Env'} : ∀ {P : List Nat} {os : List O}, outs ρ P = some os → ∀ {j i : Nat} {o : O}, P[j]? = some i → os[j]? = some o → ρ[i]? = some (some o)
  | [], os, h, j, i, o, h1, _ => by simp at h1
  | p :: P, os, h, j, i, o, h1, h2 => by
    unfold outs at h
    split at h
    · rename_i o1 e1
      cases q : outs ρ P with
      | none => rw [q] at h; cases h
      | some os1 =>
        rw [q] at h
        cases h
        cases j with
        | zero => simp at h1 h2; subst h1 h2; exact e1
        | succ j => exact outs_get q (j := j) (by simpa using h1) (by simpa using h2)
    · cases h
/-- called with n arguments that stand for os, f os is handed back and what the places of P hold behind -/
def spF (G : Gx) (n : Nat) (P : List Nat) (f : FF) : Sp := fun vs H Q E => ∃ F κ os r os', SS G F κ (vs.map some) H (os.map some) ∧ os.length = n ∧ f os = some (r, os') ∧
  ∀ v F' κ' H' κt, Sub G F' H' → (∀ a p, κ' a = some p → F' a = none ∧ Mo H' a) → (∀ (j i : Nat) (o : O), P[j]? = some i → os'[j]? = some o → ∃ v, vs[i]? = some v ∧ RO G F' κ' H' [i] v o) →
    Step F κ H F' κ' H' → RO G F' κt H' [] v r → (∀ a p, κt a = some p → (H a = none ∨ κ a ≠ none) ∧ Mo H' a ∧ F' a = none ∧ κ' a = none) → Q v H'
/-- a def's function, from its body's: m names, n of them parameters -/
def fnF (m n : Nat) (P : List Nat) (body : SF) : FF := fun os => if os.length = n then (body (os.map some ++ List.replicate (m - n) none)).bind fun p => match p.1 with
    | .rt r => (outs p.2 P).map fun os' => (r, os')
    | .nx => (outs p.2 P).map fun os' => (.fz .non, os')
    | _ => none
  else none
theorem spF_len {G : Gx} {n : Nat} {P : List Nat} {f : FF} : ∀ vs H Q E, spF G n P f vs H Q E → vs.length = n := fun vs H Q E ⟨F, κ, os, r, os', S, hn, _⟩ => by
  have := S.len
  simp only [List.length_map] at this
  omega
theorem start_some {N : List Str} {vs : List V} {i : Nat} {v : V} (h : (L2.start N vs)[i]? = some (some v)) : vs[i]? = some v := by
  unfold L2.start at h
  by_cases hi : i < vs.length
  · rw [List.getElem?_append_left (by simpa using hi), List.getElem?_map] at h
    cases q : vs[i]? with
    | none => rw [q] at h; cases h
    | some x => rw [q] at h; cases h; rfl
  · rw [List.getElem?_append_right (by simpa using hi), List.getElem?_replicate] at h
    split at h <;> cases h
theorem SS.pad {G : Gx} {F : Hp} {κ : Col} {H : Hp} {vs : List V} {os : List O} {N : List Str} (S : SS G F κ (vs.map some) H (os.map some)) : SS G F κ (L2.start N vs) H (os.map some ++ List.replicate (N.length - os.length) none) := by
  have hl : os.length = vs.length := by have := S.len; simpa using this
  refine ⟨S.sub, S.own, by unfold L2.start; simp [hl], fun i o e => ?_, S.tab⟩
  by_cases hi : i < os.length
  · rw [List.getElem?_append_left (by simpa using hi)] at e
    obtain ⟨v, hv, r⟩ := S.slots i o e
    refine ⟨v, ?_, r⟩
    unfold L2.start
    rw [List.getElem?_append_left (by simp; omega)]
    exact hv
  · rw [List.getElem?_append_right (by simpa using hi), List.getElem?_replicate] at e
    split at e <;> cases e
/-- a def's promise, told of its body's function -/
theorem fn_core {G : Gx} {N ps : List Str} {pn : List Nat} {g : SF} {vs : List V} {H : Hp} {Q : VK} {E : XK} (h : spF G ps.length pn (fnF N.length ps.length pn g) vs H Q E) : tS G pn g { nx := fun _ H' => Q .non H', rt := Q } (L2.start N vs) H := by
  obtain ⟨F0, κ, os, r, os', S0, hn, e, k0⟩ := h
  unfold fnF at e
  rw [if_pos hn] at e
  cases q : g (os.map some ++ List.replicate (N.length - ps.length) none) with
  | none => rw [q] at e; cases e
  | some p =>
    obtain ⟨out, ρ'⟩ := p
    rw [q] at e
    have S1 := S0.pad (N := N)
    rw [hn] at S1
    refine ⟨F0, κ, _, out, ρ', S1, q, ?_⟩
    have fin : ∀ {v : V} {σ' : L2.St} {F' : Hp} {κ' : Col} {H' : Hp} {κt : Col} {r1 : O}, outs ρ' pn = some os' → r1 = r → SS G F' κ' σ' H' ρ' → Step F0 κ H F' κ' H' → Pin pn (L2.start N vs) σ' → RO G F' κt H' [] v r1 →
        (∀ a p, κt a = some p → (H a = none ∨ κ a ≠ none) ∧ Mo H' a ∧ F' a = none ∧ κ' a = none) → Q v H' := by
      intro v σ' F' κ' H' κt r1 eo er S' st pi ro ht
      subst er
      refine k0 v F' κ' H' κt S'.sub S'.own (fun j i o h1 h2 => ?_) st ro ht
      obtain ⟨u, hu, ru⟩ := S'.slots i o (outs_get eo h1 h2)
      refine ⟨u, ?_, ru⟩
      rw [pi.2 i (List.mem_of_getElem? h1)] at hu
      exact start_some hu
    cases out with
    | nx =>
      simp only [Option.bind_some] at e
      cases q2 : outs ρ' pn with
      | none => rw [q2] at e; cases e
      | some z =>
        rw [q2] at e
        cases e
        exact fun σ' F' κ' H' S' st pi => fin (κt := fun _ => none) q2 rfl S' st pi (.fz .non) fun _ _ z => nomatch z
    | rt o =>
      simp only [Option.bind_some] at e
      cases q2 : outs ρ' pn with
      | none => rw [q2] at e; cases e
      | some z =>
        rw [q2] at e
        cases e
        exact fun v σ' F' κ' H' κt S' st pi ro ht => fin q2 rfl S' st pi ro ht
    | bk => cases e
    | ct => cases e
theorem fn_ok {P : Program} {w : World} {K : PySem.W.Frag} {mg : Str → Option Value} {base : Heap} {G : Gx} {x qual : Str} {st : Stmt} {f : Addr} {fd : FuncData} {N ps : List Str} {k : Nat} {pn : List Nat} {g : SF} (F : Fun K x qual st f fd) (S : FnScope N ps (defScope st))
    (hb : ∀ (cdv : Value) (A : Around) (outer : List Env) (s : Shared) (H : Hp) (E : XK), Room k (A.deeper (envOfC qual (defScope st) s.heap.objs.size f cdv)) → VB G pn (cxOf CX0 P w K mg base N qual (defScope st) f cdv A outer s H E).nox (defBody st) g) :
    FnOk P w K mg base CX0 (k + 1) f fd ps (spF G ps.length pn (fnF N.length ps.length pn g)) := by
  exact F.ok S spF_len fun cdv A outer s H vs Q E hr h => ⟨_, hb cdv A outer s H E hr, fn_core h⟩
section
variable {G : Gx} {X : Cx} {e : Expr} {es : List Expr} {pos : Pos}
/-! ### calls -/
theorem tA_mono {fa : LF} {σ : L2.St} {H : Hp} {Q Q' : List V → Hp → Prop} (h : tA G fa σ H Q) (k : ∀ vs H1, Q vs H1 → Q' vs H1) : tA G fa σ H Q' := by
  obtain ⟨F, κ, ρ, ds, ρ1, S, q, k0⟩ := h
  exact ⟨F, κ, ρ, ds, ρ1, S, q, fun vs F1 κ1 H1 S1 s1 r1 => k _ _ (k0 vs F1 κ1 H1 S1 s1 r1)⟩
/-- no argument is changed -/
def cal (f : FF) (ds : List D) : Option O := (f (ds.map .fz)).map (·.1)
theorem SS.args {F : Hp} {κ : Col} {σ : L2.St} {H : Hp} {ρ : Env'} {vs : List V} {ds : List D} (S : SS G F κ σ H ρ) (r : RDs G F vs ds) : SS G F (fun _ => none) (vs.map some) H ((ds.map O.fz).map some) := by
  refine ⟨S.sub, (fun _ _ z => nomatch z), by simp [RDs.length r], fun i o e => ?_, S.tab⟩
  rw [List.getElem?_map, List.getElem?_map] at e
  cases q : ds[i]? with
  | none => rw [q] at e; cases e
  | some d =>
    rw [q] at e
    cases e
    obtain ⟨v, hv, rv⟩ := RDs.get r q
    exact ⟨v, by rw [List.getElem?_map, hv]; rfl, .fz rv⟩
theorem does_call {n : Nat} {f : FF} {E : XK} (hn : ∀ os z, f os = some z → os.length = n) : DoesNA G (fun vs H1 Q => spF G n [] f vs H1 Q E) (cal f) := by
  intro F κ σ H ρ xs as c Q S r e k
  unfold cal at e
  cases q1 : f (as.map .fz) with
  | none => rw [q1] at e; cases e
  | some p =>
    obtain ⟨c', os'⟩ := p
    rw [q1] at e
    cases e
    refine ⟨F, fun _ => none, as.map .fz, _, os', S.args r, hn _ _ q1, q1, fun v F' κ' H' κt hsub hown _ st ro ht => ?_⟩
    have keep : ∀ a o, H a = some o → (∀ ps, o ≠ tE ps) → H' a = some o := fun a o h n => st.frm h rfl n
    refine k v F' κ H' κt ⟨hsub, fun a p z => ?_, S.len, fun i o z => ?_, fun q hq => st.ext _ _ (S.tab q hq)⟩ ⟨st.ext, fun a o h _ => st.frame a o h rfl, fun a o h _ hn hn2 => st.nofz a o h rfl hn hn2, fun a p z => .inr (by rw [z]; simp)⟩ ro fun a p z => ?_
    · obtain ⟨h1, h2⟩ := S.own a p z
      obtain ⟨o, q, hn, hn2⟩ := h2.get
      exact ⟨by rw [st.nofz a o q rfl hn hn2, h1], .at (keep a o q hn2) hn hn2⟩
    · obtain ⟨u, hu, ru⟩ := S.slots i o z
      exact ⟨u, hu, ru.keep st.ext (fun _ _ _ z => z) fun b q x _ c z => keep b x z fun ps e => (S.own b q c).2.2.2 ps (by rw [z, e])⟩
    · obtain ⟨h1, h2, h3, h4⟩ := ht a p z
      have hH : H a = none := by
        rcases h1 with h | h
        · exact h
        · exact absurd rfl h
      exact ⟨.inl hH, h2, h3, (S.free hH).2⟩
theorem call_run {n : Nat} {f : FF} {fa : LF} {σ : L2.St} {H : Hp} {Q : VK} {E : XK} (q : tN G (nA (cal f) fa) σ H Q) (hn : ∀ os z, f os = some z → os.length = n) : tA G fa σ H fun vs H1 => spF G n [] f vs H1 Q E :=
  tA_runN (r := fun vs H1 Q => spF G n [] f vs H1 Q E) (does_call hn) q
/-- f(..), all arguments data -/
theorem vn_call {CX : CXT} {k : Nat} {fa : Addr} {fd : FuncData} {ps : List Str} {x : Str} {p : Pos} {f : FF} {ag : LF} {E : XK} {n : Nat} (F : FnOk X.prog X.w X.K X.mg X.base CX k fa fd ps (spF G n [] f)) (hn : ∀ os z, f os = some z → os.length = n) (hr : Room k X.A) (hg : Gl X x) (hm : X.mg x = some (.ref fa)) (hk : PySem.W.keepIn X.K (.ref fa) = true) (hb : Binds X.K fd ps []) (hx : Passes CX X E)
    (ha : VA G X (e :: es) ag) (hdb : (x == ("__debug__" : Str)) = false := by decide) (he : starEach (e :: es) X.env = (false, eval e X.env) :: starEach es X.env := by rfl) (hpl : (backTo pos (starEach es X.env)).any (·.1) = false := by rfl) :
    VN G X (.Call (.Name x p) (e :: es) [] pos) (nA (cal f) ag) := peImp (pe_call F hr hg hm hk hb .nil hx ha hdb he hpl) fun σ H Q q => by
  have := call_run (E := E) q hn
  unfold tCall
  refine tA_mono this fun vs H1 h => ?_
  rw [List.append_nil]; exact h
end
end VL
set_option Elab.async false
set_option linter.all false
set_option maxRecDepth 100000
set_option maxHeartbeats 4000000
namespace VL
open PySem PySem.Spec PyProof.Rows L2
section
variable {G : Gx} {X : Cx} {e : Expr} {es : List Expr} {pos : Pos}
/-! ### calls that change one argument: a name's tree -/
abbrev MF := Env' → Option ((List D × List D) × Env')
def tM (G : Gx) (i : Nat) (f : MF) : TA := fun σ H Q => ∃ F κ ρ ds ρ', SS G F κ σ H ρ ∧ f ρ = some (ds, ρ') ∧
  ∀ vs v ws F' κ' H', SS G F' κ' σ H' ρ' → Step F κ H F' κ' H' → RDs G F' vs ds.1 → σ[i]? = some (some v) → RDs G F' ws ds.2 → Q (vs ++ v :: ws) H'
abbrev VM (G : Gx) (X : Cx) (i : Nat) (es : List Expr) (f : MF) : Prop := PA X es (tM G i f)
def mOwn (i : Nat) (g : LF) : MF := fun ρ => match ρ[i]? with
  | some (some _) => (g ρ).map fun q => (([], q.1), q.2)
  | _ => none
def mCons (f : DF) (g : MF) : MF := fun ρ => (f ρ).bind fun p => (g p.2).map fun q => ((p.1 :: q.1.1, q.1.2), q.2)
theorem vm_own {i : Nat} {g : LF} (ha : PE X e (tVar i)) (hr : VA G X es g) (hs : starEach (e :: es) X.env = (false, eval e X.env) :: starEach es X.env := by rfl) : VM G X i (e :: es) (mOwn i g) :=
  paImp (pa_cons ha hr hs) fun σ H Q ⟨F, κ, ρ, ds, ρ2, S, q, k⟩ => by
    unfold mOwn at q
    split at q
    · rename_i o e1
      obtain ⟨v, hv, r⟩ := S.slots i _ e1
      cases q1 : g ρ with
      | none => rw [q1] at q; cases q
      | some p =>
        obtain ⟨ds', ρ1⟩ := p
        rw [q1] at q
        cases q
        exact ⟨v, hv, F, κ, ρ, ds', _, S, q1, fun vs F1 κ1 H1 S1 s1 r1 => k [] v vs F1 κ1 H1 S1 s1 .nil hv r1⟩
    · cases q
theorem vm_cons {i : Nat} {f : DF} {g : MF} (ha : VX G X e f) (hr : VM G X i es g) (hs : starEach (e :: es) X.env = (false, eval e X.env) :: starEach es X.env := by rfl) : VM G X i (e :: es) (mCons f g) :=
  paImp (pa_cons ha hr hs) fun σ H Q ⟨F, κ, ρ, ds, ρ2, S, q, k⟩ => by
    unfold mCons at q
    cases q1 : f ρ with
    | none => rw [q1] at q; cases q
    | some p =>
      obtain ⟨d, ρ1⟩ := p
      rw [q1] at q
      simp only [Option.bind_some] at q
      cases q2 : g ρ1 with
      | none => rw [q2] at q; cases q
      | some p =>
        obtain ⟨ds', ρ3⟩ := p
        rw [q2] at q
        cases q
        exact ⟨F, κ, ρ, d, ρ1, S, q1, fun v F1 κ1 H1 S1 s1 r1 => ⟨F1, κ1, ρ1, ds', _, S1, q2, fun vs u ws F2 κ2 H2 S2 s2 r2 hv r3 => k (v :: vs) u ws F2 κ2 H2 S2 (s1.trans s2) (.cons (r1.mono' s2.ext) r2) hv r3⟩⟩
/-- f(.., the i-th name's tree, ..): the callee's place p -/
def cal1 (p i : Nat) (f : FF) (g : MF) : OF := fun ρ => (g ρ).bind fun a => match a.2[i]? with
  | some (some o) => if a.1.1.length = p then (match f (a.1.1.map .fz ++ o :: a.1.2.map .fz) with
      | some (r, [o']) => some (r, a.2.set i (some o'))
      | _ => none) else none
  | _ => none
/-- the callee's colours -/
def colIn (κ : Col) (i p : Nat) : Col := fun a => match κ a with
  | some (j :: q) => if j = i then some (p :: q) else none
  | _ => none
theorem colIn_some {κ : Col} {i p : Nat} {a : Addr} {q : List Nat} (h : colIn κ i p a = some q) : ∃ q', q = p :: q' ∧ κ a = some (i :: q') := by
  unfold colIn at h
  split at h
  · rename_i j r e
    split at h
    · rename_i hj; cases h; exact ⟨r, rfl, by rw [e, hj]⟩
    · cases h
  · cases h
theorem colIn_root {κ : Col} {i p : Nat} {a : Addr} {q : List Nat} (h : κ a = some (i :: q)) : colIn κ i p a = some (p :: q) := by
  unfold colIn; rw [h]; exact if_pos rfl
/-- the caller's colours behind the call -/
def colOut (κ κ' : Col) (i p : Nat) : Col := fun a => match κ' a with
  | some (j :: q) => if j = p then some (i :: q) else none
  | some [] => none
  | none => unc κ i a
theorem colOut_some {κ κ' : Col} {i p : Nat} {a : Addr} {q : List Nat} (h : colOut κ κ' i p a = some q) : (∃ q', q = i :: q' ∧ κ' a = some (p :: q')) ∨ (κ' a = none ∧ κ a = some q ∧ q.head? ≠ some i) := by
  unfold colOut at h
  split at h
  · rename_i j r e
    split at h
    · rename_i hj; cases h; exact .inl ⟨r, rfl, by rw [e, hj]⟩
    · cases h
  · cases h
  · rename_i e
    obtain ⟨h1, h2⟩ := unc_some h
    exact .inr ⟨e, h1, h2⟩
/-- a root instead of another -/
def reroot (p : Nat) (q : List Nat) : List Nat := match q with
  | [] => []
  | _ :: r => p :: r
theorem ROx.reroot {F : Hp} {κ κ' : Col} {H : Hp} {i p : Nat} {v : V} {o : O} (k : ∀ a q, κ a = some (i :: q) → κ' a = some (p :: q)) (h : RO G F κ H [i] v o) : RO G F κ' H [p] v o := by
  have key : ∀ {b q n v o vs os}, ROx G F κ H b q n v o vs os → Rt i q → ROx G F κ' H b (VL.reroot p q) n v o vs os := by
    intro b q n v o vs os h
    have kk : ∀ {a : Addr} {q : List Nat}, Rt i q → κ a = some q → κ' a = some (VL.reroot p q) := by
      intro a q r c
      cases q with
      | nil => cases r
      | cons x xs =>
        have e : x = i := Option.some.inj r
        subst e
        exact k a xs c
    have ap : ∀ (q : List Nat) (n : Nat), Rt i q → VL.reroot p (q ++ [n]) = VL.reroot p q ++ [n] := by
      intro q n r
      cases q with
      | nil => cases r
      | cons x xs => rfl
    induction h with
    | fz h => exact fun _ => .fz h
    | lst c h _ ih => exact fun r => .lst (kk r c) h (ih r)
    | dK c h m _ ih => exact fun r => .dK (kk r c) h m (ih r)
    | dT c h m _ ih => exact fun r => .dT (kk r c) h m (ih r)
    | ins c h m _ ih => exact fun r => .ins (kk r c) h m (ih r)
    | dN c n h m => exact fun r => .dN (kk r c) n h m
    | nil => exact fun _ => .nil
    | cons _ _ ih1 ih2 => exact fun r => .cons (by have := ih1 (Rt.app _ _ r); rw [ap _ _ r] at this; exact this) (ih2 r)
  exact key h rfl
theorem call_core {n p i : Nat} {f : FF} {F : Hp} {κ : Col} {σ : L2.St} {H : Hp} {ρ : Env'} {vs ws : List V} {v : V} {ds1 ds2 : List D} {o c o' : O} {Q : VK} {E : XK} (S : SS G F κ σ H ρ) (eo : ρ[i]? = some (some o)) (hv : σ[i]? = some (some v)) (r1 : RDs G F vs ds1) (r2 : RDs G F ws ds2) (hp : ds1.length = p)
    (ef : f (ds1.map .fz ++ o :: ds2.map .fz) = some (c, [o'])) (hn : ∀ os z, f os = some z → os.length = n)
    (k : ∀ w F' κ' H' κt, SS G F' κ' σ H' (ρ.set i (some o')) → Step F κ H F' κ' H' → RO G F' κt H' [] w c → (∀ a p, κt a = some p → (H a = none ∨ κ a ≠ none) ∧ Mo H' a ∧ F' a = none ∧ κ' a = none) → Q w H') : spF G n [p] f (vs ++ v :: ws) H Q E := by
  have hvs : vs.length = p := by rw [RDs.length r1]; exact hp
  obtain ⟨v', hv', ro⟩ := S.slots i o eo
  rw [hv] at hv'; cases hv'
  have hil : i < ρ.length := (List.getElem?_eq_some_iff.mp eo).1
  refine ⟨F, colIn κ i p, ds1.map .fz ++ o :: ds2.map .fz, c, [o'], ⟨S.sub, fun a q z => ?_, by simp [RDs.length r1, RDs.length r2], fun j u e => ?_, S.tab⟩, hn _ _ ef, ef, fun w F' κ' H' κt hsub hown hpl st rr ht => ?_⟩
  · obtain ⟨q', _, z'⟩ := colIn_some z
    exact S.own a _ z'
  · rw [List.map_append, List.map_cons] at e ⊢
    by_cases h1 : j < p
    · rw [List.getElem?_append_left (by simp; omega), List.getElem?_map, List.getElem?_map] at e
      cases z : ds1[j]? with
      | none => rw [z] at e; cases e
      | some d =>
        rw [z] at e; cases e
        obtain ⟨x, hx, rx⟩ := RDs.get r1 z
        exact ⟨x, by rw [List.getElem?_append_left (by simp; omega), List.getElem?_map, hx]; rfl, .fz rx⟩
    · by_cases h2 : j = p
      · subst h2
        rw [List.getElem?_append_right (by simp; omega)] at e
        simp only [List.length_map, hp, Nat.sub_self, List.getElem?_cons_zero] at e
        cases e
        refine ⟨v, by rw [List.getElem?_append_right (by simp; omega)]; simp [hvs], ?_⟩
        exact ro.reroot fun a q z => colIn_root z
      · have h3 : p < j := by omega
        obtain ⟨m, rfl⟩ : ∃ m, j = p + 1 + m := ⟨j - (p + 1), by omega⟩
        rw [List.getElem?_append_right (by simp; omega)] at e
        simp only [List.length_map, hp, show p + 1 + m - p = m + 1 by omega, List.getElem?_cons_succ, List.getElem?_map] at e
        cases z : ds2[m]? with
        | none => rw [z] at e; cases e
        | some d =>
          rw [z] at e; cases e
          obtain ⟨x, hx, rx⟩ := RDs.get r2 z
          refine ⟨x, ?_, .fz rx⟩
          rw [List.getElem?_append_right (by simp; omega)]
          simp only [List.length_map, hvs, show p + 1 + m - p = m + 1 by omega, List.getElem?_cons_succ, List.getElem?_map, hx]
          rfl
  · obtain ⟨v2, hv2, ro2⟩ := hpl 0 p o' rfl rfl
    have ev : v2 = v := by
      rw [List.getElem?_append_right (by omega), hvs, Nat.sub_self] at hv2
      exact (Option.some.inj hv2).symm
    subst ev
    -- what of the caller is not handed over stays
    have oth : ∀ a q, κ a = some q → q.head? ≠ some i → colIn κ i p a = none := fun a q z hq => by
      cases y : colIn κ i p a with
      | none => rfl
      | some q2 =>
        obtain ⟨q', _, z'⟩ := colIn_some y
        rw [z] at z'; cases z'
        exact absurd rfl hq
    have keep : ∀ a q o, κ a = some q → q.head? ≠ some i → H a = some o → H' a = some o ∧ κ' a = none ∧ F' a = none := fun a q o z hq h => by
      have h0 := oth a q z hq
      have hnt : ∀ xs, o ≠ .tup xs := fun xs e => (S.own a q z).2.2.1 xs (by rw [h, e])
      have hnb : ∀ xs, o ≠ tE xs := fun xs e => (S.own a q z).2.2.2 xs (by rw [h, e])
      refine ⟨st.frm h h0 hnb, ?_, by rw [st.nofz a o h h0 hnt hnb]; exact (S.own a q z).1⟩
      cases y : κ' a with
      | none => rfl
      | some q2 =>
        rcases st.own a q2 y with z2 | z2
        · rw [h] at z2; cases z2
        · exact absurd h0 z2
    refine k w F' (colOut κ κ' i p) H' κt ⟨hsub, fun a q z => ?_, by simp [S.len], fun j u e => ?_, fun q hq => st.ext _ _ (S.tab q hq)⟩ ⟨st.ext, fun a u h hk => st.frame a u h ?_, fun a u h hk hnt hnb => st.nofz a u h ?_ hnt hnb, fun a q z => ?_⟩ rr fun a q z => ?_
    · rcases colOut_some z with ⟨q', _, z'⟩ | ⟨z1, z2, z3⟩
      · exact hown a _ z'
      · obtain ⟨h1, h2⟩ := S.own a q z2
        obtain ⟨u, y, hnt, hnb⟩ := h2.get
        obtain ⟨h3, _, h5⟩ := keep a q u z2 z3 y
        exact ⟨h5, .at h3 hnt hnb⟩
    · by_cases hj : j = i
      · subst hj
        rw [List.getElem?_set_self hil] at e
        cases e
        refine ⟨v2, hv, ro2.reroot fun a q z => ?_⟩
        unfold colOut; rw [z]; exact if_pos rfl
      · rw [List.getElem?_set_ne (Ne.symm hj)] at e
        obtain ⟨x, hx, rx⟩ := S.slots j u e
        have hne : ∀ q : List Nat, Rt j q → q.head? ≠ some i := fun q rq y => hj (Option.some.inj (rq.symm.trans y))
        refine ⟨x, hx, rx.keep st.ext (fun a q rq z => ?_) fun a q y rq z h => (keep a q y z (hne q rq) h).1⟩
        have hH : H a ≠ none := (S.own a q z).2.1
        cases y : H a with
        | none => exact absurd y hH
        | some u2 =>
          unfold colOut
          rw [(keep a q u2 z (hne q rq) y).2.1]
          exact unc_keep hj rq z
    · cases y : colIn κ i p a with
      | none => rfl
      | some q2 => obtain ⟨q', _, z'⟩ := colIn_some y; rw [hk] at z'; cases z'
    · cases y : colIn κ i p a with
      | none => rfl
      | some q2 => obtain ⟨q', _, z'⟩ := colIn_some y; rw [hk] at z'; cases z'
    · rcases colOut_some z with ⟨q', _, z'⟩ | ⟨z1, z2, z3⟩
      · rcases st.own a _ z' with y | y
        · exact .inl y
        · refine .inr fun hk => y ?_
          cases y2 : colIn κ i p a with
          | none => rfl
          | some q2 => obtain ⟨q', _, z''⟩ := colIn_some y2; rw [hk] at z''; cases z''
      · exact .inr (by rw [z2]; simp)
    · obtain ⟨h1, h2, h3, h4⟩ := ht a q z
      refine ⟨?_, h2, h3, ?_⟩
      · rcases h1 with h1 | h1
        · exact .inl h1
        · refine .inr fun hk => h1 ?_
          cases y2 : colIn κ i p a with
          | none => rfl
          | some q2 => obtain ⟨q', _, z''⟩ := colIn_some y2; rw [hk] at z''; cases z''
      · cases y : colOut κ κ' i p a with
        | none => rfl
        | some q2 =>
          exfalso
          rcases colOut_some y with ⟨q', _, z'⟩ | ⟨z1, z2, z3⟩
          · rw [h4] at z'; cases z'
          · have hH := (S.own a q2 z2).2.1
            have h0 := oth a q2 z2 z3
            rcases h1 with h1 | h1
            · exact hH h1
            · exact h1 h0

theorem cal1_run {n p i : Nat} {f : FF} {g : MF} {σ : L2.St} {H : Hp} {Q : VK} {E : XK} (q : tN G (cal1 p i f g) σ H Q) (hn : ∀ os z, f os = some z → os.length = n) : tM G i g σ H fun vs H1 => spF G n [p] f vs H1 Q E := by
  obtain ⟨F0, κ0, ρ0, c, ρ', S0, q, k⟩ := q
  unfold cal1 at q
  cases q1 : g ρ0 with
  | none => rw [q1] at q; cases q
  | some a =>
    obtain ⟨⟨ds1, ds2⟩, ρ⟩ := a
    rw [q1] at q
    simp only [Option.bind_some] at q
    split at q
    · rename_i o eo
      split at q
      · rename_i hp
        split at q
        · rename_i r o' ef
          cases q
          exact ⟨F0, κ0, ρ0, _, ρ, S0, q1, fun vs v ws F κ H S s0 r1 hv r2 => call_core S eo hv r1 r2 hp ef hn fun w F' κ' H' κt S' st rr ht => k w F' κ' H' κt S' (s0.trans st) rr fun a p z => ⟨tn_step s0 (ht a p z).1, (ht a p z).2⟩⟩
        · cases q
      · cases q
    · cases q
theorem tM_mono {i : Nat} {fa : MF} {σ : L2.St} {H : Hp} {Q Q' : List V → Hp → Prop} (h : tM G i fa σ H Q) (k : ∀ vs H1, Q vs H1 → Q' vs H1) : tM G i fa σ H Q' := by
  obtain ⟨F, κ, ρ, ds, ρ1, S, q, k0⟩ := h
  exact ⟨F, κ, ρ, ds, ρ1, S, q, fun vs v ws F1 κ1 H1 S1 s1 r1 hv r2 => k _ _ (k0 vs v ws F1 κ1 H1 S1 s1 r1 hv r2)⟩
theorem vn_call1 {CX : CXT} {k : Nat} {fa : Addr} {fd : FuncData} {ps : List Str} {x : Str} {p : Pos} {f : FF} {ag : MF} {E : XK} {n pl i : Nat} (F : FnOk X.prog X.w X.K X.mg X.base CX k fa fd ps (spF G n [pl] f)) (hn : ∀ os z, f os = some z → os.length = n) (hr : Room k X.A) (hg : Gl X x) (hm : X.mg x = some (.ref fa)) (hk : PySem.W.keepIn X.K (.ref fa) = true) (hb : Binds X.K fd ps []) (hx : Passes CX X E)
    (ha : VM G X i (e :: es) ag) (hdb : (x == ("__debug__" : Str)) = false := by decide) (he : starEach (e :: es) X.env = (false, eval e X.env) :: starEach es X.env := by rfl) (hpl : (backTo pos (starEach es X.env)).any (·.1) = false := by rfl) :
    VN G X (.Call (.Name x p) (e :: es) [] pos) (cal1 pl i f ag) := peImp (pe_call F hr hg hm hk hb .nil hx ha hdb he hpl) fun σ H Q q => by
  have := cal1_run (E := E) q hn
  unfold tCall
  refine tM_mono this fun vs H1 h => ?_
  rw [List.append_nil]; exact h
end
end VL
set_option Elab.async false
set_option linter.all false
set_option maxRecDepth 100000
set_option maxHeartbeats 4000000
namespace VL
open PySem PySem.Spec PyProof.Rows L2
/-! ### data as the library's data -/
mutual
def D.py : D → PyData
  | .non => .none
  | .bl b => .bool b
  | .int i => .int i
  | .str x => .str x
  | .lst xs => .list (D.pys xs)
  | .tup xs => .tuple (D.pys xs)
  | .tz xs => .tuple (D.pys xs)
  | .dK _ => .dict []
  | .dT _ => .dict []
  | .ins _ _ => .dict []
  | .scr _ => .dict []
  | .dN _ => .dict []
  | .exc _ => .dict []
def D.pys : List D → List PyData
  | [] => []
  | d :: ds => d.py :: D.pys ds
end
/-- data of None, bools, ints, texts, lists, tuples; of a depth up to 60 -/
def D.dat (d : D) : Bool := SeqAt.shaped d.py
theorem RDx.dp {G : Gx} {K : PySem.W.Frag} (hK : G.K = K) {H : Hp} {b v d vs ds} (h : RDx G H b v d vs ds) : (b = false → d.py.canLay0 = true → Dp K H v d.py) ∧ (b = true → PyData.canLayAll0 (D.pys ds) = true → DpAll K H vs (D.pys ds)) := by
  have no : ∀ {p : Prop}, false = true → p := fun z => nomatch z
  have no' : ∀ {p : Prop}, true = false → p := fun z => nomatch z
  induction h with
  | non => exact ⟨fun _ _ => (by rw [D.py]; exact .non), no⟩
  | bl b => exact ⟨fun _ _ => (by rw [D.py]; exact .bl b), no⟩
  | int i => exact ⟨fun _ _ => (by rw [D.py]; exact .int i), no⟩
  | str x => exact ⟨fun _ _ => (by rw [D.py]; exact .str x), no⟩
  | lst s _ ih => exact ⟨fun _ h => (by rw [D.py] at h ⊢; rw [PyData.canLay0] at h; exact .lst (.of s) (ih.2 rfl h)), no⟩
  | scr s _ ih => exact ⟨fun _ h => (by rw [D.py] at h; rw [PyData.canLay0] at h; cases h), no⟩
  | tup s _ ih => exact ⟨fun _ h => (by rw [D.py] at h ⊢; rw [PyData.canLay0] at h; exact .tup (.of s) (ih.2 rfl h)), no⟩
  | tz s _ _ _ ih => exact ⟨fun _ h => (by rw [D.py] at h ⊢; rw [PyData.canLay0] at h; exact .tup (.inl (.inr ⟨_, s⟩)) (ih.2 rfl h)), no⟩
  | dK s _ _ ih => exact ⟨fun _ h => (by rw [D.py] at h; rw [PyData.canLay0] at h; cases h), no⟩
  | dT s _ _ ih => exact ⟨fun _ h => (by rw [D.py] at h; rw [PyData.canLay0] at h; cases h), no⟩
  | ins s _ _ ih => exact ⟨fun _ h => (by rw [D.py] at h; rw [PyData.canLay0] at h; cases h), no⟩
  | dN _ s _ ih => exact ⟨fun _ h => (by rw [D.py] at h; rw [PyData.canLay0] at h; cases h), no⟩
  | exc s => exact ⟨fun _ h => (by rw [D.py] at h; rw [PyData.canLay0] at h; cases h), no⟩
  | nil => exact ⟨no', fun _ _ => (by rw [D.pys]; exact .nil)⟩
  | cons _ _ ih1 ih2 => exact ⟨no', fun _ h => (by
      rw [D.pys] at h ⊢
      rw [PyData.canLayAll0, Bool.and_eq_true] at h
      exact .cons (ih1.1 rfl h.1) (ih2.2 rfl h.2))⟩
theorem RD.dp {G : Gx} {K : PySem.W.Frag} (hK : G.K = K) {H : Hp} {v : V} {d : D} (h : RD G H v d) (hd : d.dat = true) : Dp K H v d.py := (RDx.dp hK h).1 rfl (SeqAt.canLay_of_shaped hd)

section
variable {G : Gx} {X : Cx}
def gEq (a b : D) : Option D := if a.dat = true ∧ b.dat = true then some (.bl (PyData.eqv a.py b.py)) else none
def gNe (a b : D) : Option D := if a.dat = true ∧ b.dat = true then some (.bl (!PyData.eqv a.py b.py)) else none
theorem does_eq (hK : G.K = X.K) : Does2 G (rEqD X.K) gEq := by
  intro F κ σ H ρ x y a b c Q S rx ry e k
  unfold gEq at e
  split at e
  · rename_i h
    cases e
    exact ⟨_, _, (S.rd rx).dp hK h.1, (S.rd ry).dp hK h.2, h.1, h.2, k.here S (.bl _)⟩
  · cases e
theorem does_ne (hK : G.K = X.K) : Does2 G (rNeD X.K) gNe := by
  intro F κ σ H ρ x y a b c Q S rx ry e k
  unfold gNe at e
  split at e
  · rename_i h
    cases e
    exact ⟨_, _, (S.rd rx).dp hK h.1, (S.rd ry).dp hK h.2, h.1, h.2, k.here S (.bl _)⟩
  · cases e
/-- whole numbers -/
def gI (p : Int → Int → D) : D → D → Option D
  | .int i, .int j => some (p i j)
  | _, _ => none
theorem gI_ok {p : Int → Int → D} {a b c : D} (h : gI p a b = some c) : ∃ i j, a = .int i ∧ b = .int j ∧ c = p i j := by
  unfold gI at h
  split at h
  · cases h; exact ⟨_, _, rfl, rfl, rfl⟩
  · cases h
theorem does_I0 {p : Int → Int → V} {q : Int → Int → D} (hp : ∀ F i j, RD G F (p i j) (q i j)) : Does2 G (rI0 p) (gI q) := by
  intro F κ σ H ρ x y a b c Q S rx ry e k
  obtain ⟨i, j, rfl, rfl, rfl⟩ := gI_ok e
  cases rx; cases ry
  exact ⟨i, j, rfl, rfl, k.here S (hp F i j)⟩
theorem does_lt : Does2 G (rI0 fun i j => .bl (decide (i < j))) (gI fun i j => .bl (decide (i < j))) := does_I0 fun _ _ _ => .bl _
theorem does_gt : Does2 G (rI0 fun i j => .bl (decide (j < i))) (gI fun i j => .bl (decide (j < i))) := does_I0 fun _ _ _ => .bl _
theorem does_ge : Does2 G (rI0 fun i j => .bl (decide (j ≤ i))) (gI fun i j => .bl (decide (j ≤ i))) := does_I0 fun _ _ _ => .bl _
theorem does_sub : Does2 G (rI0 fun i j => .int (i - j)) (gI fun i j => .int (i - j)) := does_I0 fun _ _ _ => .int _
def gMod : D → D → Option D
  | .int i, .int j => if 0 < j then some (.int (i % j)) else none
  | _, _ => none
theorem does_mod : Does2 G (rI (fun _ j => 0 < j) fun i j => .int (i % j)) gMod := by
  intro F κ σ H ρ x y a b c Q S rx ry e k
  unfold gMod at e
  split at e
  · split at e
    · rename_i i j h
      cases e; cases rx; cases ry
      exact ⟨i, j, rfl, rfl, h, k.here S (.int _)⟩
    · cases e
  · cases e
def gDiv : D → D → Option D
  | .int i, .int j => if 0 < j ∧ j < 1073741824 then some (.int (i / j)) else none
  | _, _ => none
theorem does_div : Does2 G (rI CDiv fun i j => .int (i / j)) gDiv := by
  intro F κ σ H ρ x y a b c Q S rx ry e k
  unfold gDiv at e
  split at e
  · split at e
    · rename_i i j h
      cases e; cases rx; cases ry
      exact ⟨i, j, rfl, rfl, h, k.here S (.int _)⟩
    · cases e
  · cases e
def gPow : D → D → Option D
  | .int i, .int j => if 0 ≤ j ∧ j ≤ 1000000 ∧ i.natAbs < 2 ^ 64 then some (.int (i ^ j.toNat)) else none
  | _, _ => none
theorem does_pow : Does2 G (rI CPow fun i j => .int (i ^ j.toNat)) gPow := by
  intro F κ σ H ρ x y a b c Q S rx ry e k
  unfold gPow at e
  split at e
  · split at e
    · rename_i i j h
      cases e; cases rx; cases ry
      exact ⟨i, j, rfl, rfl, h, k.here S (.int _)⟩
    · cases e
  · cases e
def gNeg : D → Option D
  | .int i => some (.int (-i))
  | _ => none
theorem does_neg : Does1 G (rU fun i => .int (-i)) gNeg := by
  intro F κ σ H ρ x a c Q S rx e k
  unfold gNeg at e
  split at e
  · cases e; cases rx
    exact ⟨_, rfl, k.here S (.int _)⟩
  · cases e
/-- + : ints, texts, tuples, lists -/
def gAdd : D → D → Option D
  | .int i, .int j => some (.int (i + j))
  | .str i, .str j => if i.length + j.length ≤ lim then some (.str (i ++ j)) else none
  | .tup xs, .tup ys => if xs.length + ys.length ≤ lim then some (.tup (xs ++ ys)) else none
  | .lst xs, .lst ys => if xs.length + ys.length ≤ lim then some (.lst (xs ++ ys)) else none
  | _, _ => none
def rAdd4 (K : PySem.W.Frag) : R2 := fun x y H Q => rI0 (fun i j => .int (i + j)) x y H Q ∨ (∃ i j, x = .str i ∧ y = .str j ∧ i.length + j.length ≤ sizeLine ∧ Q (.str (i ++ j)) H) ∨ rCatA K x y H Q ∨ rCat x y H Q
theorem op_add4 : OpR X (binaryOp .Add) (rAdd4 X.K) := op_add.or (op_add_str.or (op_catA.or op_cat))
theorem RDs.isNil {F : Hp} {vs : List V} {ds : List D} (r : RDs G F vs ds) : vs = [] ↔ ds = [] := by
  cases r with
  | nil => simp
  | cons _ _ => simp
theorem does_add4 (hK : G.K = X.K) : Does2 G (rAdd4 X.K) gAdd := by
  intro F κ σ H ρ x y a b c Q S rx ry e k
  unfold gAdd at e
  split at e
  · cases e; cases rx; cases ry
    exact .inl ⟨_, _, rfl, rfl, k.here S (.int _)⟩
  · split at e
    · rename_i i j h
      cases e; cases rx; cases ry
      exact .inr (.inl ⟨_, _, rfl, rfl, lim_le h, k.here S (.str _)⟩)
    · cases e
  · split at e
    · rename_i xs ys h
      cases e
      cases rx with
      | tup s1 r1 =>
        cases ry with
        | tup s2 r2 =>
          refine .inr (.inr (.inl ⟨_, _, _, _, rfl, rfl, .of (S.tupF s1), .of (S.tupF s2), by rw [RDs.length r1, RDs.length r2]; exact lim_le h, fun q => ?_, fun q1 q2 => ?_, fun _ _ p hp => k.newT S (RDs.append r1 r2) hp⟩))
          · have := (RDs.isNil r1).mp q
            subst this
            exact k.here S (.tup s2 (by simpa using r2))
          · have := (RDs.isNil r2).mp q2
            subst this
            exact k.here S (.tup s1 (by simpa using r1))
    · cases e
  · split at e
    · rename_i xs ys h
      cases e
      cases rx with
      | lst s1 r1 =>
        cases ry with
        | lst s2 r2 =>
          have h1 : ∀ {a : Addr} {xs : List V}, F a = some (.lst xs) → H a = some (.lst xs) := fun h => by
            rcases S.sub.at h with z | ⟨_, _, z⟩
            · exact z
            · rcases z with ⟨_, z⟩ | ⟨_, z⟩ <;> cases z
          exact .inr (.inr (.inr ⟨_, _, _, _, rfl, rfl, h1 s1, h1 s2, by rw [RDs.length r1, RDs.length r2]; exact lim_le h, fun p hp => k.newL S (RDs.append r1 r2) hp⟩))
    · cases e
  · cases e
/-- ints by * -/
def gMul : D → D → Option D
  | .int i, .int j => if (-(2 ^ 64) < i ∧ i < 2 ^ 64) ∨ (-(2 ^ 64) < j ∧ j < 2 ^ 64) then some (.int (i * j)) else none
  | _, _ => none
theorem does_mul : Does2 G (rI CMul fun i j => .int (i * j)) gMul := by
  intro F κ σ H ρ x y a b c Q S rx ry e k
  unfold gMul at e
  split at e
  · split at e
    · rename_i i j h
      cases e; cases rx; cases ry
      exact ⟨i, j, rfl, rfl, h, k.here S (.int _)⟩
    · cases e
  · cases e
/-- [..] * n, owned -/
theorem RDs.rep {F : Hp} {vs : List V} {ds : List D} (r : RDs G F vs ds) : ∀ n : Nat, RDs G F (List.replicate n vs).flatten (List.replicate n ds).flatten
  | 0 => .nil
  | n + 1 => by
    rw [List.replicate_succ, List.replicate_succ, List.flatten_cons, List.flatten_cons]
    exact RDs.append r (RDs.rep r n)
/-! ### subscripts -/
def keyD : D → Option Key
  | .int i => some (.inl i)
  | .str x => some (.inr x)
  | _ => none
def keysD : List D → Option (List Key)
  | [] => some []
  | d :: ds => (keyD d).bind fun k => (keysD ds).map fun ks => k :: ks
theorem keyD_ok {F : Hp} {v : V} {d : D} {k : Key} (h : keyD d = some k) (r : RD G F v d) : v = kV k := by
  cases d with
  | int i => cases h; cases r; rfl
  | str i => cases h; cases r; rfl
  | _ => cases h
theorem keysD_ok {F : Hp} {vs : List V} {ds : List D} (r : RDs G F vs ds) : ∀ {ks : List Key}, keysD ds = some ks → vs = ks.map kV := by
  induction ds generalizing vs with
  | nil => intro ks h; cases r; cases h; rfl
  | cons d ds ih =>
    intro ks h
    cases r with
    | cons a b =>
      unfold keysD at h
      cases q : keyD d with
      | none => rw [q] at h; cases h
      | some k =>
        rw [q] at h
        cases q2 : keysD ds with
        | none => rw [q2] at h; cases h
        | some ks' => rw [q2] at h; cases h; rw [keyD_ok q a, ih b q2]; rfl
/-- what a dict holds -/
def valD {κ : Type} [DecidableEq κ] {α : Type} (kvs : List (κ × α)) (k : κ) : Option α := (kvs.find? fun kv => decide (kv.1 = k)).map (·.2)
theorem valD_get {κ : Type} [DecidableEq κ] {F : Hp} {k : κ} : ∀ {kvs : List (κ × V)} {kds : List (κ × D)}, kvs.map (·.1) = kds.map (·.1) → RDs G F (kvs.map (·.2)) (kds.map (·.2)) →
    (∀ d, valD kds k = some d → ∃ v, valV kvs k = some v ∧ RD G F v d) ∧ (valD kds k = none → valV kvs k = none) := by
  intro kvs
  induction kvs with
  | nil =>
    intro kds h r
    cases kds with
    | nil => exact ⟨fun d e => by simp [valD] at e, fun _ => rfl⟩
    | cons _ _ => simp at h
  | cons kv kvs ih =>
    intro kds h r
    cases kds with
    | nil => simp at h
    | cons kd kds =>
      simp only [List.map_cons, List.cons.injEq] at h
      obtain ⟨k1, v1⟩ := kv
      obtain ⟨k2, d2⟩ := kd
      obtain ⟨h1, h2⟩ := h
      have h1' : k1 = k2 := h1
      subst h1'
      cases r with
      | cons a b =>
        obtain ⟨i1, i2⟩ := ih h2 b
        by_cases hk : k1 = k
        · refine ⟨fun d e => ⟨v1, valV_pos (p := (k1, v1)) hk, ?_⟩, fun e => ?_⟩
          · simp [valD, List.find?_cons, hk] at e
            subst e; exact a
          · simp [valD, List.find?_cons, hk] at e
        · have e1 : valD ((k1, d2) :: kds) k = valD kds k := by simp [valD, List.find?_cons, hk]
          rw [e1, valV_neg (p := (k1, v1)) hk]
          exact ⟨i1, i2⟩
def gIx : D → D → Option D
  | .lst xs, .int i => atI xs i
  | .tup xs, .int i => atI xs i
  | .tz xs, .int i => atI xs i
  | .scr xs, .int i => atI xs i
  | .str z, .int i => if z.length ≤ lim then (atI z.cps.toList i).map fun c => .str ⟨#[c]⟩ else none
  | .dK kvs, k => (keyD k).bind fun k => valD kvs k
  | .dT kvs, .tup ks => (keysD ks).bind fun k => valD kvs k
  | _, _ => none
def rIxD : R2 := fun x y H Q => ∃ a v, x = .ref a ∧ DGet H a y (some v) ∧ Q v H
theorem ix_dict (hu : X.A.units + 1 < cLine) : IxR X rIxD := by
  intro value slice pins s σ H x y v u Q I rx ry h hs
  obtain ⟨a, w, rfl, g, q⟩ := h
  obtain rfl : v = Value.ref a := rx
  unfold subscriptTail
  refine wpAny_bind ?_
  rw [getitemInPython_of_ne (dict_typeIs I g).not_modules]
  refine wpAny_bind (wpAny_specialOf (dict_typeIs I g) PySem.F.slot_dict_getitem.lookup ?_)
  have fin : wpAny (model X.prog X.w) X.A (subscripted slice false (Value.ref a) u) (fun r s₃ => wpAny (model X.prog X.w) X.A (letTemporaryGo value (Value.ref a) r >>= fun _ => pure r) (EP X pins σ Q) X.xe s₃) X.xe s := by
    rw [hs]
    refine wpAny_operating (d_getItem hu I g ry fun w' s3 I3 rw' => wpAny_bind (wpAny_letTemporaryGo (wpAny_pure ?_)))
    exact ⟨w, H, I3, rw', q⟩
  first
    | exact wpAny_pure (wpAny_bind fin)
    | exact wpAny_bind (wpAny_pure (wpAny_bind fin))
    | exact wpAny_bind fin
theorem atI_len {α β : Type} {xs : List α} {ys : List β} (h : xs.length = ys.length) {i : Int} {d : β} (e : atI ys i = some d) : ∃ j : Nat, ys[j]? = some d ∧ ∀ v, xs[j]? = some v → atI xs i = some v := by
  unfold atI at e ⊢
  rw [h]
  cases q : ixN ys.length i with
  | none => rw [q] at e; cases e
  | some j => rw [q] at e; exact ⟨j, e, fun v hv => hv⟩
def rIxA (K : PySem.W.Frag) : R2 := fun x y H Q => rIxL K x y H Q ∨ rIxT K x y H Q ∨ rIxS x y H Q ∨ rIxD x y H Q
theorem ix_all (hu : X.A.units + 1 < cLine) : IxR X (rIxA X.K) := ix_list.or (ix_tup.or (ix_str.or (ix_dict hu)))
theorem ix_pure (hK : G.K = X.K) {F : Hp} {κ : Col} {σ : L2.St} {H : Hp} {ρ : Env'} {x y : V} {a b c : D} {Q : VK} (S : SS G F κ σ H ρ) (rx : RD G F x a) (ry : RD G F y b) (e : gIx a b = some c) (k : ∀ v, RD G F v c → Q v H) : rIxA X.K x y H Q := by
  unfold gIx at e
  split at e
  · cases rx with
    | lst s r =>
      cases ry
      obtain ⟨j, h1, h2⟩ := atI_len (RDs.length r) e
      obtain ⟨v, hv, rv⟩ := RDs.get r h1
      exact .inl ⟨_, _, _, v, rfl, rfl, .of (S.lstF s), h2 v hv, k _ rv⟩
  · cases rx with
    | tup s r =>
      cases ry
      obtain ⟨j, h1, h2⟩ := atI_len (RDs.length r) e
      obtain ⟨v, hv, rv⟩ := RDs.get r h1
      exact .inr (.inl ⟨_, _, _, v, rfl, rfl, .of (S.tupF s), h2 v hv, k _ rv⟩)
  · cases rx with
    | tz s _ _ r =>
      cases ry
      obtain ⟨j, h1, h2⟩ := atI_len (RDs.length r) e
      obtain ⟨v, hv, rv⟩ := RDs.get r h1
      exact .inr (.inl ⟨_, _, _, v, rfl, rfl, .inl (.inr ⟨_, S.tzF s⟩), h2 v hv, k _ rv⟩)
  · cases rx with
    | scr s r =>
      cases ry
      obtain ⟨j, h1, h2⟩ := atI_len (RDs.length r) e
      obtain ⟨v, hv, rv⟩ := RDs.get r h1
      exact .inl ⟨_, _, _, v, rfl, rfl, by rw [← hK]; exact S.exh.l s, h2 v hv, k _ rv⟩
  · split at e
    · rename_i z i h
      cases q : atI z.cps.toList i with
      | none => rw [q] at e; cases e
      | some cc =>
        rw [q] at e
        cases e; cases rx; cases ry
        exact .inr (.inr (.inl ⟨_, _, cc, rfl, rfl, lim_le h, q, k _ (.str _)⟩))
    · cases e
  · rename_i kvs kd
    cases q : keyD b with
    | none => rw [q] at e; cases e
    | some kk =>
      rw [q] at e
      cases rx with
      | dK s m r =>
        have hy := keyD_ok q ry
        obtain ⟨v, hv, rv⟩ := (valD_get m r).1 c e
        refine .inr (.inr (.inr ⟨_, v, rfl, ?_, k _ rv⟩))
        rw [hy, ← hv]
        exact .inl ⟨_, kk, S.exh.rd s, rfl, rfl⟩
  · rename_i kvs ks
    cases q : keysD ks with
    | none => rw [q] at e; cases e
    | some kk =>
      rw [q] at e
      cases rx with
      | dT s m r =>
        cases ry with
        | tup s2 r2 =>
          obtain ⟨v, hv, rv⟩ := (valD_get m r).1 c e
          refine .inr (.inr (.inr ⟨_, v, rfl, ?_, k _ rv⟩))
          have h2 := keysD_ok r2 q
          subst h2
          rw [← hv]
          exact .inr ⟨_, kk, _, S.exh.rd s, rfl, S.tupF s2, rfl⟩
  · cases e
theorem does_ix (hK : G.K = X.K) : Does2 G (rIxA X.K) gIx := fun F κ σ H ρ x y a b c Q S rx ry e k => ix_pure hK S rx ry e fun v r => k.here S r
end
end VL
set_option Elab.async false
set_option linter.all false
set_option maxRecDepth 100000
set_option maxHeartbeats 4000000
namespace VL
open PySem PySem.Spec PyProof.Rows L2
section
variable {G : Gx} {X : Cx} {e a b c : Expr} {es : List Expr} {pos : Pos}
/-! ### a name that owns its tree, read -/
def O.data : O → Option D
  | .fz d => some d
  | _ => none
theorem O.data_ok {o : O} {d : D} (h : o.data = some d) : o = .fz d := by
  cases o <;> first | (cases h; rfl) | cases h
/-- what stands at a key of a tree: data -/
def ixO (o : O) (k : D) : Option D := match o, k with
  | .fz d, k => gIx d k
  | .lst os, .int i => (atI os i).bind O.data
  | .dK kvs, k => (keyD k).bind fun k => (valD kvs k).bind O.data
  | .dT kvs, .tup ks => (keysD ks).bind fun k => (valD kvs k).bind O.data
  | _, _ => none
theorem valD_getO {κt : Type} [DecidableEq κt] {F : Hp} {κ : Col} {H : Hp} {p : List Nat} {k : κt} : ∀ {n : Nat} {kvs : List (κt × V)} {kos : List (κt × O)}, kvs.map (·.1) = kos.map (·.1) → ROs G F κ H p n (kvs.map (·.2)) (kos.map (·.2)) →
    (∀ o, valD kos k = some o → ∃ v m, valV kvs k = some v ∧ RO G F κ H (p ++ [m]) v o) ∧ (valD kos k = none → valV kvs k = none) := by
  intro n kvs
  induction kvs generalizing n with
  | nil =>
    intro kds h r
    cases kds with
    | nil => exact ⟨fun d e => by simp [valD] at e, fun _ => rfl⟩
    | cons _ _ => simp at h
  | cons kv kvs ih =>
    intro kds h r
    cases kds with
    | nil => simp at h
    | cons kd kds =>
      simp only [List.map_cons, List.cons.injEq] at h
      obtain ⟨k1, v1⟩ := kv
      obtain ⟨k2, d2⟩ := kd
      obtain ⟨h1, h2⟩ := h
      have h1' : k1 = k2 := h1
      subst h1'
      cases r with
      | cons a b =>
        obtain ⟨i1, i2⟩ := ih h2 b
        by_cases hk : k1 = k
        · refine ⟨fun d e => ⟨v1, n, valV_pos (p := (k1, v1)) hk, ?_⟩, fun e => ?_⟩
          · simp [valD, List.find?_cons, hk] at e
            subst e; exact a
          · simp [valD, List.find?_cons, hk] at e
        · have e1 : valD ((k1, d2) :: kds) k = valD kds k := by simp [valD, List.find?_cons, hk]
          rw [e1, valV_neg (p := (k1, v1)) hk]
          exact ⟨i1, i2⟩
/-- x[b], x a name of a tree -/
def dIxV (i : Nat) (h : DF) : DF := fun ρ => match ρ[i]? with
  | some (some _) => (h ρ).bind fun q => match q.2[i]? with
    | some (some o) => (ixO o q.1).map fun d => (d, q.2)
    | _ => none
  | _ => none
theorem ixO_run (hK : G.K = X.K) {F : Hp} {κ : Col} {σ : L2.St} {H : Hp} {ρ : Env'} {p : List Nat} {x y : V} {o : O} {k d : D} {Q : VK} (S : SS G F κ σ H ρ) (r : RO G F κ H p x o) (ry : RD G F y k) (e : ixO o k = some d) (q : ∀ v, RD G F v d → Q v H) : rIxA X.K x y H Q := by
  unfold ixO at e
  split at e
  · cases r with
    | fz r => exact ix_pure hK S r ry e q
  · rename_i os i
    cases q1 : atI os i with
    | none => rw [q1] at e; cases e
    | some o1 =>
      rw [q1] at e
      obtain rfl := O.data_ok e
      cases ry
      cases r with
      | lst c h rs =>
        obtain ⟨j, h1, h2⟩ := atI_len (ROs.length rs) q1
        obtain ⟨v, hv, rv⟩ := ROs.dataAt rs h1
        exact .inl ⟨_, _, _, v, rfl, rfl, .of h, h2 v hv, q v rv⟩
  · rename_i kvs
    cases q1 : keyD k with
    | none => rw [q1] at e; cases e
    | some kk =>
      rw [q1] at e
      simp only [Option.bind_some] at e
      cases q2 : valD kvs kk with
      | none => rw [q2] at e; cases e
      | some o1 =>
        rw [q2] at e
        obtain rfl := O.data_ok e
        cases r with
        | dK c h m rs =>
          obtain ⟨v, mm, hv, rv⟩ := (valD_getO m rs).1 _ q2
          cases rv with
          | fz rv =>
            refine .inr (.inr (.inr ⟨_, v, rfl, ?_, q v rv⟩))
            rw [keyD_ok q1 ry, ← hv]
            exact .k h
  · rename_i kvs ks
    cases q1 : keysD ks with
    | none => rw [q1] at e; cases e
    | some kk =>
      rw [q1] at e
      simp only [Option.bind_some] at e
      cases q2 : valD kvs kk with
      | none => rw [q2] at e; cases e
      | some o1 =>
        rw [q2] at e
        obtain rfl := O.data_ok e
        cases r with
        | dT c h m rs =>
          obtain ⟨v, mm, hv, rv⟩ := (valD_getO m rs).1 _ q2
          cases rv with
          | fz rv =>
            cases ry with
            | tup s2 r2 =>
              refine .inr (.inr (.inr ⟨_, v, rfl, ?_, q v rv⟩))
              have h2 := keysD_ok r2 q1
              subst h2
              rw [← hv]
              exact .t h (S.tupF s2)
  · cases e
theorem vx_ixv {i : Nat} {h : DF} (hK : G.K = X.K) (hu : X.A.units + 1 < cLine) (ha : PE X a (tVar i)) (hb : VX G X b h) (hs : PlainIx b) : VX G X (.Subscript a b pos) (dIxV i h) := peImp (pe_ix (ix_all hu) ha hb hs) fun σ H Q ⟨F, κ, ρ, d, ρ', S, q, k⟩ => by
  unfold dIxV at q
  split at q
  · rename_i o0 e0
    obtain ⟨v, hv, _⟩ := S.slots i _ e0
    cases q1 : h ρ with
    | none => rw [q1] at q; cases q
    | some p =>
      obtain ⟨kd, ρ1⟩ := p
      rw [q1] at q
      simp only [Option.bind_some] at q
      split at q
      · rename_i o e1
        cases q2 : ixO o kd with
        | none => rw [q2] at q; cases q
        | some d' =>
          rw [q2] at q
          cases q
          refine ⟨v, hv, F, κ, ρ, kd, _, S, q1, fun y F1 κ1 H1 S1 s1 ry => ?_⟩
          obtain ⟨v', hv', r⟩ := S1.slots i _ e1
          rw [hv] at hv'; cases hv'
          exact ixO_run hK S1 r ry q2 fun w rw' => k w F1 κ1 H1 S1 s1 rw'
      · cases q
  · cases q
/-- len -/
def gLen : List D → Option D
  | [.lst xs] => some (.int xs.length)
  | [.tup xs] => some (.int xs.length)
  | [.tz xs] => some (.int xs.length)
  | [.scr xs] => some (.int xs.length)
  | [.str x] => if x.length ≤ lim then some (.int x.length) else none
  | [.dK kvs] => some (.int kvs.length)
  | [.dT kvs] => some (.int kvs.length)
  | _ => none
def rLenAll (K : PySem.W.Frag) : List V → Hp → VK → Prop := fun xs H Q => (∃ p ys, xs = [.ref p] ∧ (SqL K H p ys ∨ SqT K H p ys) ∧ Q (.int ys.length) H) ∨ (∃ z, xs = [.str z] ∧ z.length ≤ sizeLine ∧ Q (.int z.length) H) ∨
  (∃ d kvs, xs = [V.ref d] ∧ Rd H d (.dK kvs) ∧ Q (.int kvs.length) H) ∨ (∃ d kvs, xs = [V.ref d] ∧ Rd H d (.dT kvs) ∧ Q (.int kvs.length) H)
theorem call_lenK : CallR X (.builtin "len") (fun xs H Q => ∃ d kvs, xs = [V.ref d] ∧ Rd H d (.dK kvs) ∧ Q (.int kvs.length) H) := by
  intro pins s σ H vs us Q I r q
  obtain ⟨d, kvs, rfl, hd, q⟩ := q
  obtain ⟨u, rfl, ru⟩ := vals1 r
  obtain rfl : u = Value.ref d := ru
  exact d_len I hd fun t s' I' => ⟨.int kvs.length, H, I', ⟨t, rfl⟩, q⟩
theorem call_lenT : CallR X (.builtin "len") (fun xs H Q => ∃ d kvs, xs = [V.ref d] ∧ Rd H d (.dT kvs) ∧ Q (.int kvs.length) H) := by
  intro pins s σ H vs us Q I r q
  obtain ⟨d, kvs, rfl, hd, q⟩ := q
  obtain ⟨u, rfl, ru⟩ := vals1 r
  obtain rfl : u = Value.ref d := ru
  obtain ⟨z, hdm, ys, rel, dd⟩ := dt_rd I.hok hd
  have hl : kvs.length = ys.length := Paired.length rel
  refine call_len_dictH hdm dd (by have := sizeLine_eq; omega) ?_
  rw [← hl]
  exact ⟨.int kvs.length, H, I.tok _, ⟨_, rfl⟩, q⟩
theorem call_lenAll : CallR X (.builtin "len") (rLenAll X.K) := call_len_seq.or (call_len_str.or (call_lenK.or call_lenT))
theorem RDs.one {F : Hp} {vs : List V} {d : D} (r : RDs G F vs [d]) : ∃ v, vs = [v] ∧ RD G F v d := by
  cases r with
  | cons a b => cases b; exact ⟨_, rfl, a⟩
theorem RDs.two {F : Hp} {vs : List V} {d d' : D} (r : RDs G F vs [d, d']) : ∃ v v', vs = [v, v'] ∧ RD G F v d ∧ RD G F v' d' := by
  cases r with
  | cons a b => obtain ⟨w, rfl, r2⟩ := RDs.one b; exact ⟨_, w, rfl, a, r2⟩
theorem does_len (hK : G.K = X.K) : DoesA G (rLenAll X.K) gLen := by
  intro F κ σ H ρ xs as c Q S r e k
  unfold gLen at e
  split at e
  · cases e
    obtain ⟨v, rfl, r1⟩ := RDs.one r
    cases r1 with
    | lst s r => exact .inl ⟨_, _, rfl, .inl (.of (S.lstF s)), by rw [RDs.length r]; exact k.here S (.int _)⟩
  · cases e
    obtain ⟨v, rfl, r1⟩ := RDs.one r
    cases r1 with
    | tup s r => exact .inl ⟨_, _, rfl, .inr (.of (S.tupF s)), by rw [RDs.length r]; exact k.here S (.int _)⟩
  · cases e
    obtain ⟨v, rfl, r1⟩ := RDs.one r
    cases r1 with
    | tz s _ _ r => exact .inl ⟨_, _, rfl, .inr (.inl (.inr ⟨_, S.tzF s⟩)), by rw [RDs.length r]; exact k.here S (.int _)⟩
  · cases e
    obtain ⟨v, rfl, r1⟩ := RDs.one r
    cases r1 with
    | scr s r => exact .inl ⟨_, _, rfl, .inl (by rw [← hK]; exact S.exh.l s), by rw [RDs.length r]; exact k.here S (.int _)⟩
  · split at e
    · rename_i x h
      cases e
      obtain ⟨v, rfl, r1⟩ := RDs.one r
      cases r1
      exact .inr (.inl ⟨_, rfl, lim_le h, k.here S (.int _)⟩)
    · cases e
  · rename_i kds
    cases e
    obtain ⟨v, rfl, r1⟩ := RDs.one r
    cases r1 with
    | @dK _ kvs _ s m r =>
      have hl : kvs.length = kds.length := by have := congrArg List.length m; simpa using this
      exact .inr (.inr (.inl ⟨_, kvs, rfl, S.exh.rd s, by rw [hl]; exact k.here S (.int _)⟩))
  · rename_i kds
    cases e
    obtain ⟨v, rfl, r1⟩ := RDs.one r
    cases r1 with
    | @dT _ kvs _ s m r =>
      have hl : kvs.length = kds.length := by have := congrArg List.length m; simpa using this
      exact .inr (.inr (.inr ⟨_, kvs, rfl, S.exh.rd s, by rw [hl]; exact k.here S (.int _)⟩))
  · cases e
/-- len(x), x a name of a tree -/
def lenO : O → Option Int
  | .fz (.lst xs) => some xs.length
  | .fz (.tup xs) => some xs.length
  | .fz (.tz xs) => some xs.length
  | .lst os => some os.length
  | .dK kvs => some kvs.length
  | .dT kvs => some kvs.length
  | _ => none
def dLenV (i : Nat) : DF := fun ρ => match ρ[i]? with
  | some (some o) => (lenO o).map fun n => (.int n, ρ)
  | _ => none
theorem vx_lenv {i : Nat} {p : Pos} (ha : PE X a (tVar i)) (hg : Gl X "len") (hm : X.mg "len" = none)
    (he : starEach [a] X.env = (false, eval a X.env) :: starEach [] X.env := by rfl) (hpl : (backTo pos (starEach [] X.env)).any (·.1) = false := by rfl) : VX G X (.Call (.Name "len" p) [a] [] pos) (dLenV i) :=
  peImp (pe_callB call_lenAll hg hm PySem.boot_len (pa_cons ha pa_nil he) (by decide) (by decide) he hpl) fun σ H Q ⟨F, κ, ρ, d, ρ', S, q, k⟩ => by
    unfold dLenV at q
    split at q
    · rename_i o e1
      obtain ⟨v, hv, r⟩ := S.slots i _ e1
      cases q2 : lenO o with
      | none => rw [q2] at q; cases q
      | some n =>
        rw [q2] at q
        cases q
        refine ⟨v, hv, ?_⟩
        unfold lenO at q2
        split at q2
        · cases q2
          cases r with
          | fz r => cases r with
            | lst s r => exact .inl ⟨_, _, rfl, .inl (.of (S.lstF s)), by rw [RDs.length r]; exact k _ F κ H S .refl (.int _)⟩
        · cases q2
          cases r with
          | fz r => cases r with
            | tup s r => exact .inl ⟨_, _, rfl, .inr (.of (S.tupF s)), by rw [RDs.length r]; exact k _ F κ H S .refl (.int _)⟩
        · cases q2
          cases r with
          | fz r => cases r with
            | tz s _ _ r => exact .inl ⟨_, _, rfl, .inr (.inl (.inr ⟨_, S.tzF s⟩)), by rw [RDs.length r]; exact k _ F κ H S .refl (.int _)⟩
        · cases q2
          cases r with
          | lst c h r => exact .inl ⟨_, _, rfl, .inl (.of h), by rw [ROs.length r]; exact k _ F κ H S .refl (.int _)⟩
        · rename_i kos
          cases q2
          cases r with
          | @dK _ _ kvs _ c h m r =>
            have hl : kvs.length = kos.length := by have := congrArg List.length m; simpa using this
            exact .inr (.inr (.inl ⟨_, kvs, rfl, .inl h, by rw [hl]; exact k _ F κ H S .refl (.int _)⟩))
        · rename_i kos
          cases q2
          cases r with
          | @dT _ _ kvs _ c h m r =>
            have hl : kvs.length = kos.length := by have := congrArg List.length m; simpa using this
            exact .inr (.inr (.inr ⟨_, kvs, rfl, .inl h, by rw [hl]; exact k _ F κ H S .refl (.int _)⟩))
        · cases q2
    · cases q

/-! ### in, not in -/
def rInDT (K : PySem.W.Frag) : R2 := fun x y H Q => ∃ d ds, Dp K H x d ∧ Dp K H y (.tuple ds) ∧ SeqAt.shaped d = true ∧ SeqAt.shaped (.tuple ds) = true ∧ Q (.bl (ds.any fun z => PyData.eqv z d)) H
def rNotInDT (K : PySem.W.Frag) : R2 := fun x y H Q => ∃ d ds, Dp K H x d ∧ Dp K H y (.tuple ds) ∧ SeqAt.shaped d = true ∧ SeqAt.shaped (.tuple ds) = true ∧ Q (.bl (!ds.any fun z => PyData.eqv z d)) H
theorem op_inDT (hu : X.A.units + 65 < cLine) : OpR X (compareOp .In) (rInDT X.K) := by
  intro pins s σ H x y v u Q I rx ry ⟨d, ds, hd, he, sd, se, q⟩
  obtain ⟨as, r1⟩ := Dp.reads I d x v hd rx
  obtain ⟨bs, r2⟩ := Dp.reads I (.tuple ds) y u he ry
  exact SeqAt.in_tuple_reads r2 r1 (SeqAt.canLay_of_shaped se) (SeqAt.canLay_of_shaped sd) (room_in_shaped sd hu) ⟨.bl _, H, I, rfl, q⟩
theorem op_notInDT (hu : X.A.units + 65 < cLine) : OpR X (compareOp .NotIn) (rNotInDT X.K) := by
  intro pins s σ H x y v u Q I rx ry ⟨d, ds, hd, he, sd, se, q⟩
  obtain ⟨as, r1⟩ := Dp.reads I d x v hd rx
  obtain ⟨bs, r2⟩ := Dp.reads I (.tuple ds) y u he ry
  exact SeqAt.notIn_tuple_reads r2 r1 (SeqAt.canLay_of_shaped se) (SeqAt.canLay_of_shaped sd) (room_in_shaped sd hu) ⟨.bl _, H, I, rfl, q⟩
/-- a dict's key -/
def keyOf (kd : D) : Option (Key ⊕ List Key) := match kd with
  | .int i => some (.inl (.inl i))
  | .str x => some (.inl (.inr x))
  | .tup ds => (keysD ds).map .inr
  | _ => none
def rInK (neg : Bool) : R2 := fun y x H Q => ∃ a o, x = .ref a ∧ DGet H a y o ∧ Q (.bl (if neg then !o.isSome else o.isSome)) H
theorem op_inK (hu : X.A.units + 1 < cLine) : OpR X (compareOp .In) (rInK false) := by
  intro pins s σ H x y v u Q I rx ry ⟨a, o, ey, g, q⟩
  subst ey
  obtain rfl : u = Value.ref a := ry
  exact d_in hu I g rx fun s' I' => ⟨.bl _, H, I', rfl, q⟩
theorem op_notInK (hu : X.A.units + 1 < cLine) : OpR X (compareOp .NotIn) (rInK true) := by
  intro pins s σ H x y v u Q I rx ry ⟨a, o, ey, g, q⟩
  subst ey
  obtain rfl : u = Value.ref a := ry
  exact d_notIn hu I g rx fun s' I' => ⟨.bl _, H, I', rfl, q⟩
def rInAll (K : PySem.W.Frag) : R2 := fun x y H Q => rInD K x y H Q ∨ rInDT K x y H Q ∨ rInK false x y H Q
def rNotInAll (K : PySem.W.Frag) : R2 := fun x y H Q => rNotInD K x y H Q ∨ rNotInDT K x y H Q ∨ rInK true x y H Q
theorem op_inAll (hu : X.A.units + 65 < cLine) : OpR X (compareOp .In) (rInAll X.K) := (op_inD hu).or ((op_inDT hu).or (op_inK (by omega)))
theorem op_notInAll (hu : X.A.units + 65 < cLine) : OpR X (compareOp .NotIn) (rNotInAll X.K) := (op_notInD hu).or ((op_notInDT hu).or (op_notInK (by omega)))
/-- x in y -/
def inB (x : D) : D → Option Bool
  | .lst ds => if x.dat = true ∧ (D.lst ds).dat = true then some ((D.pys ds).any fun z => PyData.eqv z x.py) else none
  | .tup ds => if x.dat = true ∧ (D.tup ds).dat = true then some ((D.pys ds).any fun z => PyData.eqv z x.py) else none
  | .dK kvs => (keyD x).map fun k => (valD kvs k).isSome
  | .dT kvs => match x with
    | .tup ks => (keysD ks).map fun k => (valD kvs k).isSome
    | _ => none
  | .tz ds => if x.dat = true ∧ (D.tz ds).dat = true then some ((D.pys ds).any fun z => PyData.eqv z x.py) else none
  | _ => none
def gIn (x y : D) : Option D := (inB x y).map .bl
def gNotIn (x y : D) : Option D := (inB x y).map fun b => .bl (!b)
theorem in_pure {K : PySem.W.Frag} (hK : G.K = K) {F : Hp} {κ : Col} {σ : L2.St} {H : Hp} {ρ : Env'} {x y : V} {a b : D} {c : Bool} (S : SS G F κ σ H ρ) (rx : RD G F x a) (ry : RD G H y b) (e : inB a b = some c) : ∀ Q : VK,
    (Q (.bl c) H → rInAll K x y H Q) ∧ (Q (.bl !c) H → rNotInAll K x y H Q) := by
  intro Q
  unfold inB at e
  split at e
  · split at e
    · rename_i ds h
      cases e
      have hd := (S.rd rx).dp hK h.1
      have he := ry.dp hK h.2
      have h2 : SeqAt.shaped (D.lst ds).py = true := h.2
      rw [D.py] at he h2
      exact ⟨fun q => .inl ⟨_, _, hd, he, h.1, h2, q⟩, fun q => .inl ⟨_, _, hd, he, h.1, h2, q⟩⟩
    · cases e
  · split at e
    · rename_i ds h
      cases e
      have hd := (S.rd rx).dp hK h.1
      have he := ry.dp hK h.2
      have h2 : SeqAt.shaped (D.tup ds).py = true := h.2
      rw [D.py] at he h2
      exact ⟨fun q => .inr (.inl ⟨_, _, hd, he, h.1, h2, q⟩), fun q => .inr (.inl ⟨_, _, hd, he, h.1, h2, q⟩)⟩
    · cases e
  · rename_i kvs
    cases q1 : keyD a with
    | none => rw [q1] at e; cases e
    | some k =>
      rw [q1] at e
      cases e
      cases ry with
      | @dK a1 kvs1 _ s m r =>
        have g : ∃ o, DGet H a1 x o ∧ o.isSome = (valD kvs k).isSome := by
          refine ⟨_, .inl ⟨_, k, s, keyD_ok q1 rx, rfl⟩, ?_⟩
          obtain ⟨i1, i2⟩ := valD_get m r (k := k)
          cases q2 : valD kvs k with
          | none => rw [i2 q2]; rfl
          | some d => obtain ⟨v, hv, _⟩ := i1 d q2; rw [hv]; rfl
        obtain ⟨o, g, eo⟩ := g
        exact ⟨fun q => .inr (.inr ⟨_, o, rfl, g, by rw [eo]; exact q⟩), fun q => .inr (.inr ⟨_, o, rfl, g, by rw [eo]; exact q⟩)⟩
  · rename_i kvs
    split at e
    · rename_i ks
      cases q1 : keysD ks with
      | none => rw [q1] at e; cases e
      | some k =>
        rw [q1] at e
        cases e
        cases rx with
        | tup s1 r1 =>
          cases ry with
          | @dT a1 kvs1 _ s m r =>
            have h2 := keysD_ok r1 q1
            subst h2
            rename_i a2
            have g : ∃ o, DGet H a1 (V.ref a2) o ∧ o.isSome = (valD kvs k).isSome := by
              refine ⟨_, .inr ⟨_, k, _, s, rfl, S.tupF s1, rfl⟩, ?_⟩
              obtain ⟨i1, i2⟩ := valD_get m r (k := k)
              cases q2 : valD kvs k with
              | none => rw [i2 q2]; rfl
              | some d => obtain ⟨v, hv, _⟩ := i1 d q2; rw [hv]; rfl
            obtain ⟨o, g, eo⟩ := g
            exact ⟨fun q => .inr (.inr ⟨_, o, rfl, g, by rw [eo]; exact q⟩), fun q => .inr (.inr ⟨_, o, rfl, g, by rw [eo]; exact q⟩)⟩
    · cases e
  · split at e
    · rename_i ds h
      cases e
      have hd := (S.rd rx).dp hK h.1
      have he := ry.dp hK h.2
      have h2 : SeqAt.shaped (D.tz ds).py = true := h.2
      rw [D.py] at he h2
      exact ⟨fun q => .inr (.inl ⟨_, _, hd, he, h.1, h2, q⟩), fun q => .inr (.inl ⟨_, _, hd, he, h.1, h2, q⟩)⟩
    · cases e
  · cases e
theorem does_in (hK : G.K = X.K) : Does2 G (rInAll X.K) gIn := by
  intro F κ σ H ρ x y a b c Q S rx ry e k
  unfold gIn at e
  cases q : inB a b with
  | none => rw [q] at e; cases e
  | some z => rw [q] at e; cases e; exact (in_pure hK S rx (S.rd ry) q Q).1 (k.here S (.bl _))
theorem does_notIn (hK : G.K = X.K) : Does2 G (rNotInAll X.K) gNotIn := by
  intro F κ σ H ρ x y a b c Q S rx ry e k
  unfold gNotIn at e
  cases q : inB a b with
  | none => rw [q] at e; cases e
  | some z => rw [q] at e; cases e; exact (in_pure hK S rx (S.rd ry) q Q).2 (k.here S (.bl _))
/-- an owned tree as data of the heap as it stands -/
theorem ROx.view {F : Hp} {κ : Col} {H : Hp} (hs : ExH F H) {b p n v o vs os} (h : ROx G F κ H b p n v o vs os) : RDx G H b v (if b then .non else o.freeze) vs (O.freezes os) := by
  induction h with
  | fz h => rw [O.freeze, O.freezes]; exact h.mono hs
  | lst c h _ ih => rw [O.freeze, O.freezes]; exact .lst h ih
  | dK c h m _ ih =>
    simp only [Bool.false_eq_true, if_false, O.freeze, O.freezes]
    exact .dK (.of h) (by rw [m, freezeK_keys]) (by rw [freezeK_vals]; exact ih)
  | dT c h m _ ih =>
    simp only [Bool.false_eq_true, if_false, O.freeze, O.freezes]
    exact .dT (.of h) (by rw [m, freezeT_keys]) (by rw [freezeT_vals]; exact ih)
  | ins c h m _ ih =>
    simp only [Bool.false_eq_true, if_false, O.freeze, O.freezes]
    exact .ins h (by rw [m, freezeS_keys]) (by rw [freezeS_vals]; exact ih)
  | dN c n h m => rw [O.freeze, O.freezes]; exact .dN n h (RDx.mono hs m)
  | nil => rw [O.freezes]; exact .nil
  | cons _ _ ih1 ih2 => rw [O.freezes]; exact .cons ih1 ih2
theorem SS.view {F : Hp} {κ : Col} {σ : L2.St} {H : Hp} {ρ : Env'} {i : Nat} {o : O} (S : SS G F κ σ H ρ) (e : ρ[i]? = some (some o)) : ∃ v, σ[i]? = some (some v) ∧ RD G H v o.freeze := by
  obtain ⟨v, hv, r⟩ := S.slots i o e
  exact ⟨v, hv, ROx.view S.exh r⟩
/-- e in x, x a name of a tree -/
def dInV (neg : Bool) (f : DF) (i : Nat) : DF := fun ρ => (f ρ).bind fun p => match p.2[i]? with
  | some (some o) => (inB p.1 o.freeze).map fun b => (.bl (if neg then !b else b), p.2)
  | _ => none
theorem dInV_run (hK : G.K = X.K) {neg : Bool} {f : DF} {i : Nat} {σ : L2.St} {H : Hp} {Q : VK} (q : tD G (dInV neg f i) σ H Q) : tOp (if neg then rNotInAll X.K else rInAll X.K) (tD G f) (tVar i) σ H Q := by
  obtain ⟨F, κ, ρ, d, ρ', S, q, k⟩ := q
  unfold dInV at q
  cases q1 : f ρ with
  | none => rw [q1] at q; cases q
  | some p =>
    obtain ⟨x, ρ1⟩ := p
    rw [q1] at q
    simp only [Option.bind_some] at q
    split at q
    · rename_i o e1
      cases q2 : inB x o.freeze with
      | none => rw [q2] at q; cases q
      | some b =>
        rw [q2] at q
        cases q
        refine ⟨F, κ, ρ, x, _, S, q1, fun v F1 κ1 H1 S1 s1 r1 => ?_⟩
        obtain ⟨w, hw, rw'⟩ := S1.view e1
        refine ⟨w, hw, ?_⟩
        cases neg with
        | false => exact (in_pure hK S1 r1 rw' q2 Q).1 (k _ F1 κ1 H1 S1 s1 (.bl _))
        | true => exact (in_pure hK S1 r1 rw' q2 Q).2 (k _ F1 κ1 H1 S1 s1 (.bl _))
    · cases q
end
end VL
set_option Elab.async false
set_option linter.all false
set_option maxRecDepth 100000
set_option maxHeartbeats 4000000
namespace VL
open PySem PySem.Spec PyProof.Rows L2
/-! ### min, max, sum of a tuple of ints -/
section
variable {P : Program} {w : World} {A : Around} {E : Value → Shared → Prop} {s : Shared} {t : Addr} {us : List Value} {ns : List Int}
/-- the walk over a tuple of ints, for a function that walks -/
theorem tup_walk {Q : Value → Shared → Prop} (calm : A.handled = none) (tp : s.heap.IsTuple t us.toArray) (hint : IntsAre us ns)
    (h : ∀ (I : Addr) (s₂ : Shared), Walks P w A I [I, t] [I] us.toArray.size (fun (i : Nat) (v : Value) => us.toArray[i]? = some v) (fun i h => h.IsTupleIter I t i ∧ h.IsTuple t us.toArray) → (s₂.heap.IsTupleIter I t 0 ∧ s₂.heap.IsTuple t us.toArray) →
      (∀ b ∈ [I, t], b < s₂.heap.objs.size) → us.toArray.size = ns.length → (∀ (i : Nat) (v : Value), us.toArray[i]? = some v → ∃ k, v = Value.int (ns.getD i 0) k) →
      (∀ h' tk, (∀ b o, b ∉ [I] → s₂.heap.get? b = some o → h'.get? b = some o) → ∃ h2 tk2, ({ s₂ with heap := h', toks := tk } : Shared) = { s with heap := h2, toks := tk2 } ∧ ∀ b o, s.heap.get? b = some o → h2.get? b = some o) → Q (.ref I) s₂) :
    wpAny (model P w) A (pyIter (.ref t)) Q E s := by
  have lt : t < s.heap.objs.size := by obtain ⟨o, ho, _⟩ := tp; exact Heap.lt_size ho
  have len : us.length = ns.length := hint.length
  refine wpAny_pyIter_tuple tp (h s.heap.objs.size _ (Walks.tuple calm _ t (Nat.ne_of_lt lt) us.toArray) ⟨⟨_, Heap.get?_push_size _ rfl, rfl, rfl⟩, tp.push _⟩ (fun b hb => ?_) (by rw [List.size_toArray, len]) (fun i v hv => hint.int_at i v (by simpa using hv)) fun h' tk k => ⟨h', tk, rfl, fun b o e => k b o (fun hm => ?_) (Heap.get?_push_of_some _ e)⟩)
  · rw [Heap.size_push]
    rcases List.mem_cons.mp hb with e | e
    · rw [e]; exact Nat.lt_succ_self _
    · rw [List.mem_singleton.mp e]; exact Nat.lt_succ_of_lt lt
  · rw [List.mem_singleton.mp hm] at e
    exact absurd (Heap.lt_size e) (Nat.lt_irrefl _)
end

section
variable {X : Cx}
theorem getD_mem' {ns : List Int} {i : Nat} (h : i < ns.length) : ns.getD i 0 ∈ ns := by
  rw [List.getD_eq_getElem?_getD, List.getElem?_eq_getElem h]
  exact List.getElem_mem h
theorem mem_getD' {ns : List Int} {y : Int} (h : y ∈ ns) : ∃ i, i < ns.length ∧ ns.getD i 0 = y := by
  obtain ⟨i, hi, e⟩ := List.getElem_of_mem h
  exact ⟨i, hi, by rw [List.getD_eq_getElem?_getD, List.getElem?_eq_getElem hi, ← e]; rfl⟩
def rMinT (K : PySem.W.Frag) : List V → Hp → VK → Prop := fun vs H Q => ∃ (a : Addr) (ns : List Int), vs = [V.ref a] ∧ SqT K H a (ns.map V.int) ∧ 0 < ns.length ∧ ∀ m, m ∈ ns → (∀ y, y ∈ ns → m ≤ y) → Q (.int m) H
def rMaxT (K : PySem.W.Frag) : List V → Hp → VK → Prop := fun vs H Q => ∃ (a : Addr) (ns : List Int), vs = [V.ref a] ∧ SqT K H a (ns.map V.int) ∧ 0 < ns.length ∧ ∀ m, m ∈ ns → (∀ y, y ∈ ns → y ≤ m) → Q (.int m) H
theorem call_minT (hc : X.calm = true) : CallR X (.builtin "min") (rMinT X.K) := by
  intro pins s σ H vs us Q I r h
  obtain ⟨a, ns, rfl, hs, hne, q⟩ := h
  obtain ⟨its, rv, tp, _⟩ := I.tuple hs
  rw [Vals.ref1 r]
  refine call_min_walk (tup_walk (A := X.A.in1) (I.ok.hd hc) tp rv.ints fun J s₂ W st lt sz val back => ⟨_, _, _, _, _, _, _, rfl, W, st, lt, by rw [sz]; exact hne, CmpOf.ints_lt (fun i => ns.getD i 0) val, fun v h' tk hP hk => ?_⟩)
  obtain ⟨h2, tk2, e, k2⟩ := back h' tk hk
  rw [e]
  obtain ⟨k, rfl⟩ := val _ _ hP
  obtain ⟨b1, b2⟩ := argBest_lt (fun i => ns.getD i 0) (its.toArray.size - 1)
  refine ⟨.int _, H, I.kept k2, ⟨_, rfl⟩, q _ (getD_mem' (by omega)) fun y hy => ?_⟩
  obtain ⟨i, hi, rfl⟩ := mem_getD' hy
  exact b2 i (by omega)
theorem call_maxT (hc : X.calm = true) : CallR X (.builtin "max") (rMaxT X.K) := by
  intro pins s σ H vs us Q I r h
  obtain ⟨a, ns, rfl, hs, hne, q⟩ := h
  obtain ⟨its, rv, tp, _⟩ := I.tuple hs
  rw [Vals.ref1 r]
  refine call_max_walk (tup_walk (A := X.A.in1) (I.ok.hd hc) tp rv.ints fun J s₂ W st lt sz val back => ⟨_, _, _, _, _, _, _, rfl, W, st, lt, by rw [sz]; exact hne, CmpOf.ints_gt (fun i => ns.getD i 0) val, fun v h' tk hP hk => ?_⟩)
  obtain ⟨h2, tk2, e, k2⟩ := back h' tk hk
  rw [e]
  obtain ⟨k, rfl⟩ := val _ _ hP
  obtain ⟨b1, b2⟩ := argBest_gt (fun i => ns.getD i 0) (its.toArray.size - 1)
  refine ⟨.int _, H, I.kept k2, ⟨_, rfl⟩, q _ (getD_mem' (by omega)) fun y hy => ?_⟩
  obtain ⟨i, hi, rfl⟩ := mem_getD' hy
  exact b2 i (by omega)
end
end VL
set_option Elab.async false
set_option linter.all false
set_option maxRecDepth 100000
set_option maxHeartbeats 4000000
namespace VL
open PySem PySem.Spec PyProof.Rows L2
section
variable {G : Gx} {X : Cx} {e a b c : Expr} {es : List Expr} {pos : Pos}
/-! ### list(..), tuple(..), numbers -/
def seqD : D → Option (List D)
  | .lst xs => some xs
  | .tup xs => some xs
  | .scr xs => some xs
  | _ => none
def gTuple : List D → Option D
  | [d] => (seqD d).map fun xs => .tup xs
  | _ => none
theorem seqD_run {K : PySem.W.Frag} (hK : G.K = K) {F : Hp} {κ : Col} {σ : L2.St} {H : Hp} {ρ : Env'} {v : V} {d : D} {xs : List D} (S : SS G F κ σ H ρ) (r : RD G F v d) (e : seqD d = some xs) :
    ∃ p ys, v = .ref p ∧ RDs G F ys xs ∧ (SqL K H p ys ∨ (SqT K H p ys ∧ d = .tup xs ∧ F p = some (.tup ys))) := by
  unfold seqD at e
  split at e
  · cases e; cases r with
    | lst s r => exact ⟨_, _, rfl, r, .inl (.of (S.lstF s))⟩
  · cases e; cases r with
    | tup s r => exact ⟨_, _, rfl, r, .inr ⟨.of (S.tupF s), rfl, s⟩⟩
  · cases e; cases r with
    | scr s r => exact ⟨_, _, rfl, r, .inl (by rw [← hK]; exact S.exh.l s)⟩
  · cases e
theorem does_tuple (hK : G.K = X.K) : DoesA G (fun xs H Q => ∃ p ys, xs = [.ref p] ∧ ((SqL X.K H p ys ∧ ∀ l, H l = none → Q (.ref l) (upd H l (.tup ys))) ∨ (SqT X.K H p ys ∧ Q (.ref p) H))) gTuple := by
  intro F κ σ H ρ xs as c Q S r e k
  unfold gTuple at e
  split at e
  · rename_i d
    cases q : seqD d with
    | none => rw [q] at e; cases e
    | some ds =>
      rw [q] at e
      cases e
      obtain ⟨v, rfl, r1⟩ := RDs.one r
      obtain ⟨p, ys, rfl, rs, h⟩ := seqD_run hK S r1 q
      rcases h with h | ⟨h, rfl, hF⟩
      · exact ⟨p, ys, rfl, .inl ⟨h, fun l hl => k.newT S rs hl⟩⟩
      · exact ⟨p, ys, rfl, .inr ⟨h, k.here S (.tup hF rs)⟩⟩
  · cases e
def rgOk (a b : Int) : Bool := decide (a ≤ big ∧ -big ≤ a ∧ b ≤ big ∧ -big ≤ b)
theorem rgOk_ok {a b : Int} (h : rgOk a b = true) : RgOk a b := by
  unfold rgOk at h
  have := of_decide_eq_true h
  unfold big at this
  exact ⟨by omega, by omega, by omega, by omega, by omega⟩
theorem rg_rds {F : Hp} (a b : Int) : RDs G F (rgV a b) (rgD a (b - a).toNat) := by
  unfold rgV rgD
  have : ∀ l : List Nat, RDs G F (l.map fun i => V.int (a + (i : Nat))) (l.map fun i => D.int (a + (i : Nat))) := by
    intro l
    induction l with
    | nil => exact .nil
    | cons x xs ih => exact .cons (.int _) ih
  exact this _
def nListR1 (f : DF) : OF := fun ρ => (f ρ).bind fun p => match p.1 with
  | .int n => if rgOk 0 n = true then some (.lst ((rgD 0 n.toNat).map .fz), p.2) else none
  | _ => none
def dTupR1 (f : DF) : DF := fun ρ => (f ρ).bind fun p => match p.1 with
  | .int n => if rgOk 0 n = true then some (.tup (rgD 0 n.toNat), p.2) else none
  | _ => none
theorem vn_listR1 {f : DF} {p p2 pos2 : Pos} (hc : X.calm = true) (hg : Gl X "list") (hm : X.mg "list" = none) (hg2 : Gl X "range") (hm2 : X.mg "range" = none) (ha : VX G X a f)
    (na : starEach [Expr.Call (.Name "range" p2) [a] [] pos2] X.env = (false, eval (Expr.Call (.Name "range" p2) [a] [] pos2) X.env) :: starEach [] X.env := by rfl) (nb : starEach [a] X.env = (false, eval a X.env) :: starEach [] X.env := by rfl) :
    VN G X (.Call (.Name "list" p) [.Call (.Name "range" p2) [a] [] pos2] [] pos) (nListR1 f) := peImp (pe_listRg hc hg hm (prg_1 hg2 hm2 ha nb) na) fun σ H Q ⟨F, κ, ρ, d, ρ', S, q, k⟩ => by
  unfold nListR1 at q
  cases q1 : f ρ with
  | none => rw [q1] at q; cases q
  | some p =>
    obtain ⟨d, ρ1⟩ := p
    rw [q1] at q
    simp only [Option.bind_some] at q
    split at q
    · rename_i n
      split at q
      · rename_i hn
        cases q
        refine ⟨F, κ, ρ, _, _, S, q1, fun v F1 κ1 H1 S1 s1 r1 => ⟨n, r1.int_inv, rgOk_ok hn, fun l hl => ?_⟩⟩
        have := rg_rds (G := G) (F := F1) 0 n
        rw [Int.sub_zero] at this
        exact GivesN.newL (fun v F2 κ2 H2 κt S2 s2 r2 ht => k v F2 κ2 H2 κt S2 (s1.trans s2) r2 fun a p z => ⟨tn_step s1 (ht a p z).1, (ht a p z).2⟩) S1 this hl
      · cases q
    · cases q
theorem vx_tupR1 {f : DF} {p p2 pos2 : Pos} (hc : X.calm = true) (hg : Gl X "tuple") (hm : X.mg "tuple" = none) (hg2 : Gl X "range") (hm2 : X.mg "range" = none) (ha : VX G X a f)
    (na : starEach [Expr.Call (.Name "range" p2) [a] [] pos2] X.env = (false, eval (Expr.Call (.Name "range" p2) [a] [] pos2) X.env) :: starEach [] X.env := by rfl) (nb : starEach [a] X.env = (false, eval a X.env) :: starEach [] X.env := by rfl) :
    VX G X (.Call (.Name "tuple" p) [.Call (.Name "range" p2) [a] [] pos2] [] pos) (dTupR1 f) := peImp (pe_tupRg hc hg hm (prg_1 hg2 hm2 ha nb) na) fun σ H Q ⟨F, κ, ρ, d, ρ', S, q, k⟩ => by
  unfold dTupR1 at q
  cases q1 : f ρ with
  | none => rw [q1] at q; cases q
  | some p =>
    obtain ⟨d, ρ1⟩ := p
    rw [q1] at q
    simp only [Option.bind_some] at q
    split at q
    · rename_i n
      split at q
      · rename_i hn
        cases q
        refine ⟨F, κ, ρ, _, _, S, q1, fun v F1 κ1 H1 S1 s1 r1 => ⟨n, r1.int_inv, rgOk_ok hn, fun l hl => ?_⟩⟩
        have := rg_rds (G := G) (F := F1) 0 n
        rw [Int.sub_zero] at this
        exact Gives.newT (fun v F2 κ2 H2 S2 s2 r2 => k v F2 κ2 H2 S2 (s1.trans s2) r2) S1 this hl
      · cases q
    · cases q
/-- max, min of two, of a list of ints -/
def intsD : List D → Option (List Int)
  | [] => some []
  | d :: ds => d.toInt.bind fun i => (intsD ds).map fun r => i :: r
theorem intsD_ok : ∀ {ds : List D} {ns : List Int}, intsD ds = some ns → ds = ns.map .int
  | [], ns, h => by cases h; rfl
  | d :: ds, ns, h => by
    unfold intsD at h
    cases q : d.toInt with
    | none => rw [q] at h; cases h
    | some i =>
      rw [q] at h
      cases q2 : intsD ds with
      | none => rw [q2] at h; cases h
      | some r =>
        rw [q2] at h
        cases h
        rw [D.toInt_ok q, intsD_ok q2]; rfl
theorem rds_ints {F : Hp} : ∀ {vs : List V} {ns : List Int}, RDs G F vs (ns.map .int) → vs = ns.map V.int := by
  intro vs ns h
  induction ns generalizing vs with
  | nil => cases h; rfl
  | cons n ns ih => cases h with | cons a b => cases a; rw [ih b]; rfl
theorem ints_rds {F : Hp} : ∀ (ns : List Int), RDs G F (ns.map V.int) (ns.map .int)
  | [] => .nil
  | n :: ns => .cons (.int n) (ints_rds ns)
def maxI : List Int → Option Int
  | [] => none
  | n :: ns => some (ns.foldl max n)
def minI : List Int → Option Int
  | [] => none
  | n :: ns => some (ns.foldl min n)
theorem foldl_max : ∀ (ns : List Int) (n : Int), (ns.foldl max n = n ∨ ns.foldl max n ∈ ns) ∧ n ≤ ns.foldl max n ∧ ∀ y ∈ ns, y ≤ ns.foldl max n
  | [], n => ⟨.inl rfl, Int.le_refl _, fun y h => by cases h⟩
  | m :: ns, n => by
    obtain ⟨h1, h2, h3⟩ := foldl_max ns (max n m)
    refine ⟨?_, by rw [List.foldl_cons]; omega, fun y hy => ?_⟩
    · rw [List.foldl_cons]
      rcases h1 with h1 | h1
      · rcases Int.le_total n m with h | h
        · right; rw [h1, Int.max_eq_right h]; exact List.mem_cons_self
        · left; rw [h1, Int.max_eq_left h]
      · right; exact List.mem_cons_of_mem _ h1
    · rw [List.foldl_cons]
      rcases List.mem_cons.mp hy with rfl | hy
      · omega
      · exact h3 y hy
theorem foldl_min : ∀ (ns : List Int) (n : Int), (ns.foldl min n = n ∨ ns.foldl min n ∈ ns) ∧ ns.foldl min n ≤ n ∧ ∀ y ∈ ns, ns.foldl min n ≤ y
  | [], n => ⟨.inl rfl, Int.le_refl _, fun y h => by cases h⟩
  | m :: ns, n => by
    obtain ⟨h1, h2, h3⟩ := foldl_min ns (min n m)
    refine ⟨?_, by rw [List.foldl_cons]; omega, fun y hy => ?_⟩
    · rw [List.foldl_cons]
      rcases h1 with h1 | h1
      · rcases Int.le_total n m with h | h
        · left; rw [h1, Int.min_eq_left h]
        · right; rw [h1, Int.min_eq_right h]; exact List.mem_cons_self
      · right; exact List.mem_cons_of_mem _ h1
    · rw [List.foldl_cons]
      rcases List.mem_cons.mp hy with rfl | hy
      · omega
      · exact h3 y hy
theorem maxI_is {ns : List Int} {m : Int} (h : maxI ns = some m) : m ∈ ns ∧ ∀ y ∈ ns, y ≤ m := by
  cases ns with
  | nil => cases h
  | cons n ns =>
    cases h
    obtain ⟨h1, h2, h3⟩ := foldl_max ns n
    refine ⟨h1.elim (fun e => by rw [e]; exact List.mem_cons_self) (List.mem_cons_of_mem _), fun y hy => ?_⟩
    rcases List.mem_cons.mp hy with rfl | hy
    · exact h2
    · exact h3 y hy
theorem minI_is {ns : List Int} {m : Int} (h : minI ns = some m) : m ∈ ns ∧ ∀ y ∈ ns, m ≤ y := by
  cases ns with
  | nil => cases h
  | cons n ns =>
    cases h
    obtain ⟨h1, h2, h3⟩ := foldl_min ns n
    refine ⟨h1.elim (fun e => by rw [e]; exact List.mem_cons_self) (List.mem_cons_of_mem _), fun y hy => ?_⟩
    rcases List.mem_cons.mp hy with rfl | hy
    · exact h2
    · exact h3 y hy
def gMax : List D → Option D
  | [.int i, .int j] => some (.int (if j > i then j else i))
  | [.lst ds] => (intsD ds).bind fun ns => (maxI ns).map .int
  | [.tup ds] => (intsD ds).bind fun ns => (maxI ns).map .int
  | _ => none
def gMin : List D → Option D
  | [.int i, .int j] => some (.int (if j < i then j else i))
  | [.lst ds] => (intsD ds).bind fun ns => (minI ns).map .int
  | [.tup ds] => (intsD ds).bind fun ns => (minI ns).map .int
  | _ => none
def rMaxA (K : PySem.W.Frag) : List V → Hp → VK → Prop := fun xs H Q => (∃ i j, xs = [.int i, .int j] ∧ Q (.int (if j > i then j else i)) H) ∨ rMax K xs H Q ∨ rMaxT K xs H Q
def rMinA (K : PySem.W.Frag) : List V → Hp → VK → Prop := fun xs H Q => (∃ i j, xs = [.int i, .int j] ∧ Q (.int (if j < i then j else i)) H) ∨ rMin K xs H Q ∨ rMinT K xs H Q
theorem call_maxA (hc : X.calm = true) : CallR X (.builtin "max") (rMaxA X.K) := (call_max2 hc).or ((cr_max hc).or (call_maxT hc))
theorem call_minA (hc : X.calm = true) : CallR X (.builtin "min") (rMinA X.K) := (call_min2 hc).or ((cr_min hc).or (call_minT hc))
theorem does_max : DoesA G (rMaxA X.K) gMax := by
  intro F κ σ H ρ xs as c Q S r e k
  unfold gMax at e
  split at e
  · cases e
    exact .inl ⟨_, _, RDs.two_int r, k.here S (.int _)⟩
  · rename_i ds
    cases q : intsD ds with
    | none => rw [q] at e; cases e
    | some ns =>
      rw [q] at e
      simp only [Option.bind_some] at e
      cases q2 : maxI ns with
      | none => rw [q2] at e; cases e
      | some m =>
        rw [q2] at e
        cases e
        obtain rfl := intsD_ok q
        obtain ⟨v, rfl, r1⟩ := RDs.one r
        cases r1 with
        | lst s r2 =>
          obtain rfl := rds_ints r2
          obtain ⟨h1, h2⟩ := maxI_is q2
          refine .inr (.inl ⟨_, ns, rfl, .of (S.lstF s), List.length_pos_of_mem h1, fun m' h3 h4 => ?_⟩)
          have : m' = m := Int.le_antisymm (h2 m' h3) (h4 m h1)
          rw [this]
          exact k.here S (.int _)
  · rename_i ds
    cases q : intsD ds with
    | none => rw [q] at e; cases e
    | some ns =>
      rw [q] at e
      simp only [Option.bind_some] at e
      cases q2 : maxI ns with
      | none => rw [q2] at e; cases e
      | some m =>
        rw [q2] at e
        cases e
        obtain rfl := intsD_ok q
        obtain ⟨v, rfl, r1⟩ := RDs.one r
        cases r1 with
        | tup s r2 =>
          obtain rfl := rds_ints r2
          obtain ⟨h1, h2⟩ := maxI_is q2
          refine .inr (.inr ⟨_, ns, rfl, .of (S.tupF s), List.length_pos_of_mem h1, fun m' h3 h4 => ?_⟩)
          have : m' = m := Int.le_antisymm (h2 m' h3) (h4 m h1)
          rw [this]
          exact k.here S (.int _)
  · cases e
theorem does_min : DoesA G (rMinA X.K) gMin := by
  intro F κ σ H ρ xs as c Q S r e k
  unfold gMin at e
  split at e
  · cases e
    exact .inl ⟨_, _, RDs.two_int r, k.here S (.int _)⟩
  · rename_i ds
    cases q : intsD ds with
    | none => rw [q] at e; cases e
    | some ns =>
      rw [q] at e
      simp only [Option.bind_some] at e
      cases q2 : minI ns with
      | none => rw [q2] at e; cases e
      | some m =>
        rw [q2] at e
        cases e
        obtain rfl := intsD_ok q
        obtain ⟨v, rfl, r1⟩ := RDs.one r
        cases r1 with
        | lst s r2 =>
          obtain rfl := rds_ints r2
          obtain ⟨h1, h2⟩ := minI_is q2
          refine .inr (.inl ⟨_, ns, rfl, .of (S.lstF s), List.length_pos_of_mem h1, fun m' h3 h4 => ?_⟩)
          have : m' = m := Int.le_antisymm (h4 m h1) (h2 m' h3)
          rw [this]
          exact k.here S (.int _)
  · rename_i ds
    cases q : intsD ds with
    | none => rw [q] at e; cases e
    | some ns =>
      rw [q] at e
      simp only [Option.bind_some] at e
      cases q2 : minI ns with
      | none => rw [q2] at e; cases e
      | some m =>
        rw [q2] at e
        cases e
        obtain rfl := intsD_ok q
        obtain ⟨v, rfl, r1⟩ := RDs.one r
        cases r1 with
        | tup s r2 =>
          obtain rfl := rds_ints r2
          obtain ⟨h1, h2⟩ := minI_is q2
          refine .inr (.inr ⟨_, ns, rfl, .of (S.tupF s), List.length_pos_of_mem h1, fun m' h3 h4 => ?_⟩)
          have : m' = m := Int.le_antisymm (h4 m h1) (h2 m' h3)
          rw [this]
          exact k.here S (.int _)
  · cases e
/-- all, any of a list of truths -/
def blsD : List D → Option (List Bool)
  | [] => some []
  | d :: ds => d.truth.bind fun i => (blsD ds).map fun r => i :: r
theorem blsD_ok : ∀ {ds : List D} {ns : List Bool}, blsD ds = some ns → ds = ns.map .bl
  | [], ns, h => by cases h; rfl
  | d :: ds, ns, h => by
    unfold blsD at h
    cases q : d.truth with
    | none => rw [q] at h; cases h
    | some i =>
      rw [q] at h
      cases q2 : blsD ds with
      | none => rw [q2] at h; cases h
      | some r =>
        rw [q2] at h
        cases h
        rw [D.truth_ok q, blsD_ok q2]; rfl
theorem rds_bls {F : Hp} : ∀ {vs : List V} {ns : List Bool}, RDs G F vs (ns.map .bl) → vs = ns.map V.bl := by
  intro vs ns h
  induction ns generalizing vs with
  | nil => cases h; rfl
  | cons n ns ih => cases h with | cons a b => cases a; rw [ih b]; rfl
def gAll : List D → Option D
  | [.lst ds] => (blsD ds).map fun bs => .bl (bs.all id)
  | _ => none
theorem does_all : DoesA G (rAll X.K) gAll := by
  intro F κ σ H ρ xs as c Q S r e k
  unfold gAll at e
  split at e
  · rename_i ds
    cases q : blsD ds with
    | none => rw [q] at e; cases e
    | some bs =>
      rw [q] at e
      cases e
      obtain rfl := blsD_ok q
      obtain ⟨v, rfl, r1⟩ := RDs.one r
      cases r1 with
      | lst s r2 =>
        obtain rfl := rds_bls r2
        exact ⟨_, bs, rfl, .of (S.lstF s), k.here S (.bl _)⟩
  · cases e
end
end VL
set_option Elab.async false
set_option linter.all false
set_option maxRecDepth 100000
set_option maxHeartbeats 4000000
namespace VL
open PySem PySem.Spec PyProof.Rows L2
section
variable {G : Gx} {X : Cx} {e a b c : Expr} {es : List Expr} {pos : Pos}
/-! ### owned lists, by their methods -/
abbrev MFn := List O → List D → Option (D × List O)
def DoesM (G : Gx) (r : V → List V → Hp → VK → Prop) (m : MFn) : Prop := ∀ F κ σ H ρ p l vs os xs ds c os' Q, SS G F κ σ H ρ → κ l = some p → H l = some (.lst vs) → ROs G F κ H p 0 vs os → RDs G F xs ds → m os ds = some (c, os') →
  (∀ v vs', RD G F v c → ROs G F κ (upd H l (.lst vs')) p 0 vs' os' → Q v (upd H l (.lst vs'))) → r (.ref l) xs H Q
theorem tyL {K : PySem.W.Frag} {H : Hp} {l : Addr} {xs : List V} (h : H l = some (.lst xs)) : tyV K "list" (.ref l) H := .inl ⟨rfl, _, .of h⟩
def mApp : MFn := fun os ds => match ds with
  | [d] => if os.length < lim then some (.non, os ++ [.fz d]) else none
  | _ => none
theorem does_app : DoesM G rAppend mApp := by
  intro F κ σ H ρ p l vs os xs ds c os' Q S hk h rs r e k
  unfold mApp at e
  split at e
  · split at e
    · rename_i d hl
      cases e
      obtain ⟨w, rfl, rw'⟩ := RDs.one r
      exact ⟨_, _, w, rfl, rfl, h, by rw [ROs.length rs]; exact lim_lt hl, k _ _ .non ((rs.upd_at hk).append (.cons (.fz rw') .nil))⟩
    · cases e
  · cases e
theorem ROs.dropLast {F : Hp} {κ : Col} {H : Hp} {p : List Nat} : ∀ {n : Nat} {vs : List V} {os : List O}, ROs G F κ H p n vs os → ROs G F κ H p n vs.dropLast os.dropLast := by
  intro n vs os h
  induction os generalizing n vs with
  | nil => cases h; exact .nil
  | cons o os ih =>
    cases h with
    | cons a b =>
      cases os with
      | nil => cases b; exact .nil
      | cons o2 os2 =>
        cases b with
        | cons b1 b2 => exact .cons a (ih (.cons b1 b2))
/-- all items are data -/
def datas : List O → Option (List D)
  | [] => some []
  | o :: os => o.data.bind fun d => (datas os).map fun ds => d :: ds
theorem datas_ok : ∀ {os : List O} {ds : List D}, datas os = some ds → os = ds.map .fz
  | [], ds, h => by cases h; rfl
  | o :: os, ds, h => by
    unfold datas at h
    cases q : o.data with
    | none => rw [q] at h; cases h
    | some d =>
      rw [q] at h
      cases q2 : datas os with
      | none => rw [q2] at h; cases h
      | some r => rw [q2] at h; cases h; rw [O.data_ok q, datas_ok q2]; rfl
theorem datas_fz : ∀ ds : List D, datas (ds.map .fz) = some ds
  | [] => rfl
  | d :: ds => by rw [List.map_cons, datas, datas_fz ds]; rfl
theorem ROs.toD {F : Hp} {κ : Col} {H : Hp} {p : List Nat} : ∀ {n : Nat} {vs : List V} {ds : List D}, ROs G F κ H p n vs (ds.map .fz) → RDs G F vs ds := by
  intro n vs ds h
  induction ds generalizing n vs with
  | nil => cases h; exact .nil
  | cons d ds ih =>
    cases h with
    | cons a b => cases a with | fz a => exact .cons a (ih b)
def mPopAt : MFn := fun os ds => match ds with
  | [.int i] => (datas os).bind fun xs => if -big ≤ i ∧ i ≤ big then (seqIndex? i xs.length).bind fun k => (xs[k]?).map fun d => (d, (xs.eraseIdx k).map .fz) else none
  | _ => none
theorem does_popAt : DoesM G rPopAt mPopAt := by
  intro F κ σ H ρ p l vs os xs ds c os' Q S hk h rs r e k
  unfold mPopAt at e
  split at e
  · rename_i i
    cases q : datas os with
    | none => rw [q] at e; cases e
    | some ys =>
      rw [q] at e
      simp only [Option.bind_some] at e
      split at e
      · rename_i hi
        cases q2 : seqIndex? i ys.length with
        | none => rw [q2] at e; cases e
        | some j =>
          rw [q2] at e
          simp only [Option.bind_some] at e
          cases q3 : ys[j]? with
          | none => rw [q3] at e; cases e
          | some d =>
            rw [q3] at e
            cases e
            obtain rfl := datas_ok q
            have rd := ROs.toD rs
            obtain ⟨v, hv, rv⟩ := RDs.get rd q3
            unfold big at hi
            exact ⟨_, _, i, j, v, rfl, RDs.one_int r, h, by omega, by omega, by rw [RDs.length rd]; exact q2, hv, k _ _ rv (ROs.ofD (RDs.eraseIdx j rd))⟩
      · cases e
  · cases e
/-- x.m(args), x a name that owns a list -/
def dMet (i : Nat) (m : MFn) (f : LF) : DF := fun ρ => match ρ[i]? with
  | some (some (.lst _)) => (f ρ).bind fun q => match q.2[i]? with
    | some (some (.lst os)) => (m os q.1).map fun r => (r.1, q.2.set i (some (.lst r.2)))
    | _ => none
  | _ => none
theorem met_run {i : Nat} {m : MFn} {r : V → List V → Hp → VK → Prop} (dm : DoesM G r m) {f : LF} {σ : L2.St} {H : Hp} {Q : VK} (q : tD G (dMet i m f) σ H Q) : tBM X.K "list" r (tVar i) (tA G f) σ H Q := by
  obtain ⟨F, κ, ρ, d, ρ', S, q, k⟩ := q
  unfold dMet at q
  split at q
  · rename_i os0 e0
    obtain ⟨v, hv, r0⟩ := S.slots i _ e0
    cases q1 : f ρ with
    | none => rw [q1] at q; cases q
    | some p =>
      obtain ⟨ds, ρ1⟩ := p
      rw [q1] at q
      simp only [Option.bind_some] at q
      split at q
      · rename_i os e1
        cases q2 : m os ds with
        | none => rw [q2] at q; cases q
        | some z =>
          obtain ⟨c, os'⟩ := z
          rw [q2] at q
          cases q
          refine ⟨v, hv, by cases r0 with | lst _ h _ => exact tyL h, F, κ, ρ, ds, _, S, q1, fun ws F1 κ1 H1 S1 s1 r1 => ?_⟩
          obtain ⟨v', hv', ro⟩ := S1.slots i _ e1
          rw [hv] at hv'; cases hv'
          cases ro with
          | lst ck h rs =>
            refine dm F1 κ1 σ H1 _ [i] _ _ _ ws ds c os' Q S1 ck h rs r1 q2 fun w vs' rc rs' => ?_
            exact k w F1 κ1 _ (S1.write ck rfl hv (.lst ck upd_same rs')) (s1.trans (.write ck)) rc
      · cases q
  · cases q
theorem vx_met {i : Nat} {m : MFn} {name : Str} {id : String} {r : V → List V → Hp → VK → Prop} (dm : DoesM G r m) {f : LF} {apos : Pos} (slot : Slot "list" name id) (hty : typeOf (.builtin id) = pure (.type "method_descriptor")) (hm : MtR X id r)
    (ha : PE X a (tVar i)) (hb : VA G X (e :: es) f) (hbase : attributeBase a name X.env (eval a X.env) = eval a X.env := by rfl)
    (hfew : ((backTo pos (starEach (e :: es) X.env)).all (fun x => !x.1) && (backToKw pos (keywordEach [] X.env)).all (fun x => x.1.isSome) && decide ((e :: es).length + ([] : List Keyword).length + (if ([] : List Keyword).isEmpty then 0 else 1) < 30)) = true := by rfl)
    (hline : (apos.endLine == pos.line) = true := by rfl) (hs : starEach (e :: es) X.env = (false, eval e X.env) :: starEach es X.env := by rfl) (hplain : (backTo pos (starEach es X.env)).any (·.1) = false := by rfl) :
    VX G X (.Call (.Attribute a name apos) (e :: es) [] pos) (dMet i m f) := peImp (pe_bm PySem.F.plainAttrs_list slot hty hm ha hb hbase hfew hline hs hplain) fun _ _ _ q => met_run dm q
/-! ### a name's tree put aside while something else runs -/
theorem SS.aside {F : Hp} {κ : Col} {σ : L2.St} {H : Hp} {ρ : Env'} {i : Nat} {o : O} (S : SS G F κ σ H ρ) (e : ρ[i]? = some (some o)) : ∃ v, σ[i]? = some (some v) ∧ SS G F (unc κ i) σ H (ρ.set i none) ∧ RO G F (VL.sub κ i) H [] v o ∧
    ∀ a p, VL.sub κ i a = some p → Mo H a ∧ F a = none ∧ unc κ i a = none ∧ κ a ≠ none := by
  obtain ⟨v, hv, r⟩ := S.slots i o e
  refine ⟨v, hv, ⟨S.sub, fun b q z => S.own b q (unc_some z).1, by simp [S.len], fun j u z => ?_, S.tab⟩, r.sub rfl, fun a p z => ?_⟩
  · by_cases hj : j = i
    · subst hj
      have hl : j < ρ.length := (List.getElem?_eq_some_iff.mp e).1
      rw [List.getElem?_set_self hl] at z
      cases z
    · rw [List.getElem?_set_ne (Ne.symm hj)] at z
      obtain ⟨w, hw, r⟩ := S.slots j u z
      exact ⟨w, hw, r.keep (Ex.refl F) (fun b q rq z => unc_keep hj rq z) fun _ _ _ _ _ z => z⟩
  · have z1 := sub_some z
    refine ⟨(S.own a _ z1).2, (S.own a _ z1).1, ?_, by rw [z1]; simp⟩
    unfold unc
    rw [z1]
    exact if_pos rfl
/-- .. and taken back -/
theorem SS.back {F F2 : Hp} {κ κ2 κt : Col} {σ : L2.St} {H H2 : Hp} {ρ2 : Env'} {i : Nat} {o : O} {v : V} (hv : σ[i]? = some (some v)) (r : RO G F κt H [] v o) (ht : ∀ a p, κt a = some p → Mo H a ∧ F a = none ∧ κ a = none)
    (st : Step F κ H F2 κ2 H2) (S2 : SS G F2 κ2 σ H2 ρ2) : SS G F2 (put κ2 i κt) σ H2 (ρ2.set i (some o)) ∧ ∀ a p, κt a = some p → H2 a = H a := by
  have keep : ∀ a p, κt a = some p → H2 a = H a ∧ F2 a = none ∧ κ2 a = none := fun a p z => by
    obtain ⟨h1, h2, h3⟩ := ht a p z
    obtain ⟨u, q, hnt, hnb⟩ := h1.get
    rw [q]
    exact st.looseAt q h2 h3 hnt hnb
  have r2 : RO G F2 κt H2 [] v o := r.mono (fun _ => True) (fun _ _ _ => trivial) (f := id) st.ext (fun _ _ => rfl) (fun _ _ _ z => z) (fun a q u _ c h => by rw [(keep a q c).1]; exact h) trivial
  have S3 := S2.setO (i := i) r2 fun a p z => ⟨(ht a p z).1.eq (keep a p z).1, (keep a p z).2.1, (keep a p z).2.2⟩
  refine ⟨?_, fun a p z => (keep a p z).1⟩
  have : σ.set i (some v) = σ := List.ext_getElem? fun j => by
    by_cases hj : i = j
    · subst hj; rw [List.getElem?_set_self (List.getElem?_eq_some_iff.mp hv).1, hv]
    · rw [List.getElem?_set_ne hj]
  rw [this] at S3
  exact S3
/-- items beside the one that is written -/
theorem ROs.upd_in {F : Hp} {κ : Col} {H : Hp} {p : List Nat} {l : Addr} {u : HO} {m : Nat} : ∀ {n : Nat} {vs : List V} {os : List O}, ROs G F κ H p n vs os → κ l = some (p ++ [m]) → ∀ {v : V} {o : O} {j : Nat}, n + j = m → RO G F κ (upd H l u) (p ++ [m]) v o → vs[j]? = some v → ROs G F κ (upd H l u) p n vs (os.set j o) := by
  intro n vs os h
  induction os generalizing n vs with
  | nil => intro hk v o j _ _ hv; cases h; simp at hv
  | cons o1 os ih =>
    intro hk v o j hm r hv
    cases h with
    | @cons _ _ v1 _ vs1 _ h1 h2 =>
      have beside : ∀ {n' : Nat} {v' : V} {o' : O}, n' ≠ m → RO G F κ H (p ++ [n']) v' o' → RO G F κ (upd H l u) (p ++ [n']) v' o' := fun {n' v' o'} hn r' => by
        refine r'.mono (fun q => ∃ t, q = p ++ [n'] ++ t) (fun q k ⟨t, e⟩ => ⟨t ++ [k], by rw [e, List.append_assoc]⟩) (f := id) (Ex.refl F) (fun _ _ => rfl) (fun _ _ _ z => z) (fun b q w ⟨t, eq⟩ c z => ?_) ⟨[], by simp⟩
        have hb : b ≠ l := fun e => by
          rw [e, hk] at c
          have e2 := Option.some.inj c
          rw [eq, List.append_assoc] at e2
          have e3 := List.append_cancel_left e2
          simp at e3
          exact hn e3.1.symm
        rw [upd_ne hb]; exact z
      cases j with
      | zero =>
        have : n = m := by omega
        subst this
        simp at hv
        subst hv
        refine .cons r ?_
        have all : ∀ {k : Nat} {ws : List V} {us : List O}, n < k → ROs G F κ H p k ws us → ROs G F κ (upd H l u) p k ws us := by
          intro k ws us hk2 hr
          induction us generalizing k ws with
          | nil => cases hr; exact .nil
          | cons u1 us ih2 => cases hr with | cons a b => exact .cons (beside (by omega) a) (ih2 (by omega) b)
        exact all (Nat.lt_succ_self n) h2
      | succ j => exact .cons (beside (by omega) h1) (ih h2 hk (j := j) (by omega) r (by simpa using hv))
/-- x[k].m(args), x a name that owns a list of owned lists; the arguments run while x is put aside -/
def dMetAt (i : Nat) (m : MFn) (h : DF) (f : LF) : DF := fun ρ => match ρ[i]? with
  | some (some (.lst _)) => (h ρ).bind fun p => match p.1, p.2[i]? with
    | .int j, some (some (.lst os)) => match ixN os.length j with
      | some jj => match os[jj]? with
        | some (.lst us) => (f (p.2.set i none)).bind fun q => (m us q.1).map fun r => (r.1, q.2.set i (some (.lst (os.set jj (.lst r.2)))))
        | _ => none
      | none => none
    | _, _ => none
  | _ => none
theorem metAt_run {i : Nat} {m : MFn} {r : V → List V → Hp → VK → Prop} (dm : DoesM G r m) {h : DF} {f : LF} {σ : L2.St} {H : Hp} {Q : VK} (q : tD G (dMetAt i m h f) σ H Q) : tBM X.K "list" r (tOp (rIxL X.K) (tVar i) (tD G h)) (tA G f) σ H Q := by
  obtain ⟨F0, κ0, ρ0, d, ρ', S0, q, k⟩ := q
  unfold dMetAt at q
  split at q
  · rename_i os0 e0
    obtain ⟨v, hv, r0⟩ := S0.slots i _ e0
    cases q1 : h ρ0 with
    | none => rw [q1] at q; cases q
    | some p =>
      obtain ⟨kd, ρ⟩ := p
      rw [q1] at q
      simp only [Option.bind_some] at q
      split at q
      · rename_i j os e1
        split at q
        · rename_i jj ej
          split at q
          · rename_i us eu
            cases q2 : f (ρ.set i none) with
            | none => rw [q2] at q; cases q
            | some z =>
              obtain ⟨ds, ρ2⟩ := z
              rw [q2] at q
              simp only [Option.bind_some] at q
              cases q3 : m us ds with
              | none => rw [q3] at q; cases q
              | some z =>
                obtain ⟨c, us'⟩ := z
                rw [q3] at q
                cases q
                refine ⟨v, hv, F0, κ0, ρ0, _, ρ, S0, q1, fun y F κ H1 S s0 ry => ?_⟩
                obtain ⟨v', hv', S1, rt, ht⟩ := S.aside e1
                rw [hv] at hv'; cases hv'
                cases rt with
                | @lst _ l vs _ hc hl rs =>
                  obtain ⟨w, hw, rw'⟩ := ROs.get rs eu
                  simp only [List.nil_append, Nat.zero_add] at rw'
                  refine ⟨l, vs, j, w, rfl, by cases ry; rfl, .of hl, ?_, ?_⟩
                  · unfold atI; rw [ROs.length rs, ej]; exact hw
                  · cases rw' with
                    | @lst _ l2 vs2 _ hc2 hl2 rs2 =>
                      refine ⟨tyL hl2, F, unc κ i, ρ.set i none, ds, ρ2, S1, q2, fun ws F2 κ2 H2 S2 s2 r2 => ?_⟩
                      obtain ⟨S3, hH⟩ := SS.back (o := .lst os) hv (.lst hc hl rs) (fun a p z => ⟨(ht a p z).1, (ht a p z).2.1, (ht a p z).2.2.1⟩) s2 S2
                      have c2 : put κ2 i (VL.sub κ i) l2 = some [i, jj] := by unfold put; rw [hc2]
                      have hl2' : H2 l2 = some (.lst vs2) := by rw [hH _ _ hc2]; exact hl2
                      have iln : i < (ρ2.set i (some (O.lst os))).length := by rw [S3.len]; exact (List.getElem?_eq_some_iff.mp hv).1
                      obtain ⟨v3, hv3, ro3⟩ := S3.slots i (.lst os) (by rw [List.getElem?_set_self (by simpa using iln)])
                      rw [hv] at hv3; cases hv3
                      cases ro3 with
                      | @lst _ _ vs3 _ hc3 hl3 rs3 =>
                        have evs : vs3 = vs := by
                          rw [hH _ _ hc, hl] at hl3
                          cases hl3; rfl
                        subst evs
                        obtain ⟨w3, hw3, rw3⟩ := ROs.get rs3 eu
                        rw [hw] at hw3; cases hw3
                        simp only [Nat.zero_add] at rw3
                        cases rw3 with
                        | @lst _ _ vs4 _ hc4 hl4 rs4 =>
                          have : vs4 = vs2 := by rw [hl2'] at hl4; cases hl4; rfl
                          subst this
                          refine dm F2 _ σ H2 _ [i, jj] l2 _ _ ws ds c us' Q S3 c2 hl4 rs4 r2 q3 fun u vs' rc rs' => ?_
                          have nel : l ≠ l2 := fun e => by rw [e, hc2] at hc; cases hc
                          have S4 := S3.write (o' := .lst (os.set jj (.lst us'))) c2 rfl hv (.lst hc3 (by rw [upd_ne nel]; exact hl3) (ROs.upd_in rs3 c2 (Nat.zero_add jj) (.lst c2 upd_same rs') hw))
                          rw [List.set_set] at S4
                          have s3 : Step F κ H1 F2 (put κ2 i (VL.sub κ i)) H2 := Step.put ((Step.unc (i := i)).trans s2) fun a p z => .inr (ht a p z).2.2.2
                          exact k u F2 _ _ S4 ((s0.trans s3).trans (.write c2)) rc
          · cases q
        · cases q
      · cases q
  · cases q
theorem vx_metAt {i : Nat} {m : MFn} {name : Str} {id : String} {r : V → List V → Hp → VK → Prop} (dm : DoesM G r m) {h : DF} {f : LF} {apos : Pos} (slot : Slot "list" name id) (hty : typeOf (.builtin id) = pure (.type "method_descriptor")) (hm : MtR X id r)
    (ha : PE X a (tVar i)) (hk : VX G X b h) (hix : PlainIx b) (hb : VA G X (e :: es) f) {spos : Pos} (hbase : attributeBase (.Subscript a b spos) name X.env (eval (.Subscript a b spos) X.env) = eval (.Subscript a b spos) X.env := by rfl)
    (hfew : ((backTo pos (starEach (e :: es) X.env)).all (fun x => !x.1) && (backToKw pos (keywordEach [] X.env)).all (fun x => x.1.isSome) && decide ((e :: es).length + ([] : List Keyword).length + (if ([] : List Keyword).isEmpty then 0 else 1) < 30)) = true := by rfl)
    (hline : (apos.endLine == pos.line) = true := by rfl) (hs : starEach (e :: es) X.env = (false, eval e X.env) :: starEach es X.env := by rfl) (hplain : (backTo pos (starEach es X.env)).any (·.1) = false := by rfl) :
    VX G X (.Call (.Attribute (.Subscript a b spos) name apos) (e :: es) [] pos) (dMetAt i m h f) := peImp (pe_bm PySem.F.plainAttrs_list slot hty hm (pe_ix ix_list ha hk hix) hb hbase hfew hline hs hplain) fun _ _ _ q => metAt_run dm q

/-! ### x[k] = e -/
def putD {κt : Type} [DecidableEq κt] {α : Type} (kvs : List (κt × α)) (k : κt) (v : α) : List (κt × α) :=
  if (kvs.any fun kv => decide (kv.1 = k)) = true then kvs.map fun kv => if kv.1 = k then (kv.1, v) else kv else kvs ++ [(k, v)]
def setO (o : O) (k : D) (d : D) : Option O := match o, k with
  | .lst os, .int j => (ixN os.length j).map fun jj => .lst (os.set jj (.fz d))
  | .dK kvs, k => (keyD k).bind fun kk => if kvs.length < lim then some (.dK (putD kvs kk (.fz d))) else none
  | .dT kvs, .tup ks => (keysD ks).bind fun kk => if kvs.length < lim then some (.dT (putD kvs kk (.fz d))) else none
  | _, _ => none
theorem putD_keys {κt : Type} [DecidableEq κt] {α β : Type} {kvs : List (κt × α)} {kos : List (κt × β)} (h : kvs.map (·.1) = kos.map (·.1)) (k : κt) (v : α) (o : β) : (putD kvs k v).map (·.1) = (putD kos k o).map (·.1) := by
  have e : (kvs.any fun kv => decide (kv.1 = k)) = (kos.any fun kv => decide (kv.1 = k)) := by
    have e1 : (kvs.any fun kv => decide (kv.1 = k)) = (kvs.map (·.1)).any fun x => decide (x = k) := by rw [List.any_map]; rfl
    have e2 : (kos.any fun kv => decide (kv.1 = k)) = (kos.map (·.1)).any fun x => decide (x = k) := by rw [List.any_map]; rfl
    rw [e1, e2, h]
  have e1 : ∀ (l : List (κt × α)), (l.map fun kv => if kv.1 = k then (kv.1, v) else kv).map (·.1) = l.map (·.1) := by
    intro l; rw [List.map_map]; apply List.map_congr_left; intro x _; show (if x.1 = k then (x.1, v) else x).1 = x.1; split <;> rfl
  have e2 : ∀ (l : List (κt × β)), (l.map fun kv => if kv.1 = k then (kv.1, o) else kv).map (·.1) = l.map (·.1) := by
    intro l; rw [List.map_map]; apply List.map_congr_left; intro x _; show (if x.1 = k then (x.1, o) else x).1 = x.1; split <;> rfl
  unfold putD
  rw [e]
  split
  · rw [e1, e2, h]
  · simp [h]
theorem ROs.putMap {κt : Type} [DecidableEq κt] {F : Hp} {κ : Col} {H : Hp} {p : List Nat} {k : κt} {v : V} {d : D} (r : RD G F v d) : ∀ {n : Nat} {kvs : List (κt × V)} {kos : List (κt × O)}, kvs.map (·.1) = kos.map (·.1) → ROs G F κ H p n (kvs.map (·.2)) (kos.map (·.2)) →
    ROs G F κ H p n ((kvs.map fun kv => if kv.1 = k then (kv.1, v) else kv).map (·.2)) ((kos.map fun kv => if kv.1 = k then (kv.1, .fz d) else kv).map (·.2)) := by
  intro n kvs
  induction kvs generalizing n with
  | nil =>
    intro kos h q
    cases kos with
    | nil => exact .nil
    | cons _ _ => simp at h
  | cons kv kvs ih =>
    intro kos h q
    cases kos with
    | nil => simp at h
    | cons ko kos =>
      simp only [List.map_cons, List.cons.injEq] at h
      obtain ⟨h1, h2⟩ := h
      cases q with
      | cons a b =>
        simp only [List.map_cons]
        by_cases hk : kv.1 = k
        · rw [if_pos hk, if_pos (by rw [← h1]; exact hk)]
          exact .cons (.fz r) (ih h2 b)
        · rw [if_neg hk, if_neg (by rw [← h1]; exact hk)]
          exact .cons a (ih h2 b)
theorem ROs.put {κt : Type} [DecidableEq κt] {F : Hp} {κ : Col} {H : Hp} {p : List Nat} {k : κt} {v : V} {d : D} (r : RD G F v d) {n : Nat} {kvs : List (κt × V)} {kos : List (κt × O)} (h : kvs.map (·.1) = kos.map (·.1)) (q : ROs G F κ H p n (kvs.map (·.2)) (kos.map (·.2))) :
    ROs G F κ H p n ((putK kvs k v).map (·.2)) ((putD kos k (.fz d)).map (·.2)) := by
  have e : (kvs.any fun kv => decide (kv.1 = k)) = (kos.any fun kv => decide (kv.1 = k)) := by
    have e1 : (kvs.any fun kv => decide (kv.1 = k)) = (kvs.map (·.1)).any fun x => decide (x = k) := by rw [List.any_map]; rfl
    have e2 : (kos.any fun kv => decide (kv.1 = k)) = (kos.map (·.1)).any fun x => decide (x = k) := by rw [List.any_map]; rfl
    rw [e1, e2, h]
  unfold putK putD
  rw [e]
  split
  · exact ROs.putMap r h q
  · rw [List.map_append, List.map_append]
    exact ROs.append q (.cons (.fz r) .nil)
theorem setO_run (hK : G.K = X.K) {F : Hp} {κ : Col} {σ : L2.St} {H : Hp} {ρ : Env'} {i : Nat} {x y w : V} {o o' : O} {k d : D} (S : SS G F κ σ H ρ) (hx : σ[i]? = some (some x)) (r : RO G F κ H [i] x o) (ry : RD G F y k) (rd : RD G F w d) (e : setO o k d = some o') :
    ∃ a u, x = .ref a ∧ κ a = some [i] ∧ SS G F κ σ (upd H a u) (ρ.set i (some o')) ∧
      ((∃ xs kk j, H a = some (.lst xs) ∧ y = .int kk ∧ ixN xs.length kk = some j ∧ u = .lst (xs.set j w)) ∨ (DPut H a y w (upd H a u) ∧ ∀ xs, H a ≠ some (.lst xs))) := by
  unfold setO at e
  split at e
  · rename_i os j
    cases q : ixN os.length j with
    | none => rw [q] at e; cases e
    | some jj =>
      rw [q] at e
      cases e
      cases r with
      | lst c h rs =>
        refine ⟨_, _, rfl, c, S.write c rfl hx (.lst c upd_same (ROs.set (ROs.upd_at rs c) jj (.fz rd))), .inl ⟨_, j, jj, h, by cases ry; rfl, by rw [ROs.length rs]; exact q, rfl⟩⟩
  · rename_i kos
    cases q : keyD k with
    | none => rw [q] at e; cases e
    | some kk =>
      rw [q] at e
      simp only [Option.bind_some] at e
      split at e
      · rename_i hl
        cases e
        cases r with
        | @dK _ _ kvs _ c h m rs =>
          have hl2 : kvs.length = kos.length := by have := congrArg List.length m; simpa using this
          refine ⟨_, _, rfl, c, S.write c rfl hx (.dK c upd_same ?_ (ROs.upd_at (ROs.put rd m rs) c)), .inr ⟨?_, fun xs z => by rw [h] at z; cases z⟩⟩
          · exact putD_keys m kk w (O.fz d)
          · rw [keyD_ok q ry]
            exact .k h (by rw [hl2]; exact lim_lt hl)
      · cases e
  · rename_i kos ks
    cases q : keysD ks with
    | none => rw [q] at e; cases e
    | some kk =>
      rw [q] at e
      simp only [Option.bind_some] at e
      split at e
      · rename_i hl
        cases e
        cases r with
        | @dT _ _ kvs _ c h m rs =>
          have hl2 : kvs.length = kos.length := by have := congrArg List.length m; simpa using this
          cases ry with
          | tup s2 r2 =>
            have h2 := keysD_ok r2 q
            subst h2
            refine ⟨_, _, rfl, c, S.write c rfl hx (.dT c upd_same ?_ (ROs.upd_at (ROs.put rd m rs) c)), .inr ⟨.t h (S.tupF s2) (by rw [hl2]; exact lim_lt hl), fun xs z => by rw [h] at z; cases z⟩⟩
            exact putD_keys m kk w (O.fz d)
      · cases e
  · cases e
def sSetI (i : Nat) (fk fe : DF) : SF := fun ρ => (fe ρ).bind fun p => match p.2[i]? with
  | some (some _) => (fk p.2).bind fun q => match q.2[i]? with
    | some (some o) => (setO o q.1 p.1).map fun o' => (.nx, q.2.set i (some o'))
    | _ => none
  | _ => none
def PSet.or {t t' : TSet} (h : PSet X t) (h' : PSet X t') : PSet X (fun o i v H Q => t o i v H Q ∨ t' o i v H Q) := by
  intro pins s σ H o i v ov iv u Q I r1 r2 r3 q
  rcases q with q | q
  · exact h pins s σ H o i v ov iv u Q I r1 r2 r3 q
  · exact h' pins s σ H o i v ov iv u Q I r1 r2 r3 q
def rSetD : V → V → V → Hp → (Hp → Prop) → Prop := fun o i v H Q => ∃ a H', o = .ref a ∧ DPut H a i v H' ∧ Q H'
theorem set_dict (hu : X.A.units + 1 < cLine) : PSet X rSetD := by
  intro pins s σ H o i v ov iv u Q I r1 r2 r3 ⟨a, H', ho, g, q⟩
  subst ho
  obtain rfl : ov = Value.ref a := r1
  exact d_setItem hu I g r2 r3 fun s' I' => ⟨H', I', q⟩
theorem vs_setI {P : List Nat} {i : Nat} {fk fe : DF} {spos : Pos} (hK : G.K = X.K) (hu : X.A.units + 1 < cLine) (ha : PE X a (tVar i)) (hk : VX G X b fk) (he : VX G X e fe)
    (has : ∀ v, assign (.Subscript a b spos) X.env v = (do
      let ov ← holding [v] (eval a X.env)
      let iv ← holding [v, ov] (eval b X.env)
      standAt spos
      holding [v, ov, iv] (setItem ov iv v)
      release [v, ov, iv] []) := by intro _; rfl)
    (hs : swapsWithSole [.Subscript a b spos] e pos.line X.env = pure false := by rfl) (hw : swappedStores [.Subscript a b spos] e X.env = pure none := by rfl) (h1 : (assignEach [.Subscript a b spos] X.env).map (·.2) = [assign (.Subscript a b spos) X.env] := by rfl) :
    VS G P X (.Assign [.Subscript a b spos] e pos) (sSetI i fk fe) := psImp (ps_asg he (pg_sub ha hk (VL.PSet.or set_list (set_dict hu)) has) hs hw h1) fun Dn σ H ⟨F, κ, ρ, out, ρ', S, q, k⟩ => by
  unfold sSetI at q
  cases q1 : fe ρ with
  | none => rw [q1] at q; cases q
  | some p =>
    obtain ⟨d, ρ1⟩ := p
    rw [q1] at q
    simp only [Option.bind_some] at q
    split at q
    · rename_i o0 e0
      cases q2 : fk ρ1 with
      | none => rw [q2] at q; cases q
      | some p =>
        obtain ⟨kd, ρ2⟩ := p
        rw [q2] at q
        simp only [Option.bind_some] at q
        split at q
        · rename_i o e1
          cases q3 : setO o kd d with
          | none => rw [q3] at q; cases q
          | some o' =>
            rw [q3] at q
            cases q
            refine ⟨F, κ, ρ, d, ρ1, S, q1, fun w F1 κ1 H1 S1 s1 r1 => ?_⟩
            obtain ⟨x, hx, _⟩ := S1.slots i _ e0
            refine ⟨x, hx, F1, κ1, ρ1, kd, ρ2, S1, q2, fun y F2 κ2 H2 S2 s2 r2 => ?_⟩
            obtain ⟨x', hx', ro⟩ := S2.slots i _ e1
            rw [hx] at hx'; cases hx'
            obtain ⟨a, u, rfl, hc, S3, h⟩ := setO_run hK S2 hx ro r2 (r1.mono' s2.ext) q3
            have fin := k σ F2 κ2 _ S3 ((s1.trans s2).trans (.write hc)) .refl
            rcases h with ⟨xs, kk, j, h1, h2, h3, rfl⟩ | ⟨h1, _⟩
            · exact .inl ⟨a, xs, kk, j, rfl, h2, h1, h3, fin⟩
            · exact .inr ⟨a, _, rfl, h1, fin⟩
        · cases q
    · cases q
end
end VL
set_option Elab.async false
set_option linter.all false
set_option maxRecDepth 100000
set_option maxHeartbeats 4000000
namespace VL
open PySem PySem.Spec PyProof.Rows L2
section
variable {G : Gx} {X : Cx} {e a b c : Expr} {es : List Expr} {pos : Pos}
/-! ### a call that changes a tree just made -/
/-- one more name, for a while -/
theorem SS.push {F : Hp} {κ κt : Col} {σ : L2.St} {H : Hp} {ρ : Env'} {v : V} {o : O} (S : SS G F κ σ H ρ) (hκ : ∀ a q, κ a = some q → q.head? ≠ some ρ.length) (r : RO G F κt H [] v o) (ht : ∀ a p, κt a = some p → Mo H a ∧ F a = none ∧ κ a = none) :
    SS G F (put κ ρ.length κt) (σ ++ [some v]) H (ρ ++ [some o]) := by
  have e1 : σ ++ [some v] = (σ ++ [none]).set ρ.length (some v) := by rw [S.len]; simp
  have e2 : ρ ++ [some o] = (ρ ++ [none]).set ρ.length (some o) := by simp
  rw [e1, e2]
  refine SS.setO (v := v) ⟨S.sub, S.own, by simp [S.len], fun i u e => ?_, S.tab⟩ r ht
  by_cases hi : i < ρ.length
  · rw [List.getElem?_append_left hi] at e
    obtain ⟨w, hw, rw'⟩ := S.slots i u e
    exact ⟨w, by rw [List.getElem?_append_left (by rw [← S.len]; exact hi)]; exact hw, rw'⟩
  · rw [List.getElem?_append_right (by omega)] at e
    cases j : i - ρ.length with
    | zero => rw [j] at e; simp at e
    | succ k => rw [j] at e; simp at e
/-- colours of names that are none any more are dropped -/
def trim (κ : Col) (n : Nat) : Col := fun a => match κ a with
  | some (j :: q) => if j < n then some (j :: q) else none
  | _ => none
theorem trim_some {κ : Col} {n : Nat} {a : Addr} {q : List Nat} (h : trim κ n a = some q) : κ a = some q ∧ ∃ j r, q = j :: r ∧ j < n := by
  unfold trim at h
  split at h
  · rename_i j r e
    split at h
    · rename_i hj; cases h; exact ⟨e, j, r, rfl, hj⟩
    · cases h
  · cases h
theorem trim_keep {κ : Col} {n j : Nat} {a : Addr} {q : List Nat} (hj : j < n) (r : Rt j q) (h : κ a = some q) : trim κ n a = some q := by
  unfold trim
  cases q with
  | nil => cases r
  | cons x xs =>
    have e : x = j := Option.some.inj r
    rw [h]
    show (if x < n then some (x :: xs) else none) = _
    rw [if_pos (by rw [e]; exact hj)]
theorem SS.trim {F : Hp} {κ : Col} {σ : L2.St} {H : Hp} {ρ : Env'} (S : SS G F κ σ H ρ) : SS G F (VL.trim κ ρ.length) σ H ρ :=
  ⟨S.sub, fun a q z => S.own a q (trim_some z).1, S.len, fun i o e => by
    obtain ⟨w, hw, r⟩ := S.slots i o e
    exact ⟨w, hw, r.keep (Ex.refl F) (fun b q rq z => trim_keep (List.getElem?_eq_some_iff.mp e).1 rq z) fun _ _ _ _ _ z => z⟩, S.tab⟩
theorem Step.trim {F : Hp} {κ : Col} {H : Hp} {n : Nat} : Step F κ H F (VL.trim κ n) H := ⟨fun _ _ h => h, fun _ _ h _ => ⟨by rw [h]; simp, fun _ => h⟩, fun _ _ _ _ _ _ => rfl, fun a p h => .inr (by rw [(trim_some h).1]; simp)⟩
theorem SS.pop {F : Hp} {κ : Col} {σ : L2.St} {H : Hp} {ρ : Env'} {v : Option V} {o : Option O} (S : SS G F κ (σ ++ [v]) H (ρ ++ [o])) : SS G F (VL.trim κ ρ.length) σ H ρ := by
  have hl : ρ.length = σ.length := by have := S.len; simpa using this
  refine ⟨S.sub, fun a q z => S.own a q (trim_some z).1, hl, fun i u e => ?_, S.tab⟩
  have hi : i < ρ.length := (List.getElem?_eq_some_iff.mp e).1
  obtain ⟨w, hw, r⟩ := S.slots i u (by rw [List.getElem?_append_left hi]; exact e)
  exact ⟨w, by rw [List.getElem?_append_left (by omega)] at hw; exact hw, r.keep (Ex.refl F) (fun b q rq z => trim_keep hi rq z) fun _ _ _ _ _ z => z⟩
/-! ### own classes -/
/-- self.f = e -/
def putS {α : Type} (f : Str) (v : α) : List (Str × α) → List (Str × α)
  | [] => [(f, v)]
  | (g, w) :: r => if g = f then (g, v) :: r else (g, w) :: putS f v r
theorem ROs.putS {F : Hp} {κ : Col} {H : Hp} {p : List Nat} {f : Str} {v : V} {d : D} (r : RD G F v d) : ∀ {n : Nat} {fs : List (Str × V)} {gs : List (Str × O)}, fs.map (·.1) = gs.map (·.1) → ROs G F κ H p n (fs.map (·.2)) (gs.map (·.2)) → ROs G F κ H p n ((VL.putS f v fs).map (·.2)) ((VL.putS f (O.fz d) gs).map (·.2)) := by
  intro n fs
  induction fs generalizing n with
  | nil =>
    intro gs h q
    cases gs with
    | nil => exact .cons (.fz r) .nil
    | cons _ _ => simp at h
  | cons kv fs ih =>
    intro gs h q
    cases gs with
    | nil => simp at h
    | cons ko gs =>
      simp only [List.map_cons, List.cons.injEq] at h
      obtain ⟨g, x⟩ := kv
      obtain ⟨g', y⟩ := ko
      obtain ⟨h1, h2⟩ := h
      have h1' : g = g' := h1
      subst h1'
      unfold VL.putS
      cases q with
      | cons a b =>
        by_cases hg : g = f
        · rw [if_pos hg, if_pos hg]; exact .cons (.fz r) b
        · rw [if_neg hg, if_neg hg]; exact .cons a (ih h2 b)
def sSetF (i : Nat) (cn fn : Str) (f : DF) : SF := fun ρ => (f ρ).bind fun p => match p.2[i]? with
  | some (some (.ins c fs)) => if c = cn ∧ fs.length < 1000 then some (.nx, p.2.set i (some (.ins c (putS fn (.fz p.1) fs)))) else none
  | _ => none
/-- o.m(..), o data -/
def nMeth (c m : Str) (f : FF) (fo : DF) (g : LF) : OF := fun ρ => (fo ρ).bind fun a => match a.1 with
  | .ins c' fs => if c' = c ∧ fs.lookup m = none then (g a.2).bind fun b => (cal f (a.1 :: b.1)).map fun r => (r, b.2) else none
  | _ => none
/-! ### dicts, asked -/
def lookO (o : O) (k : D) : Option (Option D) := match o, k with
  | .fz (.dK kvs), k => (keyD k).map fun kk => valD kvs kk
  | .fz (.dT kvs), .tup ks => (keysD ks).map fun kk => valD kvs kk
  | .dK kvs, k => (keyD k).bind fun kk => match valD kvs kk with
    | none => some none
    | some o => o.data.map some
  | .dT kvs, .tup ks => (keysD ks).bind fun kk => match valD kvs kk with
    | none => some none
    | some o => o.data.map some
  | _, _ => none
theorem lookO_run {F : Hp} {κ : Col} {σ : L2.St} {H : Hp} {ρ : Env'} {p : List Nat} {x y : V} {o : O} {k : D} {w : Option D} (S : SS G F κ σ H ρ) (r : RO G F κ H p x o) (ry : RD G F y k) (e : lookO o k = some w) :
    ∃ a ov, x = .ref a ∧ DGet H a y ov ∧ (∀ d, w = some d → ∃ v, ov = some v ∧ RD G F v d) ∧ (w = none → ov = none) := by
  unfold lookO at e
  split at e
  · rename_i kds
    cases q : keyD k with
    | none => rw [q] at e; cases e
    | some kk =>
      rw [q] at e
      cases e
      cases r with
      | fz r => cases r with
        | dK s m r =>
          obtain ⟨i1, i2⟩ := valD_get m r (k := kk)
          exact ⟨_, _, rfl, .inl ⟨_, kk, S.exh.rd s, keyD_ok q ry, rfl⟩, i1, i2⟩
  · rename_i kds ks
    cases q : keysD ks with
    | none => rw [q] at e; cases e
    | some kk =>
      rw [q] at e
      cases e
      cases ry with
      | tup s2 r2 =>
        have h2 := keysD_ok r2 q
        subst h2
        cases r with
        | fz r => cases r with
          | dT s m r =>
            obtain ⟨i1, i2⟩ := valD_get m r (k := kk)
            exact ⟨_, _, rfl, .inr ⟨_, kk, _, S.exh.rd s, rfl, S.tupF s2, rfl⟩, i1, i2⟩
  · rename_i kos
    cases q : keyD k with
    | none => rw [q] at e; cases e
    | some kk =>
      rw [q] at e
      simp only [Option.bind_some] at e
      cases r with
      | dK c h m rs =>
        obtain ⟨i1, i2⟩ := valD_getO m rs (k := kk)
        refine ⟨_, _, rfl, by rw [keyD_ok q ry]; exact .k h, fun d hd => ?_, fun hd => ?_⟩
        · cases q2 : valD kos kk with
          | none => rw [q2] at e; cases e; cases hd
          | some o =>
            rw [q2] at e
            simp only at e
            cases q3 : o.data with
            | none => rw [q3] at e; cases e
            | some d' =>
              rw [q3] at e
              cases e; cases hd
              obtain rfl := O.data_ok q3
              obtain ⟨v, mm, hv, rv⟩ := i1 _ q2
              cases rv with
              | fz rv => exact ⟨v, hv, rv⟩
        · cases q2 : valD kos kk with
          | none => exact i2 q2
          | some o =>
            rw [q2] at e
            simp only at e
            cases q3 : o.data with
            | none => rw [q3] at e; cases e
            | some d' => rw [q3] at e; cases e; cases hd
  · rename_i kos ks
    cases q : keysD ks with
    | none => rw [q] at e; cases e
    | some kk =>
      rw [q] at e
      simp only [Option.bind_some] at e
      cases ry with
      | tup s2 r2 =>
        have h2 := keysD_ok r2 q
        subst h2
        cases r with
        | dT c h m rs =>
          obtain ⟨i1, i2⟩ := valD_getO m rs (k := kk)
          refine ⟨_, _, rfl, .t h (S.tupF s2), fun d hd => ?_, fun hd => ?_⟩
          · cases q2 : valD kos kk with
            | none => rw [q2] at e; cases e; cases hd
            | some o =>
              rw [q2] at e
              simp only at e
              cases q3 : o.data with
              | none => rw [q3] at e; cases e
              | some d' =>
                rw [q3] at e
                cases e; cases hd
                obtain rfl := O.data_ok q3
                obtain ⟨v, mm, hv, rv⟩ := i1 _ q2
                cases rv with
                | fz rv => exact ⟨v, hv, rv⟩
          · cases q2 : valD kos kk with
            | none => exact i2 q2
            | some o =>
              rw [q2] at e
              simp only at e
              cases q3 : o.data with
              | none => rw [q3] at e; cases e
              | some d' => rw [q3] at e; cases e; cases hd
  · cases e
/-- x.get(k, d), x a name that holds a dict -/
def dGetV (i : Nat) (fk fd : DF) : DF := fun ρ => match ρ[i]? with
  | some (some o0) => if (lookO o0 (.int 0)).isSome = true ∨ (lookO o0 (.tup [])).isSome = true then (fk ρ).bind fun p => (fd p.2).bind fun q => match q.2[i]? with
      | some (some o) => (lookO o p.1).map fun w => (w.getD q.1, q.2)
      | _ => none
    else none
  | _ => none
theorem isD_look {F : Hp} {κ : Col} {σ : L2.St} {H : Hp} {ρ : Env'} {p : List Nat} {x : V} {o : O} (S : SS G F κ σ H ρ) (r : RO G F κ H p x o) (h : (lookO o (.int 0)).isSome = true ∨ (lookO o (.tup [])).isSome = true) : ∃ a, x = .ref a ∧ IsD H a := by
  cases o with
  | fz d =>
    cases r with
    | fz r =>
      cases d with
      | dK kvs => cases r with | dK s m r => exact ⟨_, rfl, .inl ⟨_, S.exh.rd s⟩⟩
      | dT kvs => cases r with | dT s m r => exact ⟨_, rfl, .inr ⟨_, S.exh.rd s⟩⟩
      | _ => rcases h with h | h <;> simp [lookO] at h
  | dK kvs => cases r with | dK c h m r => exact ⟨_, rfl, .inl ⟨_, .inl h⟩⟩
  | dT kvs => cases r with | dT c h m r => exact ⟨_, rfl, .inr ⟨_, .inl h⟩⟩
  | lst os => rcases h with h | h <;> simp [lookO] at h
  | ins c fs => rcases h with h | h <;> simp [lookO] at h
  | dN kbs => rcases h with h | h <;> simp [lookO] at h
theorem vx_getv {i : Nat} {fk fd : DF} {apos : Pos} (hu : X.A.units + 1 < cLine) (ha : PE X a (tVar i)) (hk : VX G X b fk) (hd : VX G X c fd) (m : M2 X a "get" apos b c pos) : VX G X (.Call (.Attribute a "get" apos) [b, c] [] pos) (dGetV i fk fd) := peImp (pe_dget2 hu ha hk hd m) fun σ H Q ⟨F, κ, ρ, d, ρ', S, q, k⟩ => by
  unfold dGetV at q
  split at q
  · rename_i o0 e0
    split at q
    · rename_i hD
      obtain ⟨x, hx, r0⟩ := S.slots i _ e0
      obtain ⟨l, rfl, hI⟩ := isD_look S r0 hD
      cases q1 : fk ρ with
      | none => rw [q1] at q; cases q
      | some p =>
        obtain ⟨kd, ρ1⟩ := p
        rw [q1] at q
        simp only [Option.bind_some] at q
        cases q2 : fd ρ1 with
        | none => rw [q2] at q; cases q
        | some p =>
          obtain ⟨dd, ρ2⟩ := p
          rw [q2] at q
          simp only [Option.bind_some] at q
          split at q
          · rename_i o e1
            cases q3 : lookO o kd with
            | none => rw [q3] at q; cases q
            | some w =>
              rw [q3] at q
              cases q
              refine ⟨_, hx, l, rfl, hI, F, κ, ρ, kd, ρ1, S, q1, fun y F1 κ1 H1 S1 s1 r1 => ⟨F1, κ1, ρ1, dd, _, S1, q2, fun z F2 κ2 H2 S2 s2 r2 => ?_⟩⟩
              obtain ⟨x', hx', ro⟩ := S2.slots i _ e1
              rw [hx] at hx'; cases hx'
              obtain ⟨a', ov, ea, g, g1, g2⟩ := lookO_run S2 ro (r1.mono' s2.ext) q3
              cases ea
              refine ⟨ov, g, ?_⟩
              cases w with
              | none => rw [g2 rfl]; exact k _ F2 κ2 H2 S2 (s1.trans s2) r2
              | some d => obtain ⟨v, rfl, rv⟩ := g1 d rfl; exact k _ F2 κ2 H2 S2 (s1.trans s2) rv
          · cases q
    · cases q
  · cases q
end
end VL
set_option Elab.async false
set_option linter.all false
set_option maxRecDepth 100000
set_option maxHeartbeats 4000000
namespace VZ
open PySem PySem.Spec PyProof.Rows L2

/-! ### enumerate, zip over lists and tuples alike -/
inductive Sk where
  | l | t
def SqK (K : PySem.W.Frag) (H : Hp) : Sk → Addr → List V → Prop
  | .l, a, xs => SqL K H a xs
  | .t, a, xs => SqT K H a xs
def itK (h : Heap) : Sk → Addr → Addr → Nat → Prop
  | .l, it, a, i => h.IsListIter it a i
  | .t, it, a, i => h.IsTupleIter it a i
def isK (h : Heap) : Sk → Addr → Array Value → Prop
  | .l, a, items => h.IsList a items
  | .t, a, items => h.IsTuple a items
def objK : Sk → Addr → Obj
  | .l, a => { cls := .type "list_iterator", data := .fields #[.ref a, .int 0 0] }
  | .t, a => { cls := .type "tuple_iterator", data := .fields #[.ref a, .int 0 0] }
theorem beginsK (k : Sk) (a : Addr) (items : Array Value) : Begins (.ref a) (objK k a) fun h => isK h k a items := by
  cases k with
  | l => exact begins_list a items
  | t => exact begins_tuple a items
theorem itK_new {h : Heap} {k : Sk} {it a : Addr} (e : h.get? it = some (objK k a)) : itK h k it a 0 := by
  cases k with
  | l => exact ⟨_, e, rfl, rfl⟩
  | t => exact ⟨_, e, rfl, rfl⟩
theorem itK_obj {h : Heap} {k : Sk} {it a : Addr} {i : Nat} (e : itK h k it a i) : ∃ o, h.get? it = some o ∧ ∀ v, o.data ≠ .cell v := by
  cases k with
  | l => obtain ⟨o, ho, _, hd⟩ := e; exact ⟨o, ho, fun v q => by rw [hd] at q; cases q⟩
  | t => obtain ⟨o, ho, _, hd⟩ := e; exact ⟨o, ho, fun v q => by rw [hd] at q; cases q⟩
theorem itK_at {h h' : Heap} {k : Sk} {it a : Addr} {i : Nat} (e : itK h k it a i) (g : ∀ o, h.get? it = some o → h'.get? it = some o) : itK h' k it a i := by
  cases k with
  | l => exact Heap.IsListIter.at e g
  | t => exact Heap.IsTupleIter.at e g
theorem drawsK {prog : Program} {w : World} {A : Around} (hh : A.handled = none) (k : Sk) (it a : Addr) (hne : a ≠ it) (items : Array Value) : Draws prog w A it [it, a] items.size (fun i v => items[i]? = some v) (fun i h => itK h k it a i ∧ isK h k a items) := by
  cases k with
  | l => exact Draws.list hh it a hne items
  | t => exact Draws.tuple hh it a hne items
section
variable {X : Cx} {pins : List (Addr × Obj)} {σ : L2.St} {H : Hp} {s : Shared} {a : Addr} {xs ys : List V}
theorem sqK (I : Inv X pins σ H s) {k : Sk} (h : SqK X.K H k a xs) : ∃ its : List Value, Vals xs its ∧ isK s.heap k a its.toArray := by
  cases k with
  | l => obtain ⟨its, r, p, _⟩ := I.list h; exact ⟨its, r, p.isList⟩
  | t => obtain ⟨its, r, p, _⟩ := I.tuple h; exact ⟨its, r, p⟩
theorem sqK_inj (I : Inv X pins σ H s) {k : Sk} (h : SqK X.K H k a xs) (h' : SqK X.K H k a ys) : xs = ys := by
  cases k with
  | l => exact I.list_inj h h'
  | t => exact I.tuple_inj h h'
theorem isK_lt {h : Heap} {k : Sk} {items : Array Value} (e : isK h k a items) : a < h.objs.size := by
  cases k with
  | l => obtain ⟨o, ho, _⟩ := e; exact Heap.lt_size ho
  | t => obtain ⟨o, ho, _⟩ := e; exact Heap.lt_size ho
end
/-- the walk of enumerate over a -/
def Iek (K : PySem.W.Frag) (k : Sk) (a : Addr) : It where
  go := fun i H => ∃ (xs : List V) (x : V), SqK K H k a xs ∧ xs[i]? = some x
  yld := fun i H v H' => ∃ T x, v = .ref T ∧ H T = none ∧ H' = upd H T (.tup [.int (i : Nat), x]) ∧ ∀ xs, SqK K H k a xs → xs[i]? = some x
  stop := fun i H => ∃ xs : List V, SqK K H k a xs ∧ xs.length = i
theorem in1_handled {A : Around} (h : A.handled = none) : A.in1.handled = none := h
theorem turn_ek {P : Program} {w : World} {K : PySem.W.Frag} {elts : List Expr} {kk : Nat} {tpos : Pos} (k : Sk) (a e it : Addr) (h1 : e ≠ it) (h2 : e ≠ a) (h3 : a ≠ it) :
    Turn P w K (.Tuple elts kk tpos) (Iek K k a) [e, it] e (fun i h => (∃ old, IsEnum h e it ((i : Nat) : Int) old) ∧ itK h k it a i) := by
  refine ⟨by simp, ?_, ?_, ?_, ?_, ?_⟩
  · rintro i h ⟨⟨old, he⟩, hi⟩ b hb
    simp only [List.mem_cons, List.not_mem_nil, or_false] at hb
    rcases hb with rfl | rfl
    · exact ⟨_, he, fun v q => nomatch q⟩
    · exact itK_obj hi
  · rintro i h h' ⟨⟨old, he⟩, hi⟩ keep
    exact ⟨⟨old, keep e (by simp) _ he⟩, itK_at hi fun o q => keep it (by simp) o q⟩
  · intro X hP hw hK hc i pins s σ H E I hf st hg
    subst hP hw hK
    obtain ⟨⟨old, he⟩, hit⟩ := st
    obtain ⟨xs, x, hq, hx⟩ := hg
    obtain ⟨its, rv, hs⟩ := sqK I hq
    have hin : i < its.toArray.size := by
      have := (List.getElem?_eq_some_iff.mp hx).1
      have e2 := rv.length
      simp; omega
    have hel : e < s.heap.objs.size := Heap.lt_size he
    refine wpAny_pyNext_enum_itemD (drawsK (in1_handled (I.ok.hd hc)) k it a h3 its.toArray) he ⟨hit, hs⟩ hin h1 (by simp [h1, h2]) fun u h' tk hu ho hst hT hsz hk => ?_
    obtain ⟨u', hu', ru⟩ := rv.get hx
    have eu : u = u' := by
      have : its[i]? = some u := by simpa using hu
      rw [this] at hu'; exact Option.some.inj hu'
    subst eu
    refine ⟨_, rfl, wpAny_letOwnedTupleGo_enum (s := { s with heap := h', toks := tk + 1 }) ho fun h'' he' sb => ?_⟩
    have hT2 : h''.get? s.heap.objs.size = some { cls := .type "tuple", data := .seq #[.int i tk, u] } := (sb.2 _ (Nat.ne_of_gt hel)).trans hT
    have hil : it < s.heap.objs.size := by obtain ⟨o, ho, _⟩ := itK_obj hit; exact Heap.lt_size ho
    have I1 := I.turnedNew (t' := tk + 1) (ch := [e, it]) (h' := h'') (T := s.heap.objs.size) (ob := .tup [.int (i : Nat), x]) (fun b ob hb q => by
        simp only [List.mem_cons, List.not_mem_nil, or_false, not_or] at hb
        exact (sb.2 b hb.1).trans (hk b ob hb.1 hb.2 q)) hf (Nat.le_refl _)
      ⟨by show 2 ≤ sizeLine; decide, [.int i tk, u], .cons ⟨_, rfl⟩ (.cons ru .nil), ⟨_, hT2, rfl, _, rfl⟩⟩
    refine ⟨.ref s.heap.objs.size, _, I1, rfl, ⟨_, x, rfl, I.hok.fresh (Nat.le_refl _), rfl, fun ys hy => by rw [sqK_inj I hy hq]; exact hx⟩, ⟨⟨u, ?_⟩, itK_at hst.1 fun o q => (sb.2 it (Ne.symm h1)).trans q⟩, fun b hb => ?_⟩
    · rw [show ((i + 1 : Nat) : Int) = (i : Int) + 1 by omega]; exact he'
    · have hb' : b < s.heap.objs.size := by
        simp only [List.mem_cons, List.not_mem_nil, or_false] at hb
        rcases hb with rfl | rfl
        · exact hel
        · exact hil
      rw [upd_ne (Nat.ne_of_lt hb')]
      exact (hf b hb).1
  · intro X hP hw hK hc i pins s σ H E I hf st hg
    subst hP hw hK
    obtain ⟨⟨old, he⟩, hit⟩ := st
    obtain ⟨xs, hq, hx⟩ := hg
    obtain ⟨its, rv, hs⟩ := sqK I hq
    obtain ⟨f0, f1, f2, f3, f4, f5⟩ := hf it (by simp)
    have hi : i = its.toArray.size := by have := rv.length; simp; omega
    refine wpAny_pyNext_enum_endD (drawsK (in1_handled (I.ok.hd hc)) k it a h3 its.toArray) he ⟨by rw [← hi]; exact hit, hs⟩ fun h' eb => ⟨rfl, I.turned (t' := s.toks) (fun b o hb q => eb b o hb q) f0 f1 f3 f4 f5⟩
  · rintro A i s Q E ⟨⟨_, he⟩, _⟩ h
    exact wpAny_pyIter_enum he h
set_option maxHeartbeats 1000000 in
theorem meets_enum1 {v : Value} {o : Obj} {H : Heap → Prop} (B : Begins v o H) :
    Meets (Builtin.«enumerate.__new__» ⟨[.type "enumerate", v], []⟩) (fun _ R s => H s.heap ∧
      R (.ok (.ret (.ref (s.heap.push o).objs.size))) { s with heap := (s.heap.push o).push { cls := .type "enumerate", data := .fields #[.none, .bool false, .ref s.heap.objs.size, rawInt 0, .none, .none] } }) :=
  .of_wp fun prog w A R s h => by
    obtain ⟨hp, g, d, tk, os⟩ := s
    obtain ⟨hB, h⟩ := h
    have hsub := sub_enumerate
    have go : ∀ {A' : Around} {E : Value → Shared → Prop} {Q : Value → Shared → Prop}, Q (.ref hp.objs.size) ⟨hp.push o, g, d, tk, os⟩ → wpAny (model prog w) A' (pyIter v) Q E ⟨hp, g, d, tk, os⟩ := fun q => B.iter prog w _ _ ⟨hp, g, d, tk, os⟩ _ hB q
    wp_walk using go
    refine wpAny_stack_any fun st => wpAny_pure ?_
    split
    · rename_i cc _ _ _ _ _
      cases (cc == Value.type "enumerate")
      · wp_walk using go
        exact ⟨_, rfl, h⟩
      · wp_walk using go
        exact ⟨_, rfl, h⟩
    · wp_walk using go
      exact ⟨_, rfl, h⟩
theorem enum1_begins {prog : Program} {w : World} {A : Around} {E : Value → Shared → Prop} {s : Shared} {v : Value} {o : Obj} {H : Heap → Prop} {Q : Value → Shared → Prop} (B : Begins v o H) (h1 : H s.heap)
    (h : ∀ h', IsEnum h' (s.heap.objs.size + 1) s.heap.objs.size 0 .none → h'.get? s.heap.objs.size = some o → (∀ b o, s.heap.get? b = some o → h'.get? b = some o) → Q (.ref (s.heap.objs.size + 1)) { s with heap := h' }) :
    wpAny (model prog w) A (call (.type "enumerate") [v]) Q E s := by
  refine callType_new F.called_enumerate (by decide) (F.typeCall_enumerate_1 _) (F.newCall_enumerate_1 _) (fun obj => F.args_object_init_2 obj _) F.entry_enumerate_new (meets_enum1 B) ⟨h1, ?_⟩
  have hz : (s.heap.push o).objs.size = s.heap.objs.size + 1 := Heap.size_push ..
  show _ ∧ _
  rw [hz]
  have he : IsEnum ((s.heap.push o).push { cls := .type "enumerate", data := .fields #[.none, .bool false, .ref s.heap.objs.size, rawInt 0, .none, .none] }) (s.heap.objs.size + 1) s.heap.objs.size 0 .none := by
    have g := Heap.get?_push_size (s.heap.push o) (o := { cls := .type "enumerate", data := .fields #[.none, .bool false, .ref s.heap.objs.size, rawInt 0, .none, .none] }) rfl
    rw [hz] at g
    exact g
  exact ⟨⟨_, he, rfl⟩, h _ he (Heap.get?_push_of_some _ (Heap.get?_push_size _ B.free)) fun b o x => Heap.get?_push_of_some _ (Heap.get?_push_of_some _ x)⟩
def iEk (K : PySem.W.Frag) (k : Sk) (ta : TA) : TI := fun σ H R => ta σ H fun vs H1 => ∃ a xs, vs = [.ref a] ∧ SqK K H1 k a xs ∧ R (Iek K k a) H1
theorem pi_ek {X : Cx} {e : Expr} {ta : TA} {p pos tpos : Pos} {elts : List Expr} {kk : Nat} (k : Sk) (hg : Gl X "enumerate") (hm : X.mg "enumerate" = none) (ha : PA X [e] ta) (hs : starEach [e] X.env = [(false, eval e X.env)] := by rfl) :
    PI X (.Tuple elts kk tpos) (.Call (.Name "enumerate" p) [e] [] pos) (iEk X.K k ta) := by
  refine ⟨fun pins s σ H R I h => ?_⟩
  refine Call_ (ld_blt I hg hm boot_enumerate (PyProof.Rows.callWith_type1 (thn (ha.run pos pins s σ H _ I h) fun us s1 ⟨vs, H1, I1, r1, q1⟩ => ?_) hs rfl))
  obtain ⟨a, xs, rfl, hq, q⟩ := q1
  obtain ⟨u, rfl, ru⟩ := vals1 r1
  obtain rfl : u = Value.ref a := ru
  obtain ⟨its, rv, hI⟩ := sqK I1 hq
  have la := isK_lt hI
  refine enum1_begins (beginsK k a its.toArray) hI fun h' he ho keep => wpAny_pyIter_enum he ?_
  have I2 : Inv X pins σ H1 { s1 with heap := h' } := I1.kept (t' := s1.toks) keep
  refine ⟨s1.heap.objs.size + 1, [s1.heap.objs.size + 1, s1.heap.objs.size], _, _, H1, rfl, I2, turn_ek k a (s1.heap.objs.size + 1) s1.heap.objs.size (Nat.succ_ne_self _) (fun e => ?_) (Nat.ne_of_lt la), ⟨⟨.none, he⟩, itK_new ho⟩, fun b hb => ?_, q⟩
  · exact Nat.lt_irrefl _ (Nat.lt_of_lt_of_le (Nat.lt_succ_of_lt la) (Nat.le_of_eq e))
  · have hle : s1.heap.objs.size ≤ b := by
      simp only [List.mem_cons, List.not_mem_nil, or_false] at hb
      rcases hb with rfl | rfl
      · exact Nat.le_add_right _ _
      · exact Nat.le_refl _
    exact I1.fpOk hle (I1.hok.fresh hle)
/-- the walk of zip over a and b -/
def Izk (K : PySem.W.Frag) (k1 k2 : Sk) (a b : Addr) : It where
  go := fun i H => ∃ (xs ys : List V) (x y : V), SqK K H k1 a xs ∧ SqK K H k2 b ys ∧ xs[i]? = some x ∧ ys[i]? = some y
  yld := fun i H v H' => ∃ T x y, v = .ref T ∧ H T = none ∧ H' = upd H T (.tup [x, y]) ∧ (∀ xs, SqK K H k1 a xs → xs[i]? = some x) ∧ ∀ ys, SqK K H k2 b ys → ys[i]? = some y
  stop := fun i H => ∃ xs ys : List V, SqK K H k1 a xs ∧ SqK K H k2 b ys ∧ i = min xs.length ys.length
theorem turn_zk {P : Program} {w : World} {K : PySem.W.Frag} {elts : List Expr} {kk : Nat} {tpos : Pos} (k1 k2 : Sk) {a b z TI TO i1 i2 : Addr} (D : ZipSep2 z TI TO i1 i2 [i1, a] [i2, b]) (ne1 : a ≠ i1) (ne2 : b ≠ i2) :
    Turn P w K (.Tuple elts kk tpos) (Izk K k1 k2 a b) [z, TI, TO, i1, i2] z (fun i h => IsZip h z TI TO .none ∧ IsTupOf2 h TI (.ref i1) (.ref i2) ∧ (∃ x y, IsTupOf2 h TO x y) ∧ itK h k1 i1 a i ∧ itK h k2 i2 b i) := by
  have mem5 : ∀ {c : Addr}, c ∈ [z, TI, TO, i1, i2] → c = z ∨ c = TI ∨ c = TO ∨ c = i1 ∨ c = i2 := fun {c} h => by simpa using h
  refine ⟨by simp, ?_, ?_, ?_, ?_, ?_⟩
  · rintro i h ⟨hz, hTI, ⟨x, y, hTO⟩, h1, h2⟩ c hc
    rcases mem5 hc with rfl | rfl | rfl | rfl | rfl
    · exact ⟨_, hz, fun v q => nomatch q⟩
    · exact ⟨_, hTI, fun v q => nomatch q⟩
    · exact ⟨_, hTO, fun v q => nomatch q⟩
    · exact itK_obj h1
    · exact itK_obj h2
  · rintro i h h' ⟨hz, hTI, ⟨x, y, hTO⟩, h1, h2⟩ keep
    exact ⟨keep z (by simp) _ hz, keep TI (by simp) _ hTI, ⟨x, y, keep TO (by simp) _ hTO⟩, itK_at h1 fun o q => keep i1 (by simp) o q, itK_at h2 fun o q => keep i2 (by simp) o q⟩
  · intro X hP hw hK hc i pins s σ H E I hf st hg
    subst hP hw hK
    obtain ⟨hz, hTI, ⟨x0, y0, hTO⟩, h1, h2⟩ := st
    obtain ⟨xs, ys, x, y, hqx, hqy, hx, hy⟩ := hg
    obtain ⟨its, rv, p1⟩ := sqK I hqx
    obtain ⟨its2, rv2, p2⟩ := sqK I hqy
    have hzl : z < s.heap.objs.size := Heap.lt_size hz
    have hn1 : i < its.toArray.size := by
      have e1 := (List.getElem?_eq_some_iff.mp hx).1
      have e2 := rv.length
      simp; omega
    have hn2 : i < its2.toArray.size := by
      have e1 := (List.getElem?_eq_some_iff.mp hy).1
      have e2 := rv2.length
      simp; omega
    have hh := in1_handled (I.ok.hd hc)
    refine wpAny_pyNext_zipD2_item D (drawsK hh k1 i1 a ne1 its.toArray) (drawsK hh k2 i2 b ne2 its2.toArray) hz hTI hTO ⟨h1, p1⟩ ⟨h2, p2⟩ hn1 hn2 fun u u2 h' tk hu hu2 z' TO' st1 st2 hT hsz hk => ?_
    obtain ⟨v1, hv1, ru⟩ := rv.get hx
    obtain ⟨v2, hv2, ru2⟩ := rv2.get hy
    have e1 : u = v1 := by
      have q : its[i]? = some u := by simpa using hu
      rw [q] at hv1; exact Option.some.inj hv1
    have e2 : u2 = v2 := by
      have q : its2[i]? = some u2 := by simpa using hu2
      rw [q] at hv2; exact Option.some.inj hv2
    subst e1 e2
    refine ⟨_, rfl, wpAny_letOwnedTupleGo_zip (s := { s with heap := h', toks := tk }) z' fun h'' z'' sb => ?_⟩
    have hT2 : h''.get? s.heap.objs.size = some { cls := .type "tuple", data := .seq #[u, u2] } := (sb.2 _ (Nat.ne_of_gt hzl)).trans hT
    have I1 := I.turnedNew (t' := tk) (ch := [z, TI, TO, i1, i2]) (h' := h'') (T := s.heap.objs.size) (ob := .tup [x, y]) (fun c o hb q => by
        simp only [List.mem_cons, List.not_mem_nil, or_false, not_or] at hb
        exact (sb.2 c hb.1).trans (hk c o hb.1 hb.2.2.1 hb.2.2.2.1 hb.2.2.2.2 q)) hf (Nat.le_refl _)
      ⟨by show 2 ≤ sizeLine; decide, [u, u2], .cons ru (.cons ru2 .nil), ⟨_, hT2, rfl, _, rfl⟩⟩
    refine ⟨.ref s.heap.objs.size, _, I1, rfl, ⟨_, x, y, rfl, I.hok.fresh (Nat.le_refl _), rfl, fun l hl => by rw [sqK_inj I hl hqx]; exact hx, fun l hl => by rw [sqK_inj I hl hqy]; exact hy⟩, ⟨z'', ?_, ⟨u, u2, ?_⟩, ?_, ?_⟩, fun c hcm => ?_⟩
    · exact (sb.2 _ D.TIz).trans (hk _ _ D.TIz D.TITO D.TIi1 D.TIi2 hTI)
    · exact (sb.2 _ D.TOz).trans TO'
    · exact itK_at st1.1 fun o q => (sb.2 _ (Ne.symm D.zi1)).trans q
    · exact itK_at st2.1 fun o q => (sb.2 _ (Ne.symm D.zi2)).trans q
    · have hlt : c < s.heap.objs.size := by
        rcases mem5 hcm with rfl | rfl | rfl | rfl | rfl
        · exact hzl
        · exact Heap.lt_size hTI
        · exact Heap.lt_size hTO
        · obtain ⟨o, ho, _⟩ := itK_obj h1; exact Heap.lt_size ho
        · obtain ⟨o, ho, _⟩ := itK_obj h2; exact Heap.lt_size ho
      rw [upd_ne (Nat.ne_of_lt hlt)]
      exact (hf c hcm).1
  · intro X hP hw hK hc i pins s σ H E I hf st hg
    subst hP hw hK
    obtain ⟨hz, hTI, ⟨x0, y0, hTO⟩, h1, h2⟩ := st
    obtain ⟨xs, ys, hqx, hqy, hi⟩ := hg
    obtain ⟨its, rv, p1⟩ := sqK I hqx
    obtain ⟨its2, rv2, p2⟩ := sqK I hqy
    have l1 : its.toArray.size = xs.length := by have := rv.length; simp; omega
    have l2 : its2.toArray.size = ys.length := by have := rv2.length; simp; omega
    have hh := in1_handled (I.ok.hd hc)
    refine wpAny_pyNext_zipD2_end D (drawsK hh k1 i1 a ne1 its.toArray) (drawsK hh k2 i2 b ne2 its2.toArray) hz hTI hTO ⟨h1, p1⟩ ⟨h2, p2⟩ (by omega) (by omega) (by omega) fun h' tk hk => ⟨rfl, I.turnedL (t' := tk) (ch := [z, TI, TO, i1, i2]) (fun c o hb q => by
      simp only [List.mem_cons, List.not_mem_nil, or_false, not_or] at hb
      exact hk c o hb.1 hb.2.2.1 hb.2.2.2.1 hb.2.2.2.2 q) hf⟩
  · rintro A i s Q E ⟨hz, _⟩ h
    exact wpAny_pyIter_zip hz h
def iZk (K : PySem.W.Frag) (k1 k2 : Sk) (ta : TA) : TI := fun σ H R => ta σ H fun vs H1 => ∃ a b xs ys, vs = [.ref a, .ref b] ∧ SqK K H1 k1 a xs ∧ SqK K H1 k2 b ys ∧ R (Izk K k1 k2 a b) H1
theorem pi_zk {X : Cx} {e e2 : Expr} {ta : TA} {p pos tpos : Pos} {elts : List Expr} {kk : Nat} (k1 k2 : Sk) (hg : Gl X "zip") (hm : X.mg "zip" = none) (ha : PA X [e, e2] ta)
    (hs : starEach [e, e2] X.env = (false, eval e X.env) :: starEach [e2] X.env := by rfl) (hpl : (backTo pos (starEach [e2] X.env)).any (·.1) = false := by rfl) :
    PI X (.Tuple elts kk tpos) (.Call (.Name "zip" p) [e, e2] [] pos) (iZk X.K k1 k2 ta) := by
  refine ⟨fun pins s σ H R I h => ?_⟩
  refine Call_ (ld_blt I hg hm PyProof.Rows.boot_zip (PyProof.Rows.callWith_type1 (thn (ha.run pos pins s σ H _ I h) fun us s1 ⟨vs, H1, I1, r1, q1⟩ => ?_) hs hpl))
  obtain ⟨a, b, xs, ys, rfl, hqx, hqy, q⟩ := q1
  obtain ⟨u, u2, rfl, ru, ru2⟩ := vals2 r1
  obtain rfl : u = Value.ref a := ru
  obtain rfl : u2 = Value.ref b := ru2
  obtain ⟨its, rv, p1⟩ := sqK I1 hqx
  obtain ⟨its2, rv2, p2⟩ := sqK I1 hqy
  have la := isK_lt p1
  have lb := isK_lt p2
  refine zip_begins2 (beginsK k1 a its.toArray) (beginsK k2 b its2.toArray) p1 p2 fun h' hz hTI hTO o1 o2 hsz keep => wpAny_pyIter_zip hz ?_
  have I2 : Inv X pins σ H1 { s1 with heap := h' } := I1.kept (t' := s1.toks) keep
  refine ⟨s1.heap.objs.size + 4, [s1.heap.objs.size + 4, s1.heap.objs.size + 2, s1.heap.objs.size + 3, s1.heap.objs.size, s1.heap.objs.size + 1], _, _, H1, rfl, I2, turn_zk k1 k2 (zip_sep2 (N := s1.heap.objs.size) (fp1 := [a]) (fp2 := [b]) (fun c hc => ?_) (fun c hc => ?_)) (Nat.ne_of_lt la) (fun e => ?_), ⟨hz, hTI, ⟨_, _, hTO⟩, itK_new o1, itK_new o2⟩, fun c hcm => ?_, q⟩
  · simp at hc; rw [hc]; exact la
  · simp at hc; rw [hc]; exact lb
  · exact Nat.lt_irrefl _ (Nat.lt_of_lt_of_le (Nat.lt_succ_of_lt lb) (Nat.le_of_eq e.symm))
  · have hle : s1.heap.objs.size ≤ c := by
      simp only [List.mem_cons, List.not_mem_nil, or_false] at hcm
      rcases hcm with rfl | rfl | rfl | rfl | rfl
      · exact Nat.le_add_right _ _
      · exact Nat.le_add_right _ _
      · exact Nat.le_add_right _ _
      · exact Nat.le_refl _
      · exact Nat.le_add_right _ _
    exact I1.fpOk hle (I1.hok.fresh hle)
end VZ
namespace VL
open PySem PySem.Spec PyProof.Rows L2 VZ
section
variable {G : Gx} {X : Cx} {e a b c : Expr} {es : List Expr} {pos : Pos}
def enumD (n : Nat) : List D → List D
  | [] => []
  | d :: ds => .tup [.int n, d] :: enumD (n + 1) ds
theorem enumD_get : ∀ (n : Nat) (ds : List D) (i : Nat), (enumD n ds)[i]? = (ds[i]?).map fun d => .tup [.int ((n + i : Nat) : Int), d]
  | n, [], i => by simp [enumD]
  | n, d :: ds, 0 => by simp [enumD]
  | n, d :: ds, i + 1 => by
    rw [enumD, List.getElem?_cons_succ, List.getElem?_cons_succ, enumD_get (n + 1) ds i, show n + 1 + i = n + (i + 1) by omega]
theorem enumD_length : ∀ (n : Nat) (ds : List D), (enumD n ds).length = ds.length
  | n, [] => rfl
  | n, d :: ds => by rw [enumD, List.length_cons, List.length_cons, enumD_length]
theorem walk_ek {K : PySem.W.Frag} {k : Sk} {a : Addr} {xs : List V} : Walk (Iek K k a) xs.length (fun H => SqK K H k a xs) (fun i H v H' => ∃ T x, v = .ref T ∧ H T = none ∧ H' = upd H T (.tup [.int (i : Nat), x]) ∧ xs[i]? = some x) :=
  ⟨fun i H hi q => ⟨xs, xs[i], q, List.getElem?_eq_getElem hi⟩, fun H q => ⟨xs, q, rfl⟩, fun i H x H' _ q ⟨T, y, h1, h2, h3, h4⟩ => ⟨T, y, h1, h2, h3, h4 xs q⟩⟩
theorem walk_zk {K : PySem.W.Frag} {k1 k2 : Sk} {a b : Addr} {xs ys : List V} : Walk (Izk K k1 k2 a b) (min xs.length ys.length) (fun H => SqK K H k1 a xs ∧ SqK K H k2 b ys) (fun i H v H' => ∃ T x y, v = .ref T ∧ H T = none ∧ H' = upd H T (.tup [x, y]) ∧ xs[i]? = some x ∧ ys[i]? = some y) :=
  ⟨fun i H hi q => ⟨xs, ys, xs[i]'(by omega), ys[i]'(by omega), q.1, q.2, List.getElem?_eq_getElem _, List.getElem?_eq_getElem _⟩, fun H q => ⟨xs, ys, q.1, q.2, rfl⟩, fun i H x H' _ q ⟨T, y, z, h1, h2, h3, h4, h5⟩ => ⟨T, y, z, h1, h2, h3, h4 xs q.1, h5 ys q.2⟩⟩
/-- a list or a tuple, by its kind -/
def kindD : D → Option (Sk × List D)
  | .lst xs => some (.l, xs)
  | .tup xs => some (.t, xs)
  | .tz xs => some (.t, xs)
  | .scr xs => some (.l, xs)
  | _ => none
theorem kindD_run {K : PySem.W.Frag} (hK : G.K = K) {F : Hp} {v : V} {d : D} {k : Sk} {ds : List D} (r : RD G F v d) (e : kindD d = some (k, ds)) : ∃ p xs, v = .ref p ∧ RDs G F xs ds ∧ ∀ F' H', Ex F F' → ExH F' H' → SqK K H' k p xs := by
  unfold kindD at e
  split at e
  · cases e; cases r with
    | lst s r => exact ⟨_, _, rfl, r, fun F' H' ex eh => eh.l (G := ⟨K, G.cl, []⟩) (.of (ex _ _ s))⟩
  · cases e; cases r with
    | tup s r => exact ⟨_, _, rfl, r, fun F' H' ex eh => eh.t (G := ⟨K, G.cl, []⟩) (.of (ex _ _ s))⟩
  · cases e; cases r with
    | tz s _ _ r => exact ⟨_, _, rfl, r, fun F' H' ex eh => eh.t (G := ⟨K, G.cl, []⟩) (.inl (.inr ⟨_, ex _ _ s⟩))⟩
  · cases e; cases r with
    | scr s r => exact ⟨_, _, rfl, r, fun F' H' ex eh => eh.l (G := ⟨K, G.cl, []⟩) (ex.hh.l (G := ⟨K, G.cl, []⟩) (by rw [← hK]; exact s))⟩
  · cases e
def iEnum (f : DF) : IF := fun ρ => (f ρ).bind fun p => (kindD p.1).map fun z => (enumD 0 z.2, p.2)
theorem vi_enum {tpos : Pos} {elts : List Expr} {kk : Nat} {f : DF} {p : Pos} (hK : G.K = X.K) (hg : Gl X "enumerate") (hm : X.mg "enumerate" = none) (ha : VX G X e f) (hs : starEach [e] X.env = [(false, eval e X.env)] := by rfl) :
    VI G X (.Tuple elts kk tpos) (.Call (.Name "enumerate" p) [e] [] pos) (iEnum f) :=
  piImp (PI.or (pi_ek .l hg hm (pa_cons ha pa_nil hs) hs) (pi_ek .t hg hm (pa_cons ha pa_nil hs) hs)) fun σ H R ⟨F, κ, ρ, ds, ρ', S, q, k⟩ => by
    obtain ⟨d, q1, q2⟩ := bind2_ok (δ := D) (g := fun d => (kindD d).map fun z => enumD 0 z.2) (by
      unfold iEnum at q
      rw [← q]
      first | done | (congr 1; funext p; cases kindD p.1 <;> rfl))
    cases q3 : kindD d with
    | none => rw [q3] at q2; cases q2
    | some z =>
      obtain ⟨kd, xs⟩ := z
      rw [q3] at q2
      cases q2
      have key : ∀ v F1 κ1 H1, SS G F1 κ1 σ H1 ρ' → Step F κ H F1 κ1 H1 → RD G F1 v d → ∃ p ys, v = .ref p ∧ SqK X.K H1 kd p ys ∧ R (Iek X.K kd p) H1 := fun v F1 κ1 H1 S1 s1 r1 => by
        obtain ⟨p, ys, rfl, rs, hq⟩ := kindD_run hK r1 q3
        have hl : ys.length = xs.length := RDs.length rs
        refine ⟨p, ys, rfl, hq F1 H1 (Ex.refl _) S1.exh, k _ F1 κ1 H1 S1 s1 ⟨_, _, by rw [enumD_length, ← hl]; exact walk_ek, fun F' H' ex eh => hq F' H' ex eh, fun i d' F' κ' σ' H' ρ'' x H'' e ex S' y => ?_⟩⟩
        obtain ⟨T, w, rfl, hT, rfl, hw⟩ := y
        rw [enumD_get] at e
        cases q4 : xs[i]? with
        | none => rw [q4] at e; cases e
        | some d2 =>
          rw [q4] at e
          cases e
          obtain ⟨w', hw', rw'⟩ := RDs.get rs q4
          rw [hw] at hw'; cases hw'
          refine ⟨_, S'.fresh hT, .fresh S' hT, .tup upd_same (.cons ?_ (.cons ((rw'.mono' ex).mono' (Ex.new (S'.free hT).1)) .nil))⟩
          rw [Nat.zero_add]; exact .int _
      cases kd with
      | l => exact .inl ⟨F, κ, ρ, d, ρ', S, q1, fun v F1 κ1 H1 S1 s1 r1 => by
          obtain ⟨p, ys, rfl, h1, h2⟩ := key v F1 κ1 H1 S1 s1 r1
          exact ⟨p, ys, rfl, h1, h2⟩⟩
      | t => exact .inr ⟨F, κ, ρ, d, ρ', S, q1, fun v F1 κ1 H1 S1 s1 r1 => by
          obtain ⟨p, ys, rfl, h1, h2⟩ := key v F1 κ1 H1 S1 s1 r1
          exact ⟨p, ys, rfl, h1, h2⟩⟩
def zipD : List D → List D → List D
  | x :: xs, y :: ys => .tup [x, y] :: zipD xs ys
  | _, _ => []
theorem zipD_length : ∀ xs ys : List D, (zipD xs ys).length = min xs.length ys.length
  | [], _ => by simp [zipD]
  | _ :: _, [] => by simp [zipD]
  | x :: xs, y :: ys => by simp [zipD, zipD_length xs ys]
theorem zipD_get : ∀ (xs ys : List D) (i : Nat) (d : D), (zipD xs ys)[i]? = some d → ∃ x y, xs[i]? = some x ∧ ys[i]? = some y ∧ d = .tup [x, y]
  | [], _, i, d, h => by simp [zipD] at h
  | _ :: _, [], i, d, h => by simp [zipD] at h
  | x :: xs, y :: ys, 0, d, h => by simp [zipD] at h; exact ⟨x, y, rfl, rfl, h.symm⟩
  | x :: xs, y :: ys, i + 1, d, h => by
    simp only [zipD, List.getElem?_cons_succ] at h ⊢
    exact zipD_get xs ys i d h
def iZip (f g : DF) : IF := fun ρ => (f ρ).bind fun p => (g p.2).bind fun q => (kindD p.1).bind fun z1 => (kindD q.1).map fun z2 => (zipD z1.2 z2.2, q.2)
theorem vi_zip {tpos : Pos} {elts : List Expr} {kk : Nat} {f g : DF} {p : Pos} (hK : G.K = X.K) (hg : Gl X "zip") (hm : X.mg "zip" = none) (ha : VX G X a f) (hb : VX G X b g) (hs : starEach [a, b] X.env = (false, eval a X.env) :: starEach [b] X.env := by rfl) (hs2 : starEach [b] X.env = (false, eval b X.env) :: starEach [] X.env := by rfl)
    (hpl : (backTo pos (starEach [b] X.env)).any (·.1) = false := by rfl) : VI G X (.Tuple elts kk tpos) (.Call (.Name "zip" p) [a, b] [] pos) (iZip f g) := by
  have pa := pa_cons ha (pa_cons hb pa_nil hs2) hs
  refine piImp (PI.or (pi_zk .l .l hg hm pa hs hpl) (PI.or (pi_zk .l .t hg hm pa hs hpl) (PI.or (pi_zk .t .l hg hm pa hs hpl) (pi_zk .t .t hg hm pa hs hpl)))) fun σ H R ⟨F, κ, ρ, ds, ρ', S, q, k⟩ => ?_
  unfold iZip at q
  cases q1 : f ρ with
  | none => rw [q1] at q; cases q
  | some p =>
    obtain ⟨d1, ρ1⟩ := p
    rw [q1] at q
    simp only [Option.bind_some] at q
    cases q2 : g ρ1 with
    | none => rw [q2] at q; cases q
    | some p =>
      obtain ⟨d2, ρ2⟩ := p
      rw [q2] at q
      simp only [Option.bind_some] at q
      cases q3 : kindD d1 with
      | none => rw [q3] at q; cases q
      | some z1 =>
        obtain ⟨k1, xs⟩ := z1
        rw [q3] at q
        simp only [Option.bind_some] at q
        cases q4 : kindD d2 with
        | none => rw [q4] at q; cases q
        | some z2 =>
          obtain ⟨k2, ys⟩ := z2
          rw [q4] at q
          cases q
          have key : iZk X.K k1 k2 (tCons (tD G f) (tCons (tD G g) tNil)) σ H R := by
            refine ⟨F, κ, ρ, d1, ρ1, S, q1, fun v F1 κ1 H1 S1 s1 r1 => ⟨F1, κ1, ρ1, d2, _, S1, q2, fun w F2 κ2 H2 S2 s2 r2 => ?_⟩⟩
            obtain ⟨p1, vs, rfl, rs1, hq1⟩ := kindD_run hK (r1.mono' s2.ext) q3
            obtain ⟨p2, ws, rfl, rs2, hq2⟩ := kindD_run hK r2 q4
            have l1 : vs.length = xs.length := RDs.length rs1
            have l2 : ws.length = ys.length := RDs.length rs2
            refine ⟨p1, p2, vs, ws, rfl, hq1 F2 H2 (Ex.refl _) S2.exh, hq2 F2 H2 (Ex.refl _) S2.exh, k (Izk X.K k1 k2 p1 p2) F2 κ2 H2 S2 (s1.trans s2) ⟨fun H => SqK X.K H k1 p1 vs ∧ SqK X.K H k2 p2 ws, _, by rw [zipD_length, ← l1, ← l2]; exact walk_zk, fun F' H' ex eh => ⟨hq1 F' H' ex eh, hq2 F' H' ex eh⟩, fun i d' F' κ' σ' H' ρ'' x H'' e ex S' y => ?_⟩⟩
            obtain ⟨T, w1, w2, rfl, hT, rfl, hw1, hw2⟩ := y
            obtain ⟨x1, y1, hx1, hy1, rfl⟩ := zipD_get xs ys i d' e
            obtain ⟨u1, hu1, ru1⟩ := RDs.get rs1 hx1
            obtain ⟨u2, hu2, ru2⟩ := RDs.get rs2 hy1
            rw [hw1] at hu1; cases hu1
            rw [hw2] at hu2; cases hu2
            have en := Ex.new (o := HO.tup [w1, w2]) (S'.free hT).1
            exact ⟨_, S'.fresh hT, .fresh S' hT, .tup upd_same (.cons ((ru1.mono' ex).mono' en) (.cons ((ru2.mono' ex).mono' en) .nil))⟩
          cases k1 <;> cases k2
          · exact .inl key
          · exact .inr (.inl key)
          · exact .inr (.inr (.inl key))
          · exact .inr (.inr (.inr key))
end
end VL
set_option Elab.async false
set_option linter.all false
set_option maxRecDepth 100000
set_option maxHeartbeats 4000000
namespace VL
open PySem PySem.Spec PyProof.Rows L2 VZ
section
variable {G : Gx} {X : Cx} {e a b c : Expr} {es : List Expr} {pos : Pos}
/-! ### slices -/
abbrev PF := Env' → Option (Option Int × Env')
def tP (G : Gx) (f : PF) : TO := fun σ H Q => ∃ F κ ρ o ρ', SS G F κ σ H ρ ∧ f ρ = some (o, ρ') ∧ ∀ F' κ' H', SS G F' κ' σ H' ρ' → Step F κ H F' κ' H' → Q o H'
abbrev VPt (G : Gx) (X : Cx) (e : Option Expr) (f : PF) : Prop := PO X e (tP G f)
def pNone : PF := fun ρ => some (none, ρ)
def pSome (f : DF) : PF := fun ρ => (f ρ).bind fun p => p.1.toInt.map fun i => (some i, p.2)
theorem poImp {o : Option Expr} {t t' : TO} (h : PO X o t) (k : ∀ σ H Q, t' σ H Q → t σ H Q) : PO X o t' := by
  cases h with
  | mk run => exact ⟨fun pins s σ H Q I q => run pins s σ H Q I (k σ H Q q)⟩
theorem vp_none : VPt G X none pNone := poImp po_none fun σ H Q ⟨F, κ, ρ, o, ρ', S, q, k⟩ => by
  cases q
  exact k F κ H S .refl
theorem vp_some {f : DF} (h : VX G X e f) : VPt G X (some e) (pSome f) := poImp (po_some h) fun σ H Q ⟨F, κ, ρ, o, ρ', S, q, k⟩ => by
  unfold pSome at q
  cases q1 : f ρ with
  | none => rw [q1] at q; cases q
  | some p =>
    obtain ⟨d, ρ1⟩ := p
    rw [q1] at q
    simp only [Option.bind_some] at q
    cases q2 : d.toInt with
    | none => rw [q2] at q; cases q
    | some i =>
      rw [q2] at q
      cases q
      obtain rfl := D.toInt_ok q2
      exact ⟨F, κ, ρ, _, _, S, q1, fun v F1 κ1 H1 S1 s1 r1 => ⟨i, r1.int_inv, k F1 κ1 H1 S1 s1⟩⟩
def cutL {α : Type} (xs : List α) (lo hi : Option Int) : List α := (xs.drop (HT.sIx xs.length 0 lo)).take (HT.sIx xs.length xs.length hi - HT.sIx xs.length 0 lo)
theorem cutV_eq (xs : List V) (lo hi : Option Int) : cutV xs lo hi = cutL xs lo hi := rfl
theorem RDs.cut {F : Hp} {vs : List V} {ds : List D} (r : RDs G F vs ds) (lo hi : Option Int) : RDs G F (cutL vs lo hi) (cutL ds lo hi) := by
  unfold cutL
  rw [RDs.length r]
  exact RDs.take _ (RDs.drop _ r)
def gCut (d : D) (lo hi : Option Int) : Option D := match d with
  | .lst xs => some (.lst (cutL xs lo hi))
  | .tup xs => some (.tup (cutL xs lo hi))
  | .str z => if z.length ≤ lim then some (.str (cutS z lo hi)) else none
  | _ => none
def dCut (f : DF) (l h : PF) : DF := fun ρ => (f ρ).bind fun p => (l p.2).bind fun q => (h q.2).bind fun r => (gCut p.1 q.1 r.1).map fun d => (d, r.2)
def rSlAll (K : PySem.W.Frag) : V → Option Int → Option Int → Hp → VK → Prop := fun x lo hi H Q => rSlL K x lo hi H Q ∨ rSlA K x lo hi H Q ∨ rSlS x lo hi H Q
theorem sl_all : SlR X (rSlAll X.K) := sl_list.or (sl_tupA.or sl_str)
theorem cutL_whole {α : Type} {xs : List α} {lo hi : Option Int} (h : HT.sIx xs.length 0 lo = 0 ∧ HT.sIx xs.length xs.length hi = xs.length) : cutL xs lo hi = xs := by
  unfold cutL
  rw [h.1, h.2]
  simp
theorem vx_cut {lo hi : Option Expr} {p2 : Pos} {f : DF} {l h : PF} (ha : VX G X a f) (hl : VPt G X lo l) (hh : VPt G X hi h) : VX G X (.Subscript a (.Slice lo hi none p2) pos) (dCut f l h) := peImp (pe_slice sl_all ha hl hh) fun σ H Q ⟨F, κ, ρ, d, ρ', S, q, k⟩ => by
  unfold dCut at q
  cases q1 : f ρ with
  | none => rw [q1] at q; cases q
  | some p =>
    obtain ⟨x, ρ1⟩ := p
    rw [q1] at q
    simp only [Option.bind_some] at q
    cases q2 : l ρ1 with
    | none => rw [q2] at q; cases q
    | some p =>
      obtain ⟨ol, ρ2⟩ := p
      rw [q2] at q
      simp only [Option.bind_some] at q
      cases q3 : h ρ2 with
      | none => rw [q3] at q; cases q
      | some p =>
        obtain ⟨oh, ρ3⟩ := p
        rw [q3] at q
        simp only [Option.bind_some] at q
        cases q4 : gCut x ol oh with
        | none => rw [q4] at q; cases q
        | some y =>
          rw [q4] at q
          cases q
          refine ⟨F, κ, ρ, x, ρ1, S, q1, fun v F1 κ1 H1 S1 s1 r1 => ⟨F1, κ1, ρ1, ol, ρ2, S1, q2, fun F2 κ2 H2 S2 s2 => ⟨F2, κ2, ρ2, oh, _, S2, q3, fun F3 κ3 H3 S3 s3 => ?_⟩⟩⟩
          have st := (s1.trans s2).trans s3
          have r3 := (r1.mono' s2.ext).mono' s3.ext
          have kk : Gives G F3 κ3 σ H3 ρ' d Q := fun v F4 κ4 H4 S4 s4 r4 => k v F4 κ4 H4 S4 (st.trans s4) r4
          unfold gCut at q4
          split at q4
          · cases q4
            cases r3 with
            | lst s r => exact .inl ⟨_, _, rfl, .of (S3.lstF s), fun p hp => by rw [cutV_eq]; exact kk.newL S3 (RDs.cut r ol oh) hp⟩
          · cases q4
            cases r3 with
            | tup s r =>
              refine .inr (.inl ⟨_, _, rfl, .of (S3.tupF s), fun hw => ?_, fun _ p hp => by rw [cutV_eq]; exact kk.newT S3 (RDs.cut r ol oh) hp⟩)
              rw [RDs.length r] at hw
              rw [cutL_whole hw] at kk
              exact kk.here S3 (.tup s r)
          · split at q4
            · rename_i z hz
              cases q4
              cases r3
              exact .inr (.inr ⟨_, rfl, lim_le hz, kk.here S3 (.str _)⟩)
            · cases q4
          · cases q4
/-! ### xs.index(y) -/
def idxD (y : PyData) : List PyData → Option Nat
  | [] => none
  | z :: zs => if PyData.eqv z y = true then some 0 else (idxD y zs).map (· + 1)
theorem idxD_ok {y : PyData} : ∀ {zs : List PyData} {j : Nat}, idxD y zs = some j → ∃ z, zs[j]? = some z ∧ PyData.eqv z y = true ∧ ∀ (m : Nat) (z' : PyData), m < j → zs[m]? = some z' → PyData.eqv z' y = false
  | [], j, h => by cases h
  | z :: zs, j, h => by
    unfold idxD at h
    split at h
    · rename_i e
      cases h
      exact ⟨z, rfl, e, fun m z' hm _ => absurd hm (Nat.not_lt_zero _)⟩
    · rename_i e
      cases q : idxD y zs with
      | none => rw [q] at h; cases h
      | some i =>
        rw [q] at h
        cases h
        obtain ⟨z1, h1, h2, h3⟩ := idxD_ok q
        refine ⟨z1, by simpa using h1, h2, fun m z' hm hz => ?_⟩
        cases m with
        | zero => simp at hz; subst hz; simpa using e
        | succ m => exact h3 m z' (Nat.lt_of_succ_lt_succ hm) (by simpa using hz)
def dIndex (f : DF) (g : LF) : DF := fun ρ => (f ρ).bind fun p => match p.1 with
  | .lst xs => (g p.2).bind fun q => match q.1 with
    | [y] => if (D.lst xs).dat = true ∧ y.dat = true then (idxD y.py (D.pys xs)).map fun j => (.int j, q.2) else none
    | _ => none
  | _ => none
theorem vx_index {f : DF} {g : LF} {apos : Pos} (hK : G.K = X.K) (hu : X.A.units + 65 < cLine) (ha : VX G X a f) (hb : VA G X (e :: es) g) (hbase : attributeBase a "index" X.env (eval a X.env) = eval a X.env := by rfl)
    (hfew : ((backTo pos (starEach (e :: es) X.env)).all (fun x => !x.1) && (backToKw pos (keywordEach [] X.env)).all (fun x => x.1.isSome) && decide ((e :: es).length + ([] : List Keyword).length + (if ([] : List Keyword).isEmpty then 0 else 1) < 30)) = true := by rfl)
    (hline : (apos.endLine == pos.line) = true := by rfl) (hs : starEach (e :: es) X.env = (false, eval e X.env) :: starEach es X.env := by rfl) (hplain : (backTo pos (starEach es X.env)).any (·.1) = false := by rfl) :
    VX G X (.Call (.Attribute a "index" apos) (e :: es) [] pos) (dIndex f g) := peImp (pe_bm PySem.F.plainAttrs_list PySem.F.slot_list_index PySem.F.type_list_index (mt_indexD hu) ha hb hbase hfew hline hs hplain) fun σ H Q ⟨F, κ, ρ, d, ρ', S, q, k⟩ => by
  unfold dIndex at q
  cases q1 : f ρ with
  | none => rw [q1] at q; cases q
  | some p =>
    obtain ⟨x, ρ1⟩ := p
    rw [q1] at q
    simp only [Option.bind_some] at q
    split at q
    · rename_i xs
      cases q2 : g ρ1 with
      | none => rw [q2] at q; cases q
      | some p =>
        obtain ⟨ys, ρ2⟩ := p
        rw [q2] at q
        simp only [Option.bind_some] at q
        split at q
        · rename_i y
          split at q
          · rename_i hd
            cases q3 : idxD y.py (D.pys xs) with
            | none => rw [q3] at q; cases q
            | some j =>
              rw [q3] at q
              cases q
              refine ⟨F, κ, ρ, _, ρ1, S, q1, fun v F1 κ1 H1 S1 s1 r1 => ?_⟩
              have r0 := r1
              cases r1 with
              | lst s r =>
                refine ⟨.inl ⟨rfl, _, .of (S1.lstF s)⟩, F1, κ1, ρ1, _, _, S1, q2, fun ws F2 κ2 H2 S2 s2 r2 => ?_⟩
                obtain ⟨w, rfl, rw'⟩ := RDs.one r2
                obtain ⟨z, z1, z2, z3⟩ := idxD_ok q3
                have hdp := (S2.rd (r0.mono' s2.ext)).dp hK hd.1
                have hsh : SeqAt.shaped (D.lst xs).py = true := hd.1
                rw [D.py] at hdp hsh
                exact ⟨_, w, y.py, D.pys xs, j, z, rfl, rfl, hdp, (S2.rd rw').dp hK hd.2, hsh, hd.2, z1, z2, z3, k _ F2 κ2 H2 S2 (s1.trans s2) (.int _)⟩
          · cases q
        · cases q
    · cases q
/-! ### isinstance -/
def tyD : D → Option String
  | .non => some "NoneType"
  | .bl _ => some "bool"
  | .int _ => some "int"
  | .str _ => some "str"
  | .lst _ => some "list"
  | .tup _ => some "tuple"
  | .tz _ => some "tuple"
  | _ => none
def isB (a b : String) : Bool := a == b || (a == "bool" && b == "int")
def tys : List String := ["NoneType", "bool", "int", "str", "list", "tuple"]
def tgs : List String := ["bool", "int", "str", "list", "tuple", "dict"]
theorem kitB_table : (tys.all fun a => tgs.all fun b => decide (kitB a b = some (isB a b))) = true := by decide +kernel
theorem kitB_at {a b : String} (ha : a ∈ tys) (hb : b ∈ tgs) : kitB a b = some (isB a b) := by
  have h := kitB_table
  rw [List.all_eq_true] at h
  have h1 := h a ha
  rw [List.all_eq_true] at h1
  exact of_decide_eq_true (h1 b hb)
theorem tyD_run {F : Hp} {κ : Col} {σ : L2.St} {H : Hp} {ρ : Env'} {v : V} {d : D} {t : String} {K : PySem.W.Frag} (S : SS G F κ σ H ρ) (r : RD G F v d) (e : tyD d = some t) : TyX K H v (.type t) ∧ t ∈ tys := by
  unfold tyD at e
  split at e
  · cases e; cases r; exact ⟨.base .non, by decide⟩
  · cases e; cases r; exact ⟨.base (.bl _), by decide⟩
  · cases e; cases r; exact ⟨.base (.int _), by decide⟩
  · cases e; cases r; exact ⟨.base (.str _), by decide⟩
  · cases e; cases r with | lst s r => exact ⟨.base (.lst (S.lstF s)), by decide⟩
  · cases e; cases r with | tup s r => exact ⟨.base (.tup (S.tupF s)), by decide⟩
  · cases e; cases r with | tz s _ _ _ => exact ⟨.fTuple (S.tzF s), by decide⟩
  · cases e
def dIsi (Ts : List String) (f : DF) : DF := fun ρ => (f ρ).bind fun p => (tyD p.1).map fun t => (.bl (Ts.any fun T => isB t T), p.2)
theorem vx_isi {T : String} {x : Str} {p p2 : Pos} {f : DF} (hT : T ∈ tgs) (ha : VX G X a f) (hg : Gl X "isinstance") (hm : X.mg "isinstance" = none) (hg2 : Gl X x) (hm2 : X.mg x = none) (hv2 : bootBuiltins x = some (.type T)) (hb : bootBuiltins "isinstance" = some (.builtin "isinstance"))
    (he : starEach [a, .Name x p2] X.env = (false, eval a X.env) :: starEach [.Name x p2] X.env := by rfl) (he2 : starEach [.Name x p2] X.env = (false, eval (.Name x p2) X.env) :: starEach [] X.env := by rfl) (hpl : (backTo pos (starEach [.Name x p2] X.env)).any (·.1) = false := by rfl)
    (hn : x ≠ "__name__" := by decide) (hdb : (x == ("__debug__" : Str)) = false := by decide) :
    VX G X (.Call (.Name "isinstance" p) [a, .Name x p2] [] pos) (dIsi [T] f) :=
  peImp (pe_callB call_isi hg hm hb (pa_cons ha (pa_cons (pe_bltn (v := .ty T) hg2 hm2 hv2 rfl hn hdb) pa_nil he2) he) (by decide) (by decide) he hpl) fun σ H Q ⟨F, κ, ρ, d, ρ', S, q, k⟩ => by
    unfold dIsi at q
    cases q1 : f ρ with
    | none => rw [q1] at q; cases q
    | some p =>
      obtain ⟨x, ρ1⟩ := p
      rw [q1] at q
      simp only [Option.bind_some] at q
      cases q2 : tyD x with
      | none => rw [q2] at q; cases q
      | some t =>
        rw [q2] at q
        cases q
        refine ⟨F, κ, ρ, x, _, S, q1, fun v F1 κ1 H1 S1 s1 r1 => ?_⟩
        obtain ⟨h1, h2⟩ := tyD_run (K := X.K) S1 r1 q2
        refine ⟨v, _, _, _, _, rfl, .ty T, h1, kit_ty (kitB_at h2 hT), ?_⟩
        have : ([T].any fun T => isB t T) = isB t T := by simp
        rw [← this]
        exact k _ F1 κ1 H1 S1 s1 (.bl _)
end
end VL
set_option Elab.async false
set_option linter.all false
set_option maxRecDepth 100000
set_option maxHeartbeats 4000000
namespace VL
open PySem PySem.Spec PyProof.Rows L2

/-! ### a key tuple becomes data -/
section
variable {G : Gx} {F : Hp} {κ : Col} {σ : L2.St} {H : Hp} {ρ : Env'}
end

/-! ### what is walked over stands ahead -/
section
variable {G : Gx} {X : Cx} {e a b c : Expr} {es : List Expr} {pos : Pos}
/-! ### for k in d -/
end
end VL
set_option Elab.async false
set_option linter.all false
set_option maxRecDepth 100000
set_option maxHeartbeats 4000000
namespace VL
open PySem PySem.Spec PyProof.Rows L2

/-! ### dict(d), tuple keys -/
section
variable {X : Cx}
theorem call_dictT (hu : X.A.units + 4 < cLine) : CallR X (.type "dict") (fun xs H Q => ∃ (a : Addr) (kvs : List (List Key × V)), xs = [.ref a] ∧ Rd H a (.dT kvs) ∧ (kvs.map fun kv => (tupleKind (mixKind X.prog X.w)).hash kv.1).Nodup ∧ ∀ p, H p = none → Q (.ref p) (upd H p (.dT kvs))) := by
  intro pins s σ H xs us Q I r q
  obtain ⟨a, kvs, ex, hd, hh, q⟩ := q
  subst ex
  obtain ⟨u, eu, rx⟩ := vals1 r
  subst eu
  cases rx
  obtain ⟨z, lo, more, rel, dd⟩ := dt_rd I.hok hd
  have hsz : more.length ≤ sizeLine := by rw [← Paired.length rel]; exact z
  have hkeys : (more.map fun x => (tupleKind (mixKind X.prog X.w)).hash x.1) = kvs.map fun kv => (tupleKind (mixKind X.prog X.w)).hash kv.1 := by
    clear dd hsz hd q hh I z
    induction rel with
    | nil => rfl
    | cons h t ih => rw [List.map_cons, List.map_cons, ih, h.1]
  have hty : ∀ x ∈ more, s.TypeIs (.ref x.2.1) "tuple" := by
    obtain ⟨o, es, ep, _, _, _, _, his, _⟩ := id dd
    exact fun x hx => (his x hx).typeIs
  refine callType_codes (Q₁ := fun obj s₁ => obj = .ref s.heap.objs.size ∧ s₁ = { s with heap := s.heap.push { cls := .type "dict", data := .dict #[] } }) PySem.F.kt_called_dict (PySem.F.kt_typeCall_dict_1 _) PySem.F.entry_dict_init (kt_code_dict_new _ ⟨rfl, rfl⟩) ?_
  rintro obj s₁ ⟨rfl, rfl⟩
  have hnew : (s.heap.push { cls := .type "dict", data := .dict #[] }).DictOfH (tupleKind (mixKind X.prog X.w)) s.heap.objs.size [] := Heap.DictOfH.new s.heap
  have dd' : (s.heap.push { cls := .type "dict", data := .dict #[] }).DictOfH (tupleKind (mixKind X.prog X.w)) a more := by
    obtain ⟨o, es, ep, h1, h2, h3, h4, h5, h6⟩ := dd
    exact ⟨o, es, ep, Heap.get?_push_of_some _ h1, h2, h3, h4, fun x hx => by
      obtain ⟨ob, its, n, k1, k2, k3, k4⟩ := h5 x hx
      exact ⟨ob, its, n, Heap.get?_push_of_some _ k1, k2, k3, k4⟩, h6⟩
  have hdo : s.heap.objs.size ≠ a := by
    obtain ⟨o, es, ep, h1, _⟩ := dd
    exact fun e => absurd (Heap.lt_size h1) (by rw [e]; exact Nat.lt_irrefl _)
  refine ⟨hnew.typeIs, PySem.F.args_dict_init_2 _ _, ?_⟩
  unfold Builtin.«dict.__init__»
  refine wpAny_bind ?_
  unfold Builtin.Dict.selfAndRest
  refine wpAny_bind (wpAny_notOrdered_dict hnew.typeIs ?_)
  show wpAny _ _ (pure (s.heap.objs.size, [Value.ref a])) _ _ _
  refine wpAny_pure ?_
  show wpAny _ _ (Builtin.Dict.updateFrom "dict.__init__" s.heap.objs.size (.ref a) [] .none) _ _ _
  refine updateFrom_dictH .none (A := X.A.in1) (tupleKind_room_in1 (by rw [units_in1]; omega)) hdo lo hnew dd' (.inr ⟨fun x hx => ?_, by rw [hkeys]; exact hh⟩) (by simpa using hsz) fun h' d1 d2 hs => ?_
  · obtain ⟨ob, e1, e2⟩ := hty x hx
    exact ⟨ob, Heap.get?_push_of_some _ e1, e2⟩
  · rw [storedAllH_nil_of_nodup more dd.nodup] at d1
    have hm : (s.heap.objs.size == sysModules) = false := beq_eq_false_iff_ne.mpr (Nat.ne_of_gt I.big)
    have hn : H s.heap.objs.size = none := I.hok.fresh (Nat.le_refl _)
    obtain ⟨o, es, ep, h1, h2, h3, h4, h5, h6⟩ := d1
    refine ⟨rfl, .ref s.heap.objs.size, upd H s.heap.objs.size (.dT kvs), I.laid (t' := s.toks) (fun b u e => (hs.2 b (Nat.ne_of_lt (Heap.lt_size e))).trans (Heap.get?_push_of_some _ e)) (Nat.le_refl _)
      (show ObjOk X.prog X.w _ _ _ (.dT kvs) from ⟨z, hm, more, Paired.mapP rel fun p q zz => ⟨zz.1, by rw [upd_ne (ne_of_none zz.2.1 hn)]; exact zz.2.1, zz.2.2⟩, o, es, ep, h1, h2, h3, h4, h6⟩), rfl, q _ hn⟩
end

/-! ### the hashes of pairs of small ints stand apart -/
def hash2 (i j : Int) : Int := reduceHash (Builtin.Tuple.tupleHashOf [hashInt i, hashInt j])
def smallPairs : List (Int × Int) := (List.range 5).flatMap fun (i : Nat) => (List.range 128).map fun (j : Nat) => ((i : Int), (j : Int))
/-- no two alike, told quickly: each has a bit of its own -/
def bitsB (x : Int) : Nat := (x % 3184).toNat
def bitsQ : List Int → Nat → Bool
  | [], _ => true
  | x :: r, acc => !(acc.testBit (bitsB x)) && bitsQ r (acc ||| 2 ^ bitsB x)
theorem bitsQ_ok : ∀ {l : List Int} {acc : Nat}, bitsQ l acc = true → l.Nodup ∧ ∀ x ∈ l, acc.testBit (bitsB x) = false
  | [], _, _ => ⟨List.nodup_nil, fun x hx => nomatch hx⟩
  | x :: r, acc, h => by
    unfold bitsQ at h
    rw [Bool.and_eq_true] at h
    obtain ⟨h1, h2⟩ := bitsQ_ok h.2
    have h3 : acc.testBit (bitsB x) = false := by simpa using h.1
    have h4 : ∀ y ∈ r, acc.testBit (bitsB y) = false ∧ bitsB y ≠ bitsB x := fun y hy => by
      have := h2 y hy
      rw [Nat.testBit_or, Bool.or_eq_false_iff] at this
      refine ⟨this.1, fun e => ?_⟩
      have q := this.2
      rw [e, Nat.testBit_two_pow_self] at q
      cases q
    refine ⟨List.nodup_cons.mpr ⟨fun hm => (h4 x hm).2 rfl, h1⟩, fun y hy => ?_⟩
    rcases List.mem_cons.mp hy with rfl | hy
    · exact h3
    · exact (h4 y hy).1
theorem hash2_nodup : (smallPairs.map fun p => hash2 p.1 p.2).Nodup := (bitsQ_ok (acc := 0) (by decide +kernel)).1
def smallKey : List Key → Bool
  | [.inl i, .inl j] => decide (0 ≤ i ∧ i < 5 ∧ 0 ≤ j ∧ j < 128)
  | _ => false
theorem inj_of_nodup {α β : Type} {f : α → β} : ∀ {l : List α}, (l.map f).Nodup → ∀ a ∈ l, ∀ b ∈ l, f a = f b → a = b
  | [], _, a, h, _, _, _ => nomatch h
  | x :: l, h, a, ha, b, hb, e => by
    rw [List.map_cons, List.nodup_cons] at h
    rcases List.mem_cons.mp ha with ea | ha1
    · rcases List.mem_cons.mp hb with eb | hb1
      · rw [ea, eb]
      · exact absurd (List.mem_map.mpr ⟨b, hb1, by rw [← e, ea]⟩) h.1
    · rcases List.mem_cons.mp hb with eb | hb1
      · exact absurd (List.mem_map.mpr ⟨a, ha1, by rw [e, eb]⟩) h.1
      · exact inj_of_nodup h.2 a ha1 b hb1 e
theorem hash2_inj {i j k l : Int} (h : 0 ≤ i ∧ i < 5 ∧ 0 ≤ j ∧ j < 128) (h' : 0 ≤ k ∧ k < 5 ∧ 0 ≤ l ∧ l < 128) (e : hash2 i j = hash2 k l) : i = k ∧ j = l := by
  have m : ∀ {i j : Int}, 0 ≤ i ∧ i < 5 ∧ 0 ≤ j ∧ j < 128 → (i, j) ∈ smallPairs := fun {i j} h =>
    List.mem_flatMap.mpr ⟨i.toNat, List.mem_range.mpr (by omega), List.mem_map.mpr ⟨j.toNat, List.mem_range.mpr (by omega), Prod.ext (by show ((i.toNat : Nat) : Int) = i; omega) (by show ((j.toNat : Nat) : Int) = j; omega)⟩⟩
  have := inj_of_nodup (f := fun p : Int × Int => hash2 p.1 p.2) hash2_nodup _ (m h) _ (m h') e
  cases this
  exact ⟨rfl, rfl⟩
theorem smallKey_ok {k : List Key} (h : smallKey k = true) : ∃ i j, k = [.inl i, .inl j] ∧ (0 ≤ i ∧ i < 5 ∧ 0 ≤ j ∧ j < 128) := by
  unfold smallKey at h
  split at h
  · rename_i i j
    exact ⟨i, j, rfl, of_decide_eq_true h⟩
  · cases h
theorem hash_apart (P : Program) (w : World) : ∀ {ks : List (List Key)}, (∀ k ∈ ks, smallKey k = true) → ks.Nodup → (ks.map fun k => (tupleKind (mixKind P w)).hash k).Nodup
  | [], _, _ => List.nodup_nil
  | k :: ks, h, hn => by
    rw [List.nodup_cons] at hn
    rw [List.map_cons, List.nodup_cons]
    refine ⟨fun hm => ?_, hash_apart P w (fun x hx => h x (List.mem_cons_of_mem _ hx)) hn.2⟩
    obtain ⟨x, hx, e⟩ := List.mem_map.mp hm
    obtain ⟨i, j, rfl, b1⟩ := smallKey_ok (h k List.mem_cons_self)
    obtain ⟨i', j', rfl, b2⟩ := smallKey_ok (h x (List.mem_cons_of_mem _ hx))
    have e2 : hash2 i' j' = hash2 i j := e
    obtain ⟨rfl, rfl⟩ := hash2_inj b2 b1 e2
    exact hn.1 hx
def nDict : List D → Option O
  | [.dK kds] => some (.dK (kds.map fun kv => (kv.1, .fz kv.2)))
  | [.dT kds] => if (∀ kv ∈ kds, smallKey kv.1 = true) ∧ (kds.map (·.1)).Nodup then some (.dT (kds.map fun kv => (kv.1, .fz kv.2))) else none
  | _ => none
def rDictA (P : Program) (w : World) : List V → Hp → VK → Prop := fun xs H Q => (∃ (a : Addr) (kvs : List (Key × V)), xs = [.ref a] ∧ Rd H a (.dK kvs) ∧ ∀ p, H p = none → Q (.ref p) (upd H p (.dK kvs))) ∨
  ∃ (a : Addr) (kvs : List (List Key × V)), xs = [.ref a] ∧ Rd H a (.dT kvs) ∧ (kvs.map fun kv => (tupleKind (mixKind P w)).hash kv.1).Nodup ∧ ∀ p, H p = none → Q (.ref p) (upd H p (.dT kvs))
theorem call_dictA {X : Cx} (hu : X.A.units + 4 < cLine) : CallR X (.type "dict") (rDictA X.prog X.w) := call_dictD.or (call_dictT hu)
theorem does_dict {G : Gx} {X : Cx} : DoesNA G (rDictA X.prog X.w) nDict := by
  intro F κ σ H ρ xs as c Q S r e k
  unfold nDict at e
  split at e
  · rename_i kds
    cases e
    obtain ⟨v, rfl, rv⟩ := RDs.one r
    cases rv with
    | @dK _ kvs _ s m rs =>
      refine .inl ⟨_, kvs, rfl, S.exh.rd s, fun p hp => k _ F κ _ (one p) (S.loose hp) (.loose S hp) (.dK one_same upd_same ?_ ?_) fun a q z => ?_⟩
      · rw [m, List.map_map]; rfl
      · rw [List.map_map]
        have : (kds.map ((fun x : Key × O => x.2) ∘ fun kv => (kv.1, O.fz kv.2))) = (kds.map (·.2)).map O.fz := by rw [List.map_map]; rfl
        rw [this]
        exact ROs.ofD rs
      · obtain ⟨rfl, _⟩ := one_some z
        exact ⟨.inl hp, .at upd_same (by intro xs h; cases h), (S.free hp).1, (S.free hp).2⟩
  · rename_i kds
    split at e
    · rename_i hk
      cases e
      obtain ⟨v, rfl, rv⟩ := RDs.one r
      cases rv with
      | @dT _ kvs _ s m rs =>
        refine .inr ⟨_, kvs, rfl, S.exh.rd s, ?_, fun p hp => k _ F κ _ (one p) (S.loose hp) (.loose S hp) (.dT one_same upd_same ?_ ?_) fun a q z => ?_⟩
        · have := hash_apart X.prog X.w (ks := kds.map (·.1)) (fun k hm => by
            obtain ⟨kv, hm1, rfl⟩ := List.mem_map.mp hm
            exact hk.1 kv hm1) hk.2
          rw [← m, List.map_map] at this
          exact this
        · rw [m, List.map_map]; rfl
        · rw [List.map_map]
          have : (kds.map ((fun x : List Key × O => x.2) ∘ fun kv => (kv.1, O.fz kv.2))) = (kds.map (·.2)).map O.fz := by rw [List.map_map]; rfl
          rw [this]
          exact ROs.ofD rs
        · obtain ⟨rfl, _⟩ := one_some z
          exact ⟨.inl hp, .at upd_same (by intro xs h; cases h), (S.free hp).1, (S.free hp).2⟩
    · cases e
  · cases e

section
variable {G : Gx} {X : Cx} {e a b c : Expr} {es : List Expr} {pos : Pos}
/-! ### {} -/
def nDT0 : OF := fun ρ => some (.dT [], ρ)
def nDK0 : OF := fun ρ => some (.dK [], ρ)
theorem vn_dT0 : VN G X (.Dict [] [] pos) nDT0 := peImp pe_dnewT fun σ H Q ⟨F, κ, ρ, d, ρ', S, e, k⟩ => by
  cases e
  intro p hp
  refine k _ F κ _ (one p) (S.loose hp) (.loose S hp) (.dT (kvs := []) one_same upd_same rfl .nil) fun a q z => ?_
  obtain ⟨rfl, _⟩ := one_some z
  exact ⟨.inl hp, .at upd_same (by intro xs h; cases h), (S.free hp).1, (S.free hp).2⟩
theorem vn_dK0 : VN G X (.Dict [] [] pos) nDK0 := peImp pe_dnewK fun σ H Q ⟨F, κ, ρ, d, ρ', S, e, k⟩ => by
  cases e
  intro p hp
  refine k _ F κ _ (one p) (S.loose hp) (.loose S hp) (.dK (kvs := []) one_same upd_same rfl .nil) fun a q z => ?_
  obtain ⟨rfl, _⟩ := one_some z
  exact ⟨.inl hp, .at upd_same (by intro xs h; cases h), (S.free hp).1, (S.free hp).2⟩

/-! ### a < b < c as a value -/
/-! ### e in x, x a name's own tree -/
/-! ### behind a statement a name's tree becomes data -/
def sFrz (i : Nat) (f : SF) : SF := fun ρ => (f ρ).map fun p => match p.1, p.2[i]? with
  | .nx, some (some o) => (.nx, p.2.set i (some (.fz o.freeze)))
  | _, _ => p
theorem vs_frz {P : List Nat} {st : Stmt} {f : SF} (i : Nat) (h : VS G P X st f) : VS G P X st (sFrz i f) := psImp h fun Dn σ H ⟨F, κ, ρ, out, ρ', S, q, k⟩ => by
  unfold sFrz at q
  cases q1 : f ρ with
  | none => rw [q1] at q; cases q
  | some p =>
    obtain ⟨o1, ρ1⟩ := p
    rw [q1] at q
    simp only [Option.map_some, Option.some.injEq] at q
    refine ⟨F, κ, ρ, o1, ρ1, S, q1, ?_⟩
    cases o1 with
    | nx =>
      cases e2 : ρ1[i]? with
      | none => rw [e2] at q; cases q; exact k
      | some z =>
        cases z with
        | none => rw [e2] at q; cases q; exact k
        | some o =>
          rw [e2] at q
          cases q
          intro σ' F' κ' H' S' s' p'
          obtain ⟨v, hv, S2, r, st⟩ := S'.freezeAt e2
          exact k σ' _ _ H' S2 (s'.trans st) p'
    | bk => cases q; exact k
    | ct => cases q; exact k
    | rt o => cases q; exact k
end

/-! ### sorted(d), the keys pairs of ints -/
section
variable {X : Cx}
end
end VL
set_option Elab.async false
set_option linter.all false
set_option maxRecDepth 100000
set_option maxHeartbeats 4000000
namespace VL
open PySem PySem.Spec PyProof.Rows L2

/-! ### sorted -/
def sortI (xs : List Int) : List Int := xs.mergeSort fun x y => decide (x ≤ y)
theorem sortI_perm (xs : List Int) : (sortI xs).Perm xs := List.mergeSort_perm _ _
theorem sortI_sorted (xs : List Int) : (sortI xs).Pairwise (· ≤ ·) := by
  have := List.pairwise_mergeSort (le := fun x y : Int => decide (x ≤ y)) (fun a b c h1 h2 => by simp only [decide_eq_true_eq] at *; omega) (fun a b => by simp only [Bool.or_eq_true, decide_eq_true_eq]; omega) xs
  exact this.imp fun h => of_decide_eq_true h
theorem sortI_uniq {xs ys : List Int} (p : ys.Perm xs) (s : ys.Pairwise (· ≤ ·)) : ys = sortI xs :=
  List.Perm.eq_of_pairwise (fun a b _ _ h1 h2 => by omega) s (sortI_sorted xs) (p.trans (sortI_perm xs).symm)
section
variable {G : Gx} {X : Cx}
end
end VL
set_option Elab.async false
set_option linter.all false
set_option maxRecDepth 100000
set_option maxHeartbeats 4000000
namespace VL
open PySem L2

/-! ### what every frame of the program has, and the rules in short -/
structure Bl (mg : Str → Option Value) : Prop where
  len : mg "len" = none
  range : mg "range" = none
  list : mg "list" = none
  tuple : mg "tuple" = none
  max : mg "max" = none
  min : mg "min" = none
  all : mg "all" = none
  any : mg "any" = none
  sum : mg "sum" = none
  sorted : mg "sorted" = none
  dict : mg "dict" = none
  isinstance : mg "isinstance" = none
  zip : mg "zip" = none
  enumerate : mg "enumerate" = none
  set : mg "set" = none
  str : mg "str" = none
  int : mg "int" = none
  bool : mg "bool" = none
  reversed : mg "reversed" = none
structure Rdy (G : Gx) (X : Cx) : Prop where
  hK : G.K = X.K
  calm : X.calm = true
  hu : X.A.units + 65 < cLine
  nd : X.N.Nodup
  own : PassesOwn (model X.prog X.w) X.A X.env X.xe
  bl : Bl X.mg
theorem Rdy.u1 {G : Gx} {X : Cx} (R : Rdy G X) : X.A.units + 1 < cLine := by have := R.hu; omega
theorem Rdy.u4 {G : Gx} {X : Cx} (R : Rdy G X) : X.A.units + 4 < cLine := by have := R.hu; omega
theorem Rdy.u64 {G : Gx} {X : Cx} (R : Rdy G X) : X.A.units + 64 < cLine := by have := R.hu; omega
theorem fnF_hn {m n : Nat} {P : List Nat} {b : SF} : ∀ os z, fnF m n P b os = some z → os.length = n := fun os z h => by
  unfold fnF at h
  split at h
  · assumption
  · cases h
/-- a def of the module -/
structure DefAt (K : PySem.W.Frag) (mg : Str → Option Value) (x : Str) (st : Stmt) (ps : List Str) where
  fa : Addr
  fd : FuncData
  F : Fun K x x st fa fd
  m : mg x = some (.ref fa)
  B : Binds K fd ps []
/-- a method -/
structure MethAt (K : PySem.W.Frag) (C : Addr) (x qual : Str) (st : Stmt) (ps : List Str) where
  fa : Addr
  fd : FuncData
  F : Fun K x qual st fa fd
  M : Meth K C x fa
  B : Binds K fd ps []
/-- a class with its __init__ -/
structure MakeAt (K : PySem.W.Frag) (mg : Str → Option Value) (C : Addr) (x qual : Str) (st : Stmt) (ps : List Str) where
  fa : Addr
  fd : FuncData
  F : Fun K "__init__" qual st fa fd
  M : Mk K C fa
  m : mg x = some (.ref C)
  B : Binds K fd ps []
section
variable {G : Gx} {X : Cx} {a b c e : Expr} {es : List Expr} {pos : Pos} {f h i : DF}
theorem c_nint {n : Int} {j : Nat} {p : Pos} : VX G X (.UnaryOp .USub (.Constant (.int n) j p) pos) (dC (.int (-n))) := peImp (vx_un un_neg does_neg vx_int) fun σ H Q ⟨F, κ, ρ, d, ρ', S, q, k⟩ => by
  cases q
  exact ⟨F, κ, ρ, _, _, S, rfl, k⟩
theorem x_add (R : Rdy G X) (ha : VX G X a f) (hb : VX G X b h) : VX G X (.BinOp a .Add b pos) (d2 gAdd f h) := vx_op op_add4 (does_add4 R.hK) ha hb
theorem x_sub (ha : VX G X a f) (hb : VX G X b h) : VX G X (.BinOp a .Sub b pos) (d2 (gI fun i j => .int (i - j)) f h) := vx_op op_sub does_sub ha hb
theorem x_mul (ha : VX G X a f) (hb : VX G X b h) : VX G X (.BinOp a .Mult b pos) (d2 gMul f h) := vx_op op_mul does_mul ha hb
theorem x_div (ha : VX G X a f) (hb : VX G X b h) : VX G X (.BinOp a .FloorDiv b pos) (d2 gDiv f h) := vx_op op_fdiv does_div ha hb
theorem x_mod (ha : VX G X a f) (hb : VX G X b h) : VX G X (.BinOp a .Mod b pos) (d2 gMod f h) := vx_op op_mod does_mod ha hb
theorem x_pow (ha : VX G X a f) (hb : VX G X b h) : VX G X (.BinOp a .Pow b pos) (d2 gPow f h) := vx_op op_pow does_pow ha hb
abbrev gLt : D → D → Option D := gI fun i j => .bl (decide (i < j))
abbrev gLe : D → D → Option D := gI fun i j => .bl (decide (i ≤ j))
abbrev gGt : D → D → Option D := gI fun i j => .bl (decide (j < i))
abbrev gGe : D → D → Option D := gI fun i j => .bl (decide (j ≤ i))
abbrev gSub : D → D → Option D := gI fun i j => .int (i - j)
theorem x_eq (R : Rdy G X) (ha : VX G X a f) (hb : VX G X b h) : VX G X (.Compare a [.Eq] [b] pos) (d2 gEq f h) := vx_cmp (op_eqD R.u64) (does_eq R.hK) ha hb (nomark _)
theorem t_lt (ha : VX G X a f) (hb : VX G X b h) : VT G X (.Compare a [.Lt] [b] pos) (bD (d2 gLt f h)) := vt_cmp op_lt does_lt ha hb (nomark _)
theorem t_gt (ha : VX G X a f) (hb : VX G X b h) : VT G X (.Compare a [.Gt] [b] pos) (bD (d2 gGt f h)) := vt_cmp op_gt does_gt ha hb (nomark _)
theorem t_ge (ha : VX G X a f) (hb : VX G X b h) : VT G X (.Compare a [.GtE] [b] pos) (bD (d2 gGe f h)) := vt_cmp op_ge does_ge ha hb (nomark _)
theorem t_eq (R : Rdy G X) (ha : VX G X a f) (hb : VX G X b h) : VT G X (.Compare a [.Eq] [b] pos) (bD (d2 gEq f h)) := vt_cmp (op_eqD R.u64) (does_eq R.hK) ha hb (nomark _)
theorem t_ne (R : Rdy G X) (ha : VX G X a f) (hb : VX G X b h) : VT G X (.Compare a [.NotEq] [b] pos) (bD (d2 gNe f h)) := vt_cmp (op_neD R.u64) (does_ne R.hK) ha hb (nomark _)
theorem t_in (R : Rdy G X) (ha : VX G X a f) (hb : VX G X b h) (hm : behindInMarks .In b = false := by rfl) : VT G X (.Compare a [.In] [b] pos) (bD (d2 gIn f h)) := vt_cmp (op_inAll R.hu) (does_in R.hK) ha hb hm
theorem t_notin (R : Rdy G X) (ha : VX G X a f) (hb : VX G X b h) (hm : behindInMarks .NotIn b = false := by rfl) : VT G X (.Compare a [.NotIn] [b] pos) (bD (d2 gNotIn f h)) := vt_cmp (op_notInAll R.hu) (does_notIn R.hK) ha hb hm
theorem t_notinv {i : Nat} (R : Rdy G X) (ha : VX G X a f) (hb : PE X b (tVar i)) (hm : behindInMarks .NotIn b = false := by rfl) : VT G X (.Compare a [.NotIn] [b] pos) (bD (dInV true f i)) :=
  ptImp (pt_cmpR (op_notInAll R.hu) ha hb hm) fun σ H Q q => dInV_run (neg := true) R.hK (tB_run q)
theorem x_ix (R : Rdy G X) (ha : VX G X a f) (hb : VX G X b h) (hs : PlainIx b := by intro _ _; rfl) : VX G X (.Subscript a b pos) (d2 gIx f h) := vx_ix (ix_all R.u1) (does_ix R.hK) ha hb hs
theorem x_ixv {i : Nat} (R : Rdy G X) (ha : PE X a (tVar i)) (hb : VX G X b h) (hs : PlainIx b := by intro _ _; rfl) : VX G X (.Subscript a b pos) (dIxV i h) := vx_ixv R.hK R.u1 ha hb hs
section
variable {ag : LF} {p : Pos} 
theorem x_len (R : Rdy G X) (ha : VA G X (e :: es) ag) (hg : Gl X "len" := by rfl) (he : starEach (e :: es) X.env = (false, eval e X.env) :: starEach es X.env := by rfl) (hpl : (backTo pos (starEach es X.env)).any (·.1) = false := by rfl) : VX G X (.Call (.Name "len" p) (e :: es) [] pos) (dA gLen ag) := vx_cb call_lenAll (does_len R.hK) hg R.bl.len PySem.boot_len ha (by decide) (by decide) he hpl
theorem x_lenv {i : Nat} (R : Rdy G X) (ha : PE X a (tVar i)) (hg : Gl X "len" := by rfl) (he : starEach [a] X.env = (false, eval a X.env) :: starEach [] X.env := by rfl) (hpl : (backTo pos (starEach [] X.env)).any (·.1) = false := by rfl) : VX G X (.Call (.Name "len" p) [a] [] pos) (dLenV i) := vx_lenv ha hg R.bl.len he hpl
theorem x_tuple (R : Rdy G X) (ha : VA G X (e :: es) ag) (hg : Gl X "tuple" := by rfl) (he : starEach (e :: es) X.env = (false, eval e X.env) :: starEach es X.env := by rfl) (hpl : (backTo pos (starEach es X.env)).any (·.1) = false := by rfl) : VX G X (.Call (.Name "tuple" p) (e :: es) [] pos) (dA gTuple ag) := vx_ct call_tuple_of (does_tuple R.hK) hg R.bl.tuple PyProof.Rows.boot_tuple ha (by decide) (by decide) he hpl
theorem x_max (R : Rdy G X) (ha : VA G X (e :: es) ag) (hg : Gl X "max" := by rfl) (he : starEach (e :: es) X.env = (false, eval e X.env) :: starEach es X.env := by rfl) (hpl : (backTo pos (starEach es X.env)).any (·.1) = false := by rfl) : VX G X (.Call (.Name "max" p) (e :: es) [] pos) (dA gMax ag) := vx_cb (call_maxA R.calm) does_max hg R.bl.max PyProof.Rows.boot_max ha (by decide) (by decide) he hpl
theorem x_min (R : Rdy G X) (ha : VA G X (e :: es) ag) (hg : Gl X "min" := by rfl) (he : starEach (e :: es) X.env = (false, eval e X.env) :: starEach es X.env := by rfl) (hpl : (backTo pos (starEach es X.env)).any (·.1) = false := by rfl) : VX G X (.Call (.Name "min" p) (e :: es) [] pos) (dA gMin ag) := vx_cb (call_minA R.calm) does_min hg R.bl.min PyProof.Rows.boot_min ha (by decide) (by decide) he hpl
theorem n_dict (R : Rdy G X) (ha : VA G X (e :: es) ag) (hg : Gl X "dict" := by rfl) (he : starEach (e :: es) X.env = (false, eval e X.env) :: starEach es X.env := by rfl) (hpl : (backTo pos (starEach es X.env)).any (·.1) = false := by rfl) : VN G X (.Call (.Name "dict" p) (e :: es) [] pos) (nA nDict ag) := vn_ct (call_dictA R.u4) does_dict hg R.bl.dict PyProof.Rows.boot_dict ha (by decide) (by decide) he hpl
theorem x_all (R : Rdy G X) (ha : VA G X (e :: es) ag) (hg : Gl X "all" := by rfl) (he : starEach (e :: es) X.env = (false, eval e X.env) :: starEach es X.env := by rfl) (hpl : (backTo pos (starEach es X.env)).any (·.1) = false := by rfl) : VX G X (.Call (.Name "all" p) (e :: es) [] pos) (dA gAll ag) := vx_cb (cr_all R.calm) does_all hg R.bl.all PyProof.Rows.boot_all ha (by decide) (by decide) he hpl
theorem x_index {apos : Pos} (R : Rdy G X) (ha : VX G X a f) (hb : VA G X (e :: es) ag) (hbase : attributeBase a "index" X.env (eval a X.env) = eval a X.env := by rfl)
    (hfew : ((backTo pos (starEach (e :: es) X.env)).all (fun x => !x.1) && (backToKw pos (keywordEach [] X.env)).all (fun x => x.1.isSome) && decide ((e :: es).length + ([] : List Keyword).length + (if ([] : List Keyword).isEmpty then 0 else 1) < 30)) = true := by rfl)
    (hline : (apos.endLine == pos.line) = true := by rfl) (hs : starEach (e :: es) X.env = (false, eval e X.env) :: starEach es X.env := by rfl) (hplain : (backTo pos (starEach es X.env)).any (·.1) = false := by rfl) :
    VX G X (.Call (.Attribute a "index" apos) (e :: es) [] pos) (dIndex f ag) := vx_index R.hK R.hu ha hb hbase hfew hline hs hplain
theorem x_append {i : Nat} {apos : Pos} (ha : PE X a (tVar i)) (hb : VA G X (e :: es) ag) (hbase : attributeBase a "append" X.env (eval a X.env) = eval a X.env := by rfl)
    (hfew : ((backTo pos (starEach (e :: es) X.env)).all (fun x => !x.1) && (backToKw pos (keywordEach [] X.env)).all (fun x => x.1.isSome) && decide ((e :: es).length + ([] : List Keyword).length + (if ([] : List Keyword).isEmpty then 0 else 1) < 30)) = true := by rfl)
    (hline : (apos.endLine == pos.line) = true := by rfl) (hs : starEach (e :: es) X.env = (false, eval e X.env) :: starEach es X.env := by rfl) (hplain : (backTo pos (starEach es X.env)).any (·.1) = false := by rfl) :
    VX G X (.Call (.Attribute a "append" apos) (e :: es) [] pos) (dMet i mApp ag) := vx_met does_app PySem.F.slot_list_append PySem.F.type_list_append mt_append ha hb hbase hfew hline hs hplain
theorem x_isi1 {T : String} {x : Str} {p p2 : Pos} (R : Rdy G X) (ha : VX G X a f) (hT : T ∈ tgs) (hm2 : X.mg x = none) (hv2 : bootBuiltins x = some (.type T)) (hg : Gl X "isinstance" := by rfl) (hg2 : Gl X x := by rfl)
    (he : starEach [a, .Name x p2] X.env = (false, eval a X.env) :: starEach [.Name x p2] X.env := by rfl) (he2 : starEach [.Name x p2] X.env = (false, eval (.Name x p2) X.env) :: starEach [] X.env := by rfl) (hpl : (backTo pos (starEach [.Name x p2] X.env)).any (·.1) = false := by rfl)
    (hn : x ≠ "__name__" := by decide) (hdb : (x == ("__debug__" : Str)) = false := by decide) : VX G X (.Call (.Name "isinstance" p) [a, .Name x p2] [] pos) (dIsi [T] f) := vx_isi hT ha hg R.bl.isinstance hg2 hm2 hv2 PyProof.Rows.boot_isinstance he he2 hpl hn hdb
theorem n_call {ps : List Str} {x : Str} {st : Stmt} {p : Pos} {ff : FF} {k n : Nat} (Df : DefAt G.K X.mg x st ps) (ok : FnOk X.prog X.w G.K X.mg X.base CX0 k Df.fa Df.fd ps (spF G n [] ff)) (hn : ∀ os z, ff os = some z → os.length = n) (R : Rdy G X) (hr : Room k X.A)
    (ha : VA G X (e :: es) ag) (hg : Gl X x := by rfl) (hdb : (x == ("__debug__" : Str)) = false := by decide) (he : starEach (e :: es) X.env = (false, eval e X.env) :: starEach es X.env := by rfl) (hpl : (backTo pos (starEach es X.env)).any (·.1) = false := by rfl) :
    VN G X (.Call (.Name x p) (e :: es) [] pos) (nA (cal ff) ag) := by
  obtain ⟨fa, fd, F, m, B⟩ := Df
  have hK := R.hK
  exact vn_call (E := E0) (by rw [← hK]; exact ok) hn hr hg m (by rw [← hK]; exact F.kp) (by rw [← hK]; exact B) pass0 ha hdb he hpl
theorem n_call1 {ps : List Str} {x : Str} {st : Stmt} {p : Pos} {ff : FF} {ag : MF} {k n pl i : Nat} (Df : DefAt G.K X.mg x st ps) (ok : FnOk X.prog X.w G.K X.mg X.base CX0 k Df.fa Df.fd ps (spF G n [pl] ff)) (hn : ∀ os z, ff os = some z → os.length = n) (R : Rdy G X) (hr : Room k X.A)
    (ha : VM G X i (e :: es) ag) (hg : Gl X x := by rfl) (hdb : (x == ("__debug__" : Str)) = false := by decide) (he : starEach (e :: es) X.env = (false, eval e X.env) :: starEach es X.env := by rfl) (hpl : (backTo pos (starEach es X.env)).any (·.1) = false := by rfl) :
    VN G X (.Call (.Name x p) (e :: es) [] pos) (cal1 pl i ff ag) := by
  obtain ⟨fa, fd, F, m, B⟩ := Df
  have hK := R.hK
  exact vn_call1 (E := E0) (by rw [← hK]; exact ok) hn hr hg m (by rw [← hK]; exact F.kp) (by rw [← hK]; exact B) pass0 ha hdb he hpl
end
end
end VL
set_option Elab.async false
set_option linter.all false
set_option maxRecDepth 100000
set_option maxHeartbeats 4000000
namespace VL
open PySem L2
section
variable {G : Gx} {X : Cx} {a b c e : Expr} {es : List Expr} {pos : Pos} {f h : DF} {ag : LF} {p : Pos}
theorem s_ix {P : List Nat} {i : Nat} {fk fe : DF} {spos : Pos} (R : Rdy G X) (ha : PE X a (tVar i)) (hk : VX G X b fk) (he : VX G X e fe)
    (has : ∀ v, assign (.Subscript a b spos) X.env v = (do
      let ov ← holding [v] (eval a X.env)
      let iv ← holding [v, ov] (eval b X.env)
      standAt spos
      holding [v, ov, iv] (setItem ov iv v)
      release [v, ov, iv] []) := by intro _; rfl)
    (hs : swapsWithSole [.Subscript a b spos] e pos.line X.env = pure false := by rfl) (hw : swappedStores [.Subscript a b spos] e X.env = pure none := by rfl) (h1 : (assignEach [.Subscript a b spos] X.env).map (·.2) = [assign (.Subscript a b spos) X.env] := by rfl) :
    VS G P X (.Assign [.Subscript a b spos] e pos) (sSetI i fk fe) := vs_setI R.hK R.u1 ha hk he has hs hw h1
end
theorem Rdy.blk {G : Gx} {X : Cx} (R : Rdy G X) {s : Shared} {H : Hp} {sc : Scope} {env : Env} {fp : List Addr} : Rdy G (X.blk s H sc env fp) := ⟨R.hK, R.calm, R.hu, R.nd, .never, R.bl⟩
theorem rdy_of {G : Gx} {P : Program} {w : World} {mg : Str → Option Value} {base : Heap} {N : List Str} {qual : Str} {sc : Scope} {f : Addr} {cd : Value} {A : Around} {outer : List Env} {s : Shared} {H : Hp} {E : XK} {k : Nat}
    (hr : Room k (A.deeper (PyProof.Rows.envOfC qual sc s.heap.objs.size f cd))) (nd : N.Nodup) (bl : Bl mg) : Rdy G (cxOf CX0 P w G.K mg base N qual sc f cd A outer s H E).nox := by
  refine ⟨rfl, rfl, ?_, nd, .never, bl⟩
  have h : (A.deeper (PyProof.Rows.envOfC qual sc s.heap.objs.size f cd)).units + 16 * k + 200 < cLine := hr.un
  show (A.deeper (PyProof.Rows.envOfC qual sc s.heap.objs.size f cd)).units + 65 < cLine
  omega
def blkB (N : List Str) (sc scope : Scope) (own : List (Str × Nat)) : Bool :=
  (scope.names.all fun y => decide (scope.names.lookup y.1 = some y.2)) && (own.all fun p => decide (N[p.2]? = some p.1)) && (scope.names.all fun y => !decide (y.2 = .free) || decide (sc.names.lookup y.1 = some .cell) || decide (sc.names.lookup y.1 = some .free)) &&
    (scope.names.all fun y => (!decide (y.2 = .local) && !decide (y.2 = .cell)) || decide (y.1 ∈ own.map (·.1)) || !decide (y.1 ∈ N))
theorem blk_ok {N : List Str} {sc scope : Scope} {own : List (Str × Nat)} (hk : scope.kind = .function) (h : blkB N sc scope own = true) : BlkOk N sc scope own := by
  unfold blkB at h
  simp only [Bool.and_eq_true, List.all_eq_true, Bool.or_eq_true, Bool.not_eq_true', decide_eq_true_eq, decide_eq_false_iff_not] at h
  obtain ⟨⟨⟨h1, h2⟩, h3⟩, h4⟩ := h
  refine ⟨hk, h1, h2, fun y hy e => ?_, fun y hy e => ?_⟩
  · rcases h3 y hy with (h | h) | h
    · exact absurd e h
    · exact .inl h
    · exact .inr h
  · rcases h4 y hy with (h | h) | h
    · rcases e with e | e
      · exact absurd e h.1
      · exact absurd e h.2
    · exact .inl h
    · exact .inr h
section
variable {G : Gx} {X : Cx} {e : Expr} {es : List Expr} {pos p : Pos}
end
def fin (P : List Nat) (x : Option (Out × Env')) : Option (O × List O) := x.bind fun p => match p.1 with
    | .rt r => (outs p.2 P).map fun os' => (r, os')
    | .nx => (outs p.2 P).map fun os' => (.fz .non, os')
    | _ => none
end VL
set_option Elab.async false
set_option linter.all false
set_option maxRecDepth 100000
set_option maxHeartbeats 4000000
namespace VL
open PySem PySem.Spec PyProof.Rows L2
/-! ### is, is not: None, True, False -/
def D.isNon : D → Bool
  | .non => true
  | _ => false
theorem RD.isNon {G : Gx} {F : Hp} {v : V} {d : D} (r : RD G F v d) : decide (v = .non) = d.isNon := by
  cases r <;> simp [D.isNon]
def gIs : D → D → Option D
  | x, .non => some (.bl x.isNon)
  | .bl a, .bl b => some (.bl (decide (a = b)))
  | _, _ => none
def gIsNot (x y : D) : Option D := match gIs x y with
  | some (.bl b) => some (.bl (!b))
  | _ => none
abbrev rIs1 : R2 := fun x y H Q => (y = .non ∧ Q (.bl (decide (x = .non))) H) ∨ ∃ a b, x = .bl a ∧ y = .bl b ∧ Q (.bl (decide (a = b))) H
abbrev rIsNot1 : R2 := fun x y H Q => (y = .non ∧ Q (.bl (!decide (x = .non))) H) ∨ ∃ a b, x = .bl a ∧ y = .bl b ∧ Q (.bl (!decide (a = b))) H
section
variable {G : Gx} {X : Cx} {a b : Expr} {f h : DF} {pos : Pos}
theorem does_is : Does2 G rIs1 gIs := by
  intro F κ σ H ρ x y a b c Q S rx ry e k
  unfold gIs at e
  split at e
  · cases e
    cases ry
    exact .inl ⟨rfl, by rw [rx.isNon]; exact k.here S (.bl _)⟩
  · cases e
    cases rx; cases ry
    exact .inr ⟨_, _, rfl, rfl, k.here S (.bl _)⟩
  · cases e
theorem does_isnot : Does2 G rIsNot1 gIsNot := by
  intro F κ σ H ρ x y a b c Q S rx ry e k
  unfold gIsNot at e
  split at e
  · rename_i b0 e0
    cases e
    unfold gIs at e0
    split at e0
    · cases e0
      cases ry
      exact .inl ⟨rfl, by rw [rx.isNon]; exact k.here S (.bl _)⟩
    · cases e0
      cases rx; cases ry
      exact .inr ⟨_, _, rfl, rfl, k.here S (.bl _)⟩
    · cases e0
  · cases e
theorem t_is (ha : VX G X a f) (hb : VX G X b h) : VT G X (.Compare a [.Is] [b] pos) (bD (d2 gIs f h)) := vt_cmp (op_isN.or op_is_bl) does_is ha hb (nomark _)
theorem t_isnot (ha : VX G X a f) (hb : VX G X b h) : VT G X (.Compare a [.IsNot] [b] pos) (bD (d2 gIsNot f h)) := vt_cmp (op_notN.or op_isnot_bl) does_isnot ha hb (nomark _)
/-! ### x.get(k, d), x a name -/
theorem x_getv {c : Expr} {i : Nat} {fk fd : DF} {apos : Pos} (R : Rdy G X) (ha : PE X a (tVar i)) (hk : VX G X b fk) (hd : VX G X c fd) (m : M2 X a "get" apos b c pos := by exact ⟨rfl, rfl, rfl, rfl⟩) : VX G X (.Call (.Attribute a "get" apos) [b, c] [] pos) (dGetV i fk fd) := vx_getv R.u1 ha hk hd m
end
end VL
set_option Elab.async false
set_option linter.all false
set_option maxRecDepth 100000
set_option maxHeartbeats 4000000
namespace VL
open PySem L2
section
variable {G : Gx} {X : Cx} {F : Hp} {κ : Col} {σ : St} {H : Hp} {ρ : Env'}
/-! ### a comprehension whose elements are trees of their own -/
def compO (n : Nat) (vs : List Nat) (g : GF) (t : BF) (e : OF) : List D → Env' → Option (List O × Env')
  | [], ρ => some ([], ρ)
  | d :: ds, ρ => if ρ.length = n then (g d (wipeE ρ vs)).bind fun ρ1 => (t ρ1).bind fun p => if p.1 then (e p.2).bind fun q => (compO n vs g t e ds (unwipe ρ q.2 vs)).map fun r => (q.1 :: r.1, r.2)
      else compO n vs g t e ds (unwipe ρ p.2 vs) else none
def nLcO (n : Nat) (vs : List Nat) (f : IF) (g : GF) (t : BF) (e : OF) : OF := fun ρ => (f ρ).bind fun p => if p.1.length ≤ lim then (compO n vs g t e p.1 p.2).map fun r => (.lst r.1, r.2) else none
/-- the colours of the elements so far, and of one more -/
def addC (κs κt : Col) (j : Nat) : Col := fun a => match κt a with
  | some q => some (j :: q)
  | none => κs a
theorem addC_some {κs κt : Col} {j : Nat} {a : Addr} {q : List Nat} (h : addC κs κt j a = some q) : (∃ q', κt a = some q' ∧ q = j :: q') ∨ (κt a = none ∧ κs a = some q) := by
  unfold addC at h
  split at h
  · rename_i q' e; cases h; exact .inl ⟨q', e, rfl⟩
  · rename_i e; exact .inr ⟨e, h⟩
theorem ROx.shift {κt κs : Col} {j : Nat} {v : V} {o : O} (h : RO G F κt H [] v o) : RO G F (addC κs κt j) H [j] v o :=
  h.mono (fun _ => True) (fun _ _ _ => trivial) (Ex.refl F) (f := fun q => j :: q) (fun _ _ => rfl) (fun a q _ e => by unfold addC; rw [e]) (fun _ _ _ _ _ e => e) trivial

/-- loose trees outlive a step -/
theorem Step.looseTree {F F1 : Hp} {κ κ1 : Col} {H H1 : Hp} (s : Step F κ H F1 κ1 H1) {a : Addr} (m : Mo H a) (hF : F a = none) (hk : κ a = none) : Mo H1 a ∧ F1 a = none ∧ κ1 a = none ∧ ∀ o, H a = some o → H1 a = some o := by
  obtain ⟨o, e, hn, hb⟩ := m.get
  obtain ⟨b1, b2, b3⟩ := s.looseAt e hF hk hn hb
  refine ⟨.at b1 hn hb, b2, b3, fun o' e' => ?_⟩
  rw [e] at e'; cases e'; exact b1
structure Els (G : Gx) (F1 : Hp) (κ1 : Col) (H1 : Hp) (F : Hp) (κ : Col) (H : Hp) (Dl : Addr) (κs : Col) (acc : List V) (os : List O) : Prop where
  ro : ROs G F κs H [] 0 acc os
  at_ : ∀ a p, κs a = some p → a ≠ Dl ∧ Mo H a ∧ F a = none ∧ κ a = none ∧ (H1 a = none ∨ κ1 a ≠ none)
theorem Els.step {F1 κ1 H1 F κ H F2 κ2 H2} {Dl : Addr} {κs : Col} {acc : List V} {os : List O} (E : Els G F1 κ1 H1 F κ H Dl κs acc os) (s : Step F κ H F2 κ2 H2) : Els G F1 κ1 H1 F2 κ2 H2 Dl κs acc os := by
  refine ⟨E.ro.mono (fun _ => True) (fun _ _ _ => trivial) s.ext (f := id) (fun _ _ => rfl) (fun _ _ _ e => e) (fun a q o _ c e => ?_) trivial, fun a p e => ?_⟩
  · obtain ⟨_, m, f, k, _⟩ := E.at_ a q c
    exact (s.looseTree m f k).2.2.2 o e
  · obtain ⟨d, m, f, k, n⟩ := E.at_ a p e
    obtain ⟨x, y, z, _⟩ := s.looseTree m f k
    exact ⟨d, x, y, z, n⟩
theorem Els.upd {F1 κ1 H1 F κ H} {Dl : Addr} {κs : Col} {acc : List V} {os : List O} {u : HO} (E : Els G F1 κ1 H1 F κ H Dl κs acc os) : Els G F1 κ1 H1 F κ (upd H Dl u) Dl κs acc os := by
  refine ⟨E.ro.mono (fun _ => True) (fun _ _ _ => trivial) (Ex.refl F) (f := id) (fun _ _ => rfl) (fun _ _ _ e => e) (fun a q o _ c e => ?_) trivial, fun a p e => ?_⟩
  · rw [upd_ne (E.at_ a q c).1]; exact e
  · obtain ⟨d, m, r⟩ := E.at_ a p e
    exact ⟨d, m.eq (upd_ne d), r⟩
theorem lcO_run {n : Nat} {vs P : List Nat} {fi : IF} {g : GF} {t : BF} {fe : OF} (hP : ∀ i, i < n → i ∉ vs → i ∈ P) {σ : St} {H : Hp} {Q : VK} (q : tN G (nLcO n vs fi g t fe) σ H Q) : tLc (tI G fi) (tG G P g) (tT G t) (tN G fe) vs σ H Q := by
  obtain ⟨F, κ, ρ, o, ρ', S, q, k⟩ := q
  unfold nLcO at q
  cases q1 : fi ρ with
  | none => rw [q1] at q; cases q
  | some p =>
    obtain ⟨ds, ρ1⟩ := p
    rw [q1] at q
    simp only [Option.bind_some] at q
    split at q
    · rename_i hlim
      cases q2 : compO n vs g t fe ds ρ1 with
      | none => rw [q2] at q; cases q
      | some p =>
        obtain ⟨all, ρ2⟩ := p
        rw [q2] at q
        cases q
        refine ⟨F, κ, ρ, ds, ρ1, S, q1, fun J F1 κ1 H1 S1 s1 y Dl hD => ?_⟩
        obtain ⟨Gd, Y, w, hG, hY⟩ := y
        have f0 := S1.free hD
        refine lc_it w (fun i H' => ∃ (F' : Hp) (κ' : Col) (ρi : Env') (os rest : List O) (acc : List V) (κs : Col), SS G F' κ' σ H' ρi ∧ Ex F1 F' ∧ Step F1 κ1 H1 F' κ' H' ∧ H' Dl = some (.lst acc) ∧ F' Dl = none ∧ κ' Dl = none ∧ Els G F1 κ1 H1 F' κ' H' Dl κs acc os ∧
          compO n vs g t fe (ds.drop i) ρi = some (rest, _) ∧ all = os ++ rest ∧ os.length ≤ i) ⟨F1, κ1, ρ1, [], all, [], fun _ => none, S1.loose hD, Ex.refl _, .loose S1 hD, upd_same, f0.1, f0.2, ⟨.nil, fun _ _ z => nomatch z⟩, q2, rfl, Nat.le_refl _⟩
          (fun i H' _ ⟨F', κ', ρi, os, rest, acc, κs, S', ex, _⟩ => hG F' H' ex S'.exh) (fun i x H2 H3 hi ⟨F', κ', ρi, os, rest, acc, κs, S', ex, st, hacc, hF, hk, hr, hc, ha, hdl⟩ hy => ?_) (fun H' ⟨F', κ', ρi, os, rest, acc, κs, S', ex, st, hacc, hF, hk, hr, hc, ha, hdl⟩ => ?_)
        · have hd : ds[i]? = some ds[i] := List.getElem?_eq_getElem hi
          obtain ⟨F2, S2, st2, r2⟩ := hY i _ F' κ' σ H2 ρi x H3 hd ex S' hy
          rw [List.drop_eq_getElem_cons hi] at hc
          unfold compO at hc
          split at hc
          · rename_i hn
            cases q3 : g ds[i] (wipeE ρi vs) with
            | none => rw [q3] at hc; cases hc
            | some ρ3 =>
              rw [q3] at hc
              simp only [Option.bind_some] at hc
              refine ⟨F2, κ', wipeE ρi vs, ds[i], ρ3, S2.wipe vs, r2, q3, fun σ4 F4 κ4 H4 S4 st4 p4 => ?_⟩
              have hw : L2.wipe σ4 vs = L2.wipe σ vs := pin_wipe (n := n) (by rw [← S'.len]; exact hn) p4 hP
              refine ⟨hw, ?_⟩
              cases q4 : t ρ3 with
              | none => rw [q4] at hc; cases hc
              | some p =>
                obtain ⟨b1, ρ4⟩ := p
                rw [q4] at hc
                simp only [Option.bind_some] at hc
                refine ⟨F4, κ4, ρ3, b1, ρ4, S4, q4, fun F5 κ5 H5 S5 st5 => ?_⟩
                have st25 := (st2.trans st4).trans st5
                cases b1 with
                | false =>
                  simp only [Bool.false_eq_true, if_false] at hc ⊢
                  obtain ⟨b1, b2, b3⟩ := st25.looseAt hacc hF hk
                  exact ⟨F5, κ5, _, os, rest, acc, κs, S'.unwipe S5 st25.ext hw, ex.trans st25.ext, st.trans st25, b1, b2, b3, hr.step st25, hc, ha, by omega⟩
                | true =>
                  simp only [if_true] at hc ⊢
                  cases q5 : fe ρ4 with
                  | none => rw [q5] at hc; cases hc
                  | some p =>
                    obtain ⟨z, ρ5⟩ := p
                    rw [q5] at hc
                    simp only [Option.bind_some] at hc
                    refine ⟨F5, κ5, ρ4, z, ρ5, S5, q5, fun v F6 κ6 H6 κt S6 st6 r6 ht => ?_⟩
                    have st26 := st25.trans st6
                    obtain ⟨b1, b2, b3⟩ := st26.looseAt hacc hF hk
                    obtain ⟨c1, c2, c3⟩ := st25.looseAt hacc hF hk
                    have E5 := hr.step st25
                    have E6 := hr.step st26
                    cases q6 : compO n vs g t fe (ds.drop (i + 1)) (unwipe ρi ρ5 vs) with
                    | none => rw [q6] at hc; cases hc
                    | some p =>
                      obtain ⟨rest', ρ6⟩ := p
                      rw [q6] at hc
                      cases hc
                      have hle : acc.length ≤ i := by rw [ROs.length hr.ro]; exact hdl
                      -- the new tree stands apart from the elder ones and from the list
                      have apart : ∀ a p, κs a = some p → κt a = none := fun a p e => by
                        cases qt : κt a with
                        | none => rfl
                        | some p' =>
                          obtain ⟨_, m, _, kn, _⟩ := E5.at_ a p e
                          rcases (ht a p' qt).1 with h | h
                          · exact absurd h m.1
                          · exact absurd kn h
                      have hnD : ∀ a p, κt a = some p → a ≠ Dl := fun a p e z => by
                        subst z
                        rcases (ht _ p e).1 with h | h
                        · rw [c1] at h; cases h
                        · exact absurd c3 h
                      have hlen : acc.length = os.length := ROs.length hr.ro
                      have E7 : Els G F1 κ1 H1 F6 κ6 H6 Dl (addC κs κt os.length) (acc ++ [v]) (os ++ [z]) := by
                        refine ⟨ROs.append (E6.ro.mono (fun _ => True) (fun _ _ _ => trivial) (Ex.refl F6) (f := id) (fun _ _ => rfl) (fun a q _ e => by unfold addC; rw [apart a q e]; exact e) (fun _ _ _ _ _ e => e) trivial) (.cons (by
                          have := r6.shift (κs := κs) (j := os.length)
                          simpa using this) .nil), fun a p e => ?_⟩
                        rcases addC_some e with ⟨q', e1, _⟩ | ⟨_, e1⟩
                        · obtain ⟨h1, h2, h3, h4⟩ := ht a q' e1
                          exact ⟨hnD a q' e1, h2, h3, h4, tn_step (st.trans st25) h1⟩
                        · exact E6.at_ a p e1
                      refine ⟨acc, b1, lim_lt (by omega), F6, κ6, _, os ++ [z], rest', acc ++ [v], addC κs κt os.length, (S'.unwipe S6 st26.ext hw).looseWrite b2 b3, ex.trans st26.ext, (st.trans st26).looseWrite hD, upd_same, b2, b3, E7.upd, q6, by rw [ha, List.append_assoc]; rfl, by simp; omega⟩
          · cases hc
        · rw [List.drop_length] at hc
          cases hc
          rw [List.append_nil] at ha
          subst ha
          have ef : ∀ a p, κs a = some p → (if a = Dl then some [] else κs a) = some p := fun a p e => by rw [if_neg (hr.at_ a p e).1]; exact e
          refine k (.ref Dl) F' κ' H' (fun a => if a = Dl then some [] else κs a) S' (s1.trans st) (.lst (if_pos rfl) hacc (hr.ro.mono (fun _ => True) (fun _ _ _ => trivial) (Ex.refl F') (f := id) (fun _ _ => rfl) (fun a q _ e => ef a q e) (fun _ _ _ _ _ e => e) trivial)) fun a p z => ?_
          by_cases hz : a = Dl
          · subst hz
            exact ⟨tn_step s1 (.inl hD), .at hacc (by intro xs h; cases h), hF, hk⟩
          · simp only [if_neg hz] at z
            obtain ⟨_, m, f, kk, nn⟩ := hr.at_ a p z
            exact ⟨tn_step s1 nn, m, f, kk⟩
    · cases q
theorem vn_lcO {elt tg iter : Expr} {ifs : List Expr} {scope : Scope} {own : List (Str × Nat)} {P : List Nat} {n : Nat} {fi : IF} {g : GF} {t : BF} {f : OF} {pos : Pos} (hc : X.calm = true) (hN : X.N.Nodup) (hi : VI G X tg iter fi) (ok : BlkOk X.N X.env.scope scope own)
    (hg : ∀ (s : Shared) (H : Hp) (C : Addr) (cl : List (Str × Addr)) (fp : List Addr), VG G P (X.blk s H scope (compEnvC scope cl C X.env) fp) tg g) (ht : ∀ (s : Shared) (H : Hp) (C : Addr) (cl : List (Str × Addr)) (fp : List Addr), VTs G (X.blk s H scope (compEnvC scope cl C X.env) fp) ifs t)
    (he : ∀ (s : Shared) (H : Hp) (C : Addr) (cl : List (Str × Addr)) (fp : List Addr), VN G (X.blk s H scope (compEnvC scope cl C X.env) fp) elt f) (hP : ∀ i, i < n → i ∉ own.map (·.2) → i ∈ P) (hs : ∀ x, foldedSetIterable iter X.env x = pure x := by intro _; rfl) :
    VN G X (.ListComp elt [⟨tg, iter, ifs, 0⟩] scope pos) (nLcO n (own.map (·.2)) fi g t f) := peImp (pe_lc hc hN hi ok hg ht he hs) fun _ _ _ q => lcO_run hP q
theorem vs_setLcO {i : Nat} {y : Str} {py : Pos} {elt tg iter : Expr} {ifs : List Expr} {scope : Scope} {own : List (Str × Nat)} {pos spos : Pos} {P P' : List Nat} {n : Nat} {fi : IF} {g : GF} {t : BF} {f : OF} (hc : X.calm = true) (hN : X.N.Nodup) (hy : X.N[i]? = some y) (hyl : X.env.scope.names.lookup y = some .local) (hP' : i ∉ P')
    (hsw : swapsWith (.ListComp elt [⟨tg, iter, ifs, 0⟩] scope pos) (some (.Name y py)) spos.line X.env = pure true) (hi : VI G X tg iter fi) (ok : BlkOk X.N X.env.scope scope own)
    (hg : ∀ (s : Shared) (H : Hp) (C : Addr) (cl : List (Str × Addr)) (fp : List Addr), VG G P (X.blk s H scope (compEnvC scope cl C X.env) fp) tg g) (ht : ∀ (s : Shared) (H : Hp) (C : Addr) (cl : List (Str × Addr)) (fp : List Addr), VTs G (X.blk s H scope (compEnvC scope cl C X.env) fp) ifs t)
    (he : ∀ (s : Shared) (H : Hp) (C : Addr) (cl : List (Str × Addr)) (fp : List Addr), VN G (X.blk s H scope (compEnvC scope cl C X.env) fp) elt f) (hP : ∀ i, i < n → i ∉ own.map (·.2) → i ∈ P) (hs : ∀ x, foldedSetIterable iter X.env x = pure x := by intro _; rfl) :
    VS G P' X (.Assign [.Name y py] (.ListComp elt [⟨tg, iter, ifs, 0⟩] scope pos) spos) (sSetN i (nLcO n (own.map (·.2)) fi g t f)) := psImp (ps_setLc hc hN hy hyl hsw hi ok hg ht he hs) fun Dn σ H q => by
  obtain ⟨F, κ, ρ, o, ρ1, S, e1, k⟩ := sSetN_run hP' q
  exact lcO_run hP ⟨F, κ, ρ, o, ρ1, S, e1, k⟩
end
end VL
set_option Elab.async false
set_option linter.all false
set_option maxRecDepth 100000
set_option maxHeartbeats 4000000
namespace VL
open PySem L2
section
variable {G : Gx} {X : Cx} {pos : Pos}
/-! ### [len(x) for x in rows], rows a name's own tree: read only -/
def lensO : List O → Option (List Int)
  | [] => some []
  | o :: os => (lenO o).bind fun n => (lensO os).map fun r => n :: r
def nLens (i v : Nat) : OF := fun ρ => match ρ[i]? with
  | some (some (.lst os)) => if os.length ≤ lim ∧ v < ρ.length then (lensO os).map fun ns => (.lst (ns.map fun n => .fz (.int n)), ρ) else none
  | _ => none
theorem lensO_get : ∀ {os : List O} {ns : List Int}, lensO os = some ns → ns.length = os.length ∧ ∀ (j : Nat) (o : O), os[j]? = some o → ∃ n, lenO o = some n ∧ ns[j]? = some n
  | [], ns, h => by cases h; simp
  | o :: os, ns, h => by
    unfold lensO at h
    cases q : lenO o with
    | none => rw [q] at h; cases h
    | some n =>
      rw [q] at h
      simp only [Option.bind_some] at h
      cases q2 : lensO os with
      | none => rw [q2] at h; cases h
      | some r =>
        rw [q2] at h
        cases h
        obtain ⟨h1, h2⟩ := lensO_get q2
        refine ⟨by simp [h1], fun j o' hj => ?_⟩
        cases j with
        | zero => simp at hj; subst hj; exact ⟨n, q, rfl⟩
        | succ j => exact h2 j o' (by simpa using hj)
/-- len of what a tree tells -/
theorem len_tree {F : Hp} {κ : Col} {σ : L2.St} {H : Hp} {ρ : Env'} {p : List Nat} {v : V} {o : O} {n : Int} {K : PySem.W.Frag} {Q : VK} (S : SS G F κ σ H ρ) (r : RO G F κ H p v o) (e : lenO o = some n) (k : Q (.int n) H) : rLenAll K [v] H Q := by
  unfold lenO at e
  split at e
  · cases e
    cases r with
    | fz r => cases r with
      | lst s r => exact .inl ⟨_, _, rfl, .inl (.of (S.lstF s)), by rw [RDs.length r]; exact k⟩
  · cases e
    cases r with
    | fz r => cases r with
      | tup s r => exact .inl ⟨_, _, rfl, .inr (.of (S.tupF s)), by rw [RDs.length r]; exact k⟩
  · cases e
    cases r with
    | fz r => cases r with
      | tz s _ _ r => exact .inl ⟨_, _, rfl, .inr (.inl (.inr ⟨_, S.tzF s⟩)), by rw [RDs.length r]; exact k⟩
  · cases e
    cases r with
    | lst c h r => exact .inl ⟨_, _, rfl, .inl (.of h), by rw [ROs.length r]; exact k⟩
  · rename_i kos
    cases e
    cases r with
    | @dK _ _ kvs _ c h m r =>
      have hl : kvs.length = kos.length := by have := congrArg List.length m; simpa using this
      exact .inr (.inr (.inl ⟨_, kvs, rfl, .inl h, by rw [hl]; exact k⟩))
  · rename_i kos
    cases e
    cases r with
    | @dT _ _ kvs _ c h m r =>
      have hl : kvs.length = kos.length := by have := congrArg List.length m; simpa using this
      exact .inr (.inr (.inr ⟨_, kvs, rfl, .inl h, by rw [hl]; exact k⟩))
  · cases e
theorem vn_lens {elt tg iter : Expr} {scope : Scope} {i v : Nat} {x : Str} (R : Rdy G X) (hi : PE X iter (tVar i)) (ok : BlkOk X.N X.env.scope scope [(x, v)]) 
    (hg : ∀ (s : Shared) (H : Hp) (C : Addr) (cl : List (Str × Addr)) (fp : List Addr), PG (X.blk s H scope (compEnvC scope cl C X.env) fp) tg (gName v))
    (he : ∀ (s : Shared) (H : Hp) (C : Addr) (cl : List (Str × Addr)) (fp : List Addr), PE (X.blk s H scope (compEnvC scope cl C X.env) fp) elt (tCB (rLenAll X.K) (tCons (tVar v) tNil))) (hs : ∀ x, foldedSetIterable iter X.env x = pure x := by intro _; rfl) :
    VN G X (.ListComp elt [⟨tg, iter, [], 0⟩] scope pos) (nLens i v) := peImp (pe_lc R.calm R.nd (pi_list hi) ok hg (fun _ _ _ _ _ => pts_nil) he hs) fun σ H Q ⟨F, κ, ρ, o, ρ', S, q, k⟩ => by
  unfold nLens at q
  split at q
  · rename_i os e1
    split at q
    · rename_i hh
      obtain ⟨hlim, hvr⟩ := hh
      cases q2 : lensO os with
      | none => rw [q2] at q; cases q
      | some ns =>
        rw [q2] at q
        cases q
        obtain ⟨hl, hget⟩ := lensO_get q2
        obtain ⟨w, hw, r⟩ := S.slots i _ e1
        cases r with
        | @lst _ a vs _ ck hH rs =>
          refine ⟨_, hw, a, rfl, ⟨vs, .inl (.of hH)⟩, fun Dl hD => ?_⟩
          have hne : a ≠ Dl := ne_of_none hH hD
          have hvl : vs.length = os.length := ROs.length rs
          refine lc_it (walk_list (xs := vs)) (fun j H' => H' = upd H Dl (.lst ((ns.take j).map V.int))) (by rw [List.take_zero]; rfl) (fun j H' _ e => by subst e; exact .inl (.of (by rw [upd_ne hne]; exact hH))) (fun j u H2 H3 hj e y => ?_) (fun H' e => ?_)
          · subst e
            obtain ⟨rfl, hu⟩ := y
            have ho : os[j]? = some os[j] := List.getElem?_eq_getElem (by omega)
            obtain ⟨u', hu', ru⟩ := ROs.get rs ho
            rw [hu] at hu'
            cases hu'
            obtain ⟨n, hn, hnj⟩ := hget j _ ho
            have S2 := S.loose (o := .lst ((ns.take j).map V.int)) hD
            have ru2 : RO G F κ (upd H Dl (.lst ((ns.take j).map V.int))) ([i] ++ [0 + j]) u os[j] :=
              ru.mono (fun _ => True) (fun _ _ _ => trivial) (Ex.refl F) (f := id) (fun _ _ => rfl) (fun _ _ _ e => e) (fun b q o _ c e => by rw [upd_ne (ne_of_none e hD)]; exact e) trivial
            refine ⟨?_, ?_⟩
            · show L2.wipe ((L2.wipe σ [v]).set v (some u)) [v] = L2.wipe σ [v]
              show ((σ.set v none).set v (some u)).set v none = σ.set v none
              rw [List.set_set, List.set_set]
            · show tCB (rLenAll X.K) (tCons (tVar v) tNil) ((σ.set v none).set v (some u)) _ _
              have hvs : v < σ.length := by rw [← S.len]; exact hvr
              refine ⟨u, by rw [List.set_set, List.getElem?_set_self hvs], ?_⟩
              show rLenAll X.K [u] (upd H Dl (.lst ((ns.take j).map V.int))) fun y H4 => ∃ acc, H4 Dl = some (.lst acc) ∧ acc.length < sizeLine ∧ upd H4 Dl (.lst (acc ++ [y])) = upd H Dl (.lst ((ns.take (j + 1)).map V.int))
              refine len_tree (K := X.K) S2 ru2 hn ?_
              refine ⟨(ns.take j).map V.int, upd_same, ?_, ?_⟩
              · rw [List.length_map, List.length_take]
                exact lim_lt (by omega)
              · show upd (upd H Dl (.lst ((ns.take j).map V.int))) Dl (.lst ((ns.take j).map V.int ++ [.int n])) = upd H Dl (.lst ((ns.take (j + 1)).map V.int))
                rw [upd_upd, List.take_add_one, hnj, List.map_append]
                rfl
          · subst e
            have e2 : ns.take vs.length = ns := List.take_of_length_le (by omega)
            rw [e2]
            have e3 : (ns.map fun n => O.fz (.int n)) = (ns.map D.int).map O.fz := by rw [List.map_map]; rfl
            rw [e3] at k
            have f0 := S.free hD
            refine k (.ref Dl) F κ _ (one Dl) (S.loose hD) (.loose S hD) (.lst one_same upd_same (ROs.ofD (ints_rds ns))) fun a p z => ?_
            obtain ⟨rfl, _⟩ := one_some z
            exact ⟨.inl hD, .at upd_same (by intro xs h; cases h), f0.1, f0.2⟩
    · cases q
  · cases q
end
end VL
set_option Elab.async false
set_option linter.all false
set_option maxRecDepth 100000
set_option maxHeartbeats 4000000
namespace VL
open PySem PySem.Spec PyProof.Rows L2

/-! ### a list of ints without what comes again, and sorted -/
def ddI : List Int → List Int
  | [] => []
  | x :: r => if x ∈ r then ddI r else x :: ddI r
theorem mem_ddI {k : Int} : ∀ {ns : List Int}, k ∈ ddI ns ↔ k ∈ ns
  | [] => Iff.rfl
  | x :: r => by
    unfold ddI
    by_cases h : x ∈ r
    · rw [if_pos h, mem_ddI, List.mem_cons]
      exact ⟨.inr, fun e => e.elim (fun e => e ▸ h) id⟩
    · rw [if_neg h, List.mem_cons, List.mem_cons, mem_ddI]
theorem nodup_ddI : ∀ ns : List Int, (ddI ns).Nodup
  | [] => List.nodup_nil
  | x :: r => by
    unfold ddI
    by_cases h : x ∈ r
    · rw [if_pos h]; exact nodup_ddI r
    · rw [if_neg h]; exact List.nodup_cons.mpr ⟨fun e => h (mem_ddI.mp e), nodup_ddI r⟩
theorem len_ddI : ∀ ns : List Int, (ddI ns).length ≤ ns.length
  | [] => Nat.le_refl _
  | x :: r => by
    unfold ddI
    have := len_ddI r
    by_cases h : x ∈ r
    · rw [if_pos h, List.length_cons]; omega
    · rw [if_neg h, List.length_cons, List.length_cons]; omega
def sortSet (ns : List Int) : List Int := sortI (ddI ns)
theorem mem_sortSet {k : Int} {ns : List Int} : k ∈ sortSet ns ↔ k ∈ ns := (sortI_perm _).mem_iff.trans mem_ddI
theorem nodup_sortSet (ns : List Int) : (sortSet ns).Nodup := (sortI_perm _).nodup_iff.mpr (nodup_ddI ns)
theorem sortSet_lt (ns : List Int) : (sortSet ns).Pairwise (· < ·) := by
  have h1 := sortI_sorted (ddI ns)
  have h2 := nodup_sortSet ns
  unfold sortSet at *
  exact List.Pairwise.imp₂ (fun a b h h' => by have : a ≠ b := h'; have : a ≤ b := h; omega) h1 h2
theorem sortSet_uniq {ns ms : List Int} (s : ms.Pairwise (· < ·)) (m : ∀ k, k ∈ ms ↔ k ∈ ns) : ms = sortSet ns := by
  refine sortI_uniq ((List.perm_ext_iff_of_nodup (s.imp fun h => by omega) (nodup_ddI ns)).mpr fun k => (m k).trans mem_ddI.symm) (s.imp fun h => by omega)
def nSortSet : List D → Option O
  | [.lst xs] => (intsD xs).bind fun ns => if ns.length < 64 then some (.lst ((sortSet ns).map fun i => .fz (.int i))) else none
  | [.tup xs] => (intsD xs).bind fun ns => if ns.length < 64 then some (.lst ((sortSet ns).map fun i => .fz (.int i))) else none
  | [.tz xs] => (intsD xs).bind fun ns => if ns.length < 64 then some (.lst ((sortSet ns).map fun i => .fz (.int i))) else none
  | _ => none
def gLenSet : List D → Option D
  | [.lst xs] => (intsD xs).bind fun ns => if ns.length < 64 then some (.int (ddI ns).length) else none
  | [.tup xs] => (intsD xs).bind fun ns => if ns.length < 64 then some (.int (ddI ns).length) else none
  | [.tz xs] => (intsD xs).bind fun ns => if ns.length < 64 then some (.int (ddI ns).length) else none
  | _ => none
section
variable {P : Program} {w : World} {A : Around} {E : Value → Shared → Prop} {s t : Shared}
/-- the new set -/
abbrev setNew (w : World) : Obj := { cls := .type "set", dict := none, data := .set #[] 0 (.fresh 0 0 (!w.params.followText "set-order")) }
/-- a walk over ints, for a function that walks -/
def Over (P : Program) (w : World) (A : Around) (x : Value) (ns : List Int) (s : Shared) : Prop :=
  ∀ (E : Value → Shared → Prop) (Q : Value → Shared → Prop), (∀ (J : Addr) (fp : List Addr) (Pv : Nat → Value → Prop) (St : Nat → Heap → Prop) (o : Obj), Walks P w A.in1 J fp [J] ns.length Pv St → J = s.heap.objs.size → St 0 (s.heap.push o) →
      (∀ b ∈ fp, b ≠ J → ∃ u, s.heap.get? b = some u ∧ u.cls ≠ .type "set") → (∀ i v, Pv i v → ∃ k t, ns[i]? = some k ∧ v = Value.int k t) → Q (.ref J) { s with heap := s.heap.push o }) →
    wpAny (model P w) A (pyIter x) Q E s
theorem init_ints {S l : Addr} {T : String} {o : Obj} {ns : List Int} {R : Result → Shared → Prop} (new : s.heap.get? S = some (setNew w)) (ob : s.heap.get? l = some o) (hc : o.cls = .type T)
    (n1 : isSubtype (.type T) (.type "set") = pure false) (n2 : isSubtype (.type T) (.type "frozenset") = pure false) (n3 : (Value.type T == Value.type "dict") = false)
    (ov : ∀ A' : Around, A'.handled = A.handled → Over P w A' (.ref l) ns s) (few : ns.length + 1 < scanBound)
    (q : ∀ h' tk c, c ≤ ns.length → SetR w h' S (fun j => decide (j ∈ ns)) c → (∀ b o, b ≠ S → s.heap.get? b = some o → h'.get? b = some o) → R (.ok (.ret .none)) { s with heap := h', toks := tk }) :
    codeAny (model P w) A (.call (.builtin "set.__init__") ⟨[.ref S, .ref l], []⟩) R s := by
  have ty : s.TypeIs (.ref S) "set" := ⟨_, new, rfl⟩
  obtain ⟨cls, dd, dat, sl⟩ := o
  subst hc
  refine codeAny_call_builtin (F.called_set.init.plain) F.entry_set_init (check_set_init_1 ty ?_)
  unfold Builtin.«set.__init__» noKeywords Builtin.Frozenset.updateFrom
  unfold setNew at new
  generalize hI : pyIter = it
  wp_walk
  subst hI
  refine ov A.in1 rfl _ _ fun J fp Pv St u W hJ st far val => ?_
  have lS : S < s.heap.objs.size := Heap.lt_size new
  have nJ : S ≠ J := by rw [hJ]; exact Nat.ne_of_lt lS
  have out : S ∉ fp := fun hm => by
    obtain ⟨v, e, hv⟩ := far S hm nJ
    rw [new] at e
    cases e
    exact hv rfl
  refine wpAny_bind (wpAny_runValue ?_)
  have R0 : SetR w (s.heap.push u) S (fun j => decide (j ∈ ns.take 0)) 0 := setR_new_at (Heap.get?_push_of_some u new)
  refine set_update_ints W.toS S out ns rfl few val ns.length 0 { s with heap := s.heap.push u } (by omega) (Nat.zero_le _) st ⟨0, Nat.le_refl 0, R0⟩ fun s2 c m hc2 hS => ?_
  obtain ⟨h2, g2, d2, tk2, os2⟩ := s2
  have e1 : g2 = s.gens := m.gens
  have e2 : d2 = s.drawn := m.drawn
  have e3 : os2 = s.os := m.os
  subst e1; subst e2; subst e3
  show wpAny _ _ _ _ _ _
  refine wpAny_pure ?_
  show wpAny _ _ (ret Value.none) _ _ _
  refine wpAny_pure (q h2 tk2 c hc2 hS fun b v hb e => ?_)
  refine m.heap b v (fun hm => ?_) (Heap.get?_push_of_some _ e)
  rcases List.mem_cons.mp hm with z | z
  · exact hb z
  · rw [List.mem_singleton.mp z, hJ] at e
    exact absurd (Heap.lt_size e) (Nat.lt_irrefl _)
/-- set(x), x a list or a tuple of ints -/
theorem call_ints {l : Addr} {T : String} {o : Obj} {ns : List Int} {Q : Value → Shared → Prop} (ob : s.heap.get? l = some o) (hc : o.cls = .type T)
    (n1 : isSubtype (.type T) (.type "set") = pure false) (n2 : isSubtype (.type T) (.type "frozenset") = pure false) (n3 : (Value.type T == Value.type "dict") = false)
    (ov : ∀ A' : Around, A'.handled = A.handled → Over P w A' (.ref l) ns { s with heap := s.heap.push (setNew w) }) (few : ns.length + 1 < scanBound)
    (q : ∀ h' tk c, c ≤ ns.length → SetR w h' s.heap.objs.size (fun j => decide (j ∈ ns)) c → (∀ b o, s.heap.get? b = some o → h'.get? b = some o) → Q (.ref s.heap.objs.size) { s with heap := h', toks := tk }) :
    wpAny (model P w) A (call (.type "set") [.ref l]) Q E s := by
  obtain ⟨cl, tl, order⟩ := F.called_set.mro
  have maker := F.called_set.made
  have self := F.called_set.sub
  have t1 := F.called_set.notType
  have t2 := F.called_set.canCreate
  have t3 := F.typeCall_set_1 (.ref l)
  refine wpAny_call (codeAny_of_tree ?_)
  show wpAny _ _ (callAny (.type "set") _) _ _ _
  refine wpAny_pure ⟨Code.quiet_builtin _ (by decide +kernel), codeAny_builtin F.entry_type_call ?_⟩
  rw [Around.under_plain (weight_type_call_type "set" [.ref l] []) rfl]
  repeat (any_goals (first | assumption | wp_step))
  have new : (s.heap.push (setNew w)).get? s.heap.objs.size = some (setNew w) := Heap.get?_push_size _ rfl
  have ty : Shared.TypeIs { s with heap := s.heap.push (setNew w) } (.ref s.heap.objs.size) "set" := ⟨_, new, rfl⟩
  refine codeAny_mono (code_set_led1 (.ref l) (E := E) (Q₁ := fun v z => v = .ref s.heap.objs.size ∧ z = { s with heap := s.heap.push (setNew w) }) ⟨rfl, rfl⟩) fun r z hr => ?_
  match r, hr with
  | .error e, hr => exact hr
  | .ok (.ret v), hr =>
    obtain ⟨rfl, rfl⟩ := hr
    have look := F.called_set.init.lookup
    have bound := F.called_set.init.bind (.ref s.heap.objs.size)
    repeat (any_goals (first | assumption | wp_step))
    refine codeAny_mono (init_ints (R := fun r z => ∃ h' tk c, r = .ok (.ret .none) ∧ z = { s with heap := h', toks := tk } ∧ c ≤ ns.length ∧ SetR w h' s.heap.objs.size (fun j => decide (j ∈ ns)) c ∧ ∀ b o, s.heap.get? b = some o → h'.get? b = some o)
      new (Heap.get?_push_of_some _ ob) hc n1 n2 n3 ov few fun h' tk c hc' hS k => ⟨h', tk, c, rfl, rfl, hc', hS, fun b o e => k b o (fun z => ?_) (Heap.get?_push_of_some _ e)⟩) fun r z hr => ?_
    · rw [z] at e
      exact absurd (Heap.lt_size e) (Nat.lt_irrefl _)
    · obtain ⟨h', tk, c, rfl, rfl, hc', hS, k⟩ := hr
      repeat (any_goals (first | assumption | wp_step))
      exact q h' tk c hc' hS k
end

section
variable {P : Program} {w : World} {A : Around} {s : Shared}
theorem over_list {l : Addr} {vs : Array Value} {ns : List Int} (hh : A.handled = none) (hl : s.heap.IsList l vs) (hi : IntsAre vs.toList ns) : Over P w A (.ref l) ns s := fun E Q q => by
  have lt : l < s.heap.objs.size := by obtain ⟨o, ho, _⟩ := hl; exact Heap.lt_size ho
  have len : vs.size = ns.length := by rw [← hi.length]; simp
  refine wpAny_pyIter_list hl (q s.heap.objs.size [s.heap.objs.size, l] (fun (i : Nat) (v : Value) => vs[i]? = some v) (fun i h => h.IsListIter s.heap.objs.size l i ∧ h.IsList l vs) _ (by rw [← len]; exact Walks.list (A := A.in1) hh _ l (Nat.ne_of_lt lt) vs) rfl ⟨⟨_, Heap.get?_push_size _ rfl, rfl, rfl⟩, hl.push _⟩ (fun b hb hn => ?_) fun i v hv => ?_)
  · rcases List.mem_cons.mp hb with e | e
    · exact absurd e hn
    · obtain ⟨o, ho, hc, _⟩ := hl
      rw [List.mem_singleton.mp e]
      exact ⟨o, ho, by rw [hc]; decide⟩
  · have hlt : i < ns.length := by rw [← len]; exact (Array.getElem?_eq_some_iff.mp hv).1
    obtain ⟨t, e⟩ := hi.int_at i v (by rw [Array.getElem?_toList]; exact hv)
    refine ⟨ns[i], t, List.getElem?_eq_getElem hlt, ?_⟩
    rw [e, List.getD_eq_getElem?_getD, List.getElem?_eq_getElem hlt]
    rfl
theorem over_tup {l : Addr} {vs : Array Value} {ns : List Int} (hh : A.handled = none) (hl : s.heap.IsTuple l vs) (hi : IntsAre vs.toList ns) : Over P w A (.ref l) ns s := fun E Q q => by
  have lt : l < s.heap.objs.size := by obtain ⟨o, ho, _⟩ := hl; exact Heap.lt_size ho
  have len : vs.size = ns.length := by rw [← hi.length]; simp
  refine wpAny_pyIter_tuple hl (q s.heap.objs.size [s.heap.objs.size, l] (fun (i : Nat) (v : Value) => vs[i]? = some v) (fun i h => h.IsTupleIter s.heap.objs.size l i ∧ h.IsTuple l vs) _ (by rw [← len]; exact Walks.tuple (A := A.in1) hh _ l (Nat.ne_of_lt lt) vs) rfl ⟨⟨_, Heap.get?_push_size _ rfl, rfl, rfl⟩, hl.push _⟩ (fun b hb hn => ?_) fun i v hv => ?_)
  · rcases List.mem_cons.mp hb with e | e
    · exact absurd e hn
    · obtain ⟨o, ho, hc, _⟩ := hl
      rw [List.mem_singleton.mp e]
      exact ⟨o, ho, by rw [hc]; decide⟩
  · have hlt : i < ns.length := by rw [← len]; exact (Array.getElem?_eq_some_iff.mp hv).1
    obtain ⟨t, e⟩ := hi.int_at i v (by rw [Array.getElem?_toList]; exact hv)
    refine ⟨ns[i], t, List.getElem?_eq_getElem hlt, ?_⟩
    rw [e, List.getD_eq_getElem?_getD, List.getElem?_eq_getElem hlt]
    rfl
theorem setR_count {h : Heap} {a : Addr} {ns : List Int} {c : Nat} (R : SetR w h a (fun j => decide (j ∈ ns)) c) : c = (ddI ns).length := by
  obtain ⟨o, es, ep, t, ho, hx, hd, g, nd, hm, hb, hf, hn, _⟩ := R
  have p : (es.toList.map L2.keyOf).Perm (ddI ns) := (List.perm_ext_iff_of_nodup nd (nodup_ddI ns)).mpr fun k => by
    rw [← hm k, decide_eq_true_eq, mem_ddI]
  have := p.length_eq
  rw [List.length_map, Array.length_toList] at this
  omega
end
section
variable {G : Gx} {X : Cx} {e : Expr} {es : List Expr} {pos p q : Pos}
def rSetI (K : PySem.W.Frag) (w : World) : List V → Hp → VK → Prop := fun vs H Q => ∃ (a : Addr) (ns : List Int), vs = [V.ref a] ∧ (SqL K H a (ns.map V.int) ∨ SqT K H a (ns.map V.int)) ∧ ns.length < 64 ∧
  ∀ p, H p = none → Q (.ref p) (upd H p (SetO w p (fun j => decide (j ∈ ns)) (ddI ns).length))
theorem cr_setI (hc : X.calm = true) : CallR X (.type "set") (rSetI X.K X.w) := by
  intro pins s σ H vs us Q I r h
  obtain ⟨a, ns, rfl, hs, few, q⟩ := h
  rw [Vals.ref1 r]
  have fin : ∀ (h' : Heap) (tk c : Nat), c ≤ ns.length → SetR X.w h' s.heap.objs.size (fun j => decide (j ∈ ns)) c → (∀ b o, s.heap.get? b = some o → h'.get? b = some o) → EP X pins σ Q (.ref s.heap.objs.size) { s with heap := h', toks := tk } := fun h' tk c hc' hS k => by
    have e := setR_count hS
    subst e
    exact ⟨.ref s.heap.objs.size, _, I.laid (t' := tk) k (Nat.le_refl _) (setO_new hS), rfl, q _ (I.hok.fresh (Nat.le_refl _))⟩
  have few' : ns.length + 1 < scanBound := by unfold scanBound; omega
  rcases hs with hs | hs
  · obtain ⟨its, rv, hl, _⟩ := I.list hs
    obtain ⟨o, ho, hcl, _⟩ := hl.isList
    exact call_ints ho hcl F.sub_list_set F.sub_list_frozenset (by decide) (fun A' hA => over_list (hA.trans (I.ok.hd hc)) (hl.isList.push _) rv.ints) few' fin
  · obtain ⟨its, rv, hl, _⟩ := I.tuple hs
    obtain ⟨o, ho, hcl, _⟩ := id hl
    exact call_ints ho hcl F.sub_tuple_set F.sub_tuple_frozenset (by decide) (fun A' hA => over_tup (hA.trans (I.ok.hd hc)) (PySem.Heap.IsTuple.push hl _) rv.ints) few' fin
def rLenSet (w : World) : List V → Hp → VK → Prop := fun vs H Q => ∃ (a : Addr) (S : Int → Bool) (n : Nat), vs = [V.ref a] ∧ H a = some (SetO w a S n) ∧ n < 64 ∧ Q (.int n) H
theorem cr_lenSet : CallR X (.builtin "len") (rLenSet X.w) := by
  intro pins s σ H vs us Q I r h
  obtain ⟨a, S, n, rfl, ha, few, q⟩ := h
  rw [Vals.ref1 r]
  obtain ⟨o, es, ep, t, ho, hx, hd, g, nd, hm, hb, hf, hn, _⟩ := setO_get I ha
  exact call_len_set ho hx hd hf (by rw [hn]; omega) ⟨.int n, H, I.tok _, ⟨_, by rw [hn]⟩, q⟩
theorem sq_of {F : Hp} {κ : Col} {σ : L2.St} {H : Hp} {ρ : Env'} {x : V} {xs : List D} {ns : List Int} {K : PySem.W.Frag} (S : SS G F κ σ H ρ) (n : intsD xs = some ns) (r : RD G F x (.lst xs) ∨ RD G F x (.tup xs) ∨ RD G F x (.tz xs)) : ∃ a, x = .ref a ∧ (SqL K H a (ns.map V.int) ∨ SqT K H a (ns.map V.int)) := by
  obtain rfl := intsD_ok n
  rcases r with r | r | r
  · cases r with
    | lst s r2 => obtain rfl := rds_ints r2; exact ⟨_, rfl, .inl (.of (S.lstF s))⟩
  · cases r with
    | tup s r2 => obtain rfl := rds_ints r2; exact ⟨_, rfl, .inr (.of (S.tupF s))⟩
  · cases r with
    | tz s _ _ r2 => obtain rfl := rds_ints r2; exact ⟨_, rfl, .inr (.inl (.inr ⟨_, S.tzF s⟩))⟩
theorem does_sortSet : DoesNA G (fun vs H Q => rSetI X.K X.w vs H fun x H2 => rSortedSet X.w [x] H2 Q) nSortSet := by
  intro F κ σ H ρ xs as c Q S r e k
  have main : ∀ (x : V) (ys : List D), (RD G F x (.lst ys) ∨ RD G F x (.tup ys) ∨ RD G F x (.tz ys)) → ((intsD ys).bind fun ns => if ns.length < 64 then some (O.lst ((sortSet ns).map fun i => .fz (.int i))) else none) = some c → rSetI X.K X.w [x] H fun x H2 => rSortedSet X.w [x] H2 Q := by
    intro x ys rx e
    cases n : intsD ys with
    | none => rw [n] at e; cases e
    | some ns =>
      rw [n] at e
      simp only [Option.bind_some] at e
      split at e
      · rename_i few
        cases e
        obtain ⟨a, rfl, sq⟩ := sq_of (K := X.K) S n rx
        refine ⟨a, ns, rfl, sq, few, fun p hp => ⟨p, _, _, rfl, upd_same, by have := len_ddI ns; omega, fun ms p2 hs hm hl hp2 => ?_⟩⟩
        have hne : p2 ≠ p := fun e => by rw [e, upd_same] at hp2; cases hp2
        have S1 := S.loose (o := SetO X.w p (fun j => decide (j ∈ ns)) (ddI ns).length) hp
        have e1 : ms = sortSet ns := sortSet_uniq hs fun j => (hm j).trans decide_eq_true_iff
        have e2 : (sortSet ns).map (fun i => O.fz (D.int i)) = ((sortSet ns).map D.int).map O.fz := by rw [List.map_map]; rfl
        rw [e1]
        rw [e2] at k
        have k1 : GivesN G F κ σ (upd H p (SetO X.w p (fun j => decide (j ∈ ns)) (ddI ns).length)) ρ (.lst (((sortSet ns).map D.int).map O.fz)) Q := fun v F' κ' H' κt S' s' r' ht => k v F' κ' H' κt S' ((Step.loose S hp).trans s') r' fun b q z => ⟨tn_step (.loose S hp) (ht b q z).1, (ht b q z).2⟩
        exact k1.newL S1 (ints_rds _) hp2
      · cases e
  unfold nSortSet at e
  split at e
  · obtain ⟨v, rfl, rv⟩ := RDs.one r
    exact main v _ (.inl rv) e
  · obtain ⟨v, rfl, rv⟩ := RDs.one r
    exact main v _ (.inr (.inl rv)) e
  · obtain ⟨v, rfl, rv⟩ := RDs.one r
    exact main v _ (.inr (.inr rv)) e
  · cases e
theorem does_lenSet : DoesA G (fun vs H Q => rSetI X.K X.w vs H fun x H2 => rLenSet X.w [x] H2 Q) gLenSet := by
  intro F κ σ H ρ xs as c Q S r e k
  have main : ∀ (x : V) (ys : List D), (RD G F x (.lst ys) ∨ RD G F x (.tup ys) ∨ RD G F x (.tz ys)) → ((intsD ys).bind fun ns => if ns.length < 64 then some (D.int (ddI ns).length) else none) = some c → rSetI X.K X.w [x] H fun x H2 => rLenSet X.w [x] H2 Q := by
    intro x ys rx e
    cases n : intsD ys with
    | none => rw [n] at e; cases e
    | some ns =>
      rw [n] at e
      simp only [Option.bind_some] at e
      split at e
      · rename_i few
        cases e
        obtain ⟨a, rfl, sq⟩ := sq_of (K := X.K) S n rx
        refine ⟨a, ns, rfl, sq, few, fun p hp => ⟨p, _, _, rfl, upd_same, by have := len_ddI ns; omega, ?_⟩⟩
        exact k _ F κ _ (S.loose hp) (.loose S hp) (.int _)
      · cases e
  unfold gLenSet at e
  split at e
  · obtain ⟨v, rfl, rv⟩ := RDs.one r
    exact main v _ (.inl rv) e
  · obtain ⟨v, rfl, rv⟩ := RDs.one r
    exact main v _ (.inr (.inl rv)) e
  · obtain ⟨v, rfl, rv⟩ := RDs.one r
    exact main v _ (.inr (.inr rv)) e
  · cases e
theorem n_sortset {f : LF} {p2 pos2 : Pos} (R : Rdy G X) (ha : VA G X [e] f) (hg : Gl X "sorted" := by rfl) (hg2 : Gl X "set" := by rfl) 
    (he : starEach [e] X.env = (false, eval e X.env) :: starEach [] X.env := by rfl) (he2 : starEach [Expr.Call (.Name "set" p2) [e] [] pos2] X.env = (false, eval (Expr.Call (.Name "set" p2) [e] [] pos2) X.env) :: starEach [] X.env := by rfl) :
    VN G X (.Call (.Name "sorted" p) [.Call (.Name "set" p2) [e] [] pos2] [] pos) (nA nSortSet f) :=
  peImp (pe_callB (cr_sortedSet R.calm) hg R.bl.sorted PyProof.Rows.boot_sorted (pa_cons (pe_callTy (cr_setI R.calm) hg2 R.bl.set PyProof.Rows.boot_set ha (by decide) (by decide) he rfl) pa_nil he2) (by decide) (by decide) he2 rfl) fun σ H Q q => tA_runN does_sortSet q
theorem x_lenset {f : LF} {p2 pos2 : Pos} (R : Rdy G X) (ha : VA G X [e] f) (hg : Gl X "len" := by rfl) (hg2 : Gl X "set" := by rfl) 
    (he : starEach [e] X.env = (false, eval e X.env) :: starEach [] X.env := by rfl) (he2 : starEach [Expr.Call (.Name "set" p2) [e] [] pos2] X.env = (false, eval (Expr.Call (.Name "set" p2) [e] [] pos2) X.env) :: starEach [] X.env := by rfl) :
    VX G X (.Call (.Name "len" p) [.Call (.Name "set" p2) [e] [] pos2] [] pos) (dA gLenSet f) :=
  peImp (pe_callB cr_lenSet hg R.bl.len PySem.boot_len (pa_cons (pe_callTy (cr_setI R.calm) hg2 R.bl.set PyProof.Rows.boot_set ha (by decide) (by decide) he rfl) pa_nil he2) (by decide) (by decide) he2 rfl) fun σ H Q q => tA_run does_lenSet q
end
end VL
set_option Elab.async false
set_option linter.all false
set_option maxRecDepth 100000
set_option maxHeartbeats 4000000
namespace VL
open PySem PySem.Spec PyProof.Rows L2
section
variable {G : Gx} {X : Cx} {e : Expr} {es : List Expr} {pos : Pos}
/-! ### a call that takes a name's tree over: x = f(.., x, ..) -/
def calM (p i : Nat) (f : FF) (g : MF) : OF := fun ρ => (g ρ).bind fun a => match a.2[i]? with
  | some (some o) => if a.1.1.length = p then (match f (a.1.1.map .fz ++ o :: a.1.2.map .fz) with
      | some (r, _) => some (r, a.2.set i none)
      | _ => none) else none
  | _ => none
def colOutM (κ κ' : Col) (i : Nat) : Col := fun a => match κ' a with
  | some _ => none
  | none => unc κ i a
theorem colOutM_some {κ κ' : Col} {i : Nat} {a : Addr} {q : List Nat} (h : colOutM κ κ' i a = some q) : κ' a = none ∧ κ a = some q ∧ q.head? ≠ some i := by
  unfold colOutM at h
  split at h
  · cases h
  · rename_i e
    obtain ⟨h1, h2⟩ := unc_some h
    exact ⟨e, h1, h2⟩
theorem call_coreM {n p i : Nat} {f : FF} {F : Hp} {κ : Col} {σ : L2.St} {H : Hp} {ρ : Env'} {vs ws : List V} {v : V} {ds1 ds2 : List D} {o c : O} {os' : List O} {Q : VK} {E : XK} (S : SS G F κ σ H ρ) (eo : ρ[i]? = some (some o)) (hv : σ[i]? = some (some v)) (r1 : RDs G F vs ds1) (r2 : RDs G F ws ds2) (hp : ds1.length = p)
    (ef : f (ds1.map .fz ++ o :: ds2.map .fz) = some (c, os')) (hn : ∀ os z, f os = some z → os.length = n)
    (k : ∀ w F' κ' H' κt, SS G F' κ' σ H' (ρ.set i none) → Step F κ H F' κ' H' → RO G F' κt H' [] w c → (∀ a p, κt a = some p → (H a = none ∨ κ a ≠ none) ∧ Mo H' a ∧ F' a = none ∧ κ' a = none) → Q w H') : spF G n [] f (vs ++ v :: ws) H Q E := by
  have hvs : vs.length = p := by rw [RDs.length r1]; exact hp
  obtain ⟨v', hv', ro⟩ := S.slots i o eo
  rw [hv] at hv'; cases hv'
  have hil : i < ρ.length := (List.getElem?_eq_some_iff.mp eo).1
  refine ⟨F, colIn κ i p, ds1.map .fz ++ o :: ds2.map .fz, c, os', ⟨S.sub, fun a q z => ?_, by simp [RDs.length r1, RDs.length r2], fun j u e => ?_, S.tab⟩, hn _ _ ef, ef, fun w F' κ' H' κt hsub hown hpl st rr ht => ?_⟩
  · obtain ⟨q', _, z'⟩ := colIn_some z
    exact S.own a _ z'
  · rw [List.map_append, List.map_cons] at e ⊢
    by_cases h1 : j < p
    · rw [List.getElem?_append_left (by simp; omega), List.getElem?_map, List.getElem?_map] at e
      cases z : ds1[j]? with
      | none => rw [z] at e; cases e
      | some d =>
        rw [z] at e; cases e
        obtain ⟨x, hx, rx⟩ := RDs.get r1 z
        exact ⟨x, by rw [List.getElem?_append_left (by simp; omega), List.getElem?_map, hx]; rfl, .fz rx⟩
    · by_cases h2 : j = p
      · subst h2
        rw [List.getElem?_append_right (by simp; omega)] at e
        simp only [List.length_map, hp, Nat.sub_self, List.getElem?_cons_zero] at e
        cases e
        refine ⟨v, by rw [List.getElem?_append_right (by simp; omega)]; simp [hvs], ?_⟩
        exact ro.reroot fun a q z => colIn_root z
      · have h3 : p < j := by omega
        obtain ⟨m, rfl⟩ : ∃ m, j = p + 1 + m := ⟨j - (p + 1), by omega⟩
        rw [List.getElem?_append_right (by simp; omega)] at e
        simp only [List.length_map, hp, show p + 1 + m - p = m + 1 by omega, List.getElem?_cons_succ, List.getElem?_map] at e
        cases z : ds2[m]? with
        | none => rw [z] at e; cases e
        | some d =>
          rw [z] at e; cases e
          obtain ⟨x, hx, rx⟩ := RDs.get r2 z
          refine ⟨x, ?_, .fz rx⟩
          rw [List.getElem?_append_right (by simp; omega)]
          simp only [List.length_map, hvs, show p + 1 + m - p = m + 1 by omega, List.getElem?_cons_succ, List.getElem?_map, hx]
          rfl
  · have oth : ∀ a q, κ a = some q → q.head? ≠ some i → colIn κ i p a = none := fun a q z hq => by
      cases y : colIn κ i p a with
      | none => rfl
      | some q2 =>
        obtain ⟨q', _, z'⟩ := colIn_some y
        rw [z] at z'; cases z'
        exact absurd rfl hq
    have keep : ∀ a q o, κ a = some q → q.head? ≠ some i → H a = some o → H' a = some o ∧ κ' a = none ∧ F' a = none := fun a q o z hq h => by
      have h0 := oth a q z hq
      have hnt : ∀ xs, o ≠ .tup xs := fun xs e => (S.own a q z).2.2.1 xs (by rw [h, e])
      have hnb : ∀ xs, o ≠ tE xs := fun xs e => (S.own a q z).2.2.2 xs (by rw [h, e])
      refine ⟨st.frm h h0 hnb, ?_, by rw [st.nofz a o h h0 hnt hnb]; exact (S.own a q z).1⟩
      cases y : κ' a with
      | none => rfl
      | some q2 =>
        rcases st.own a q2 y with z2 | z2
        · rw [h] at z2; cases z2
        · exact absurd h0 z2
    have inN : ∀ a, κ a = none → colIn κ i p a = none := fun a hk => by
      cases y : colIn κ i p a with
      | none => rfl
      | some q2 => obtain ⟨q', _, z'⟩ := colIn_some y; rw [hk] at z'; cases z'
    refine k w F' (colOutM κ κ' i) H' κt ⟨hsub, fun a q z => ?_, by simp [S.len], fun j u e => ?_, fun q hq => st.ext _ _ (S.tab q hq)⟩ ⟨st.ext, fun a u h hk => st.frame a u h (inN a hk), fun a u h hk hnt hnb => st.nofz a u h (inN a hk) hnt hnb, fun a q z => ?_⟩ rr fun a q z => ?_
    · obtain ⟨z1, z2, z3⟩ := colOutM_some z
      obtain ⟨h1, h2⟩ := S.own a q z2
      obtain ⟨u, y, hnt, hnb⟩ := h2.get
      obtain ⟨h3, _, h5⟩ := keep a q u z2 z3 y
      exact ⟨h5, .at h3 hnt hnb⟩
    · by_cases hj : j = i
      · subst hj
        rw [List.getElem?_set_self hil] at e
        cases e
      · rw [List.getElem?_set_ne (Ne.symm hj)] at e
        obtain ⟨x, hx, rx⟩ := S.slots j u e
        have hne : ∀ q : List Nat, Rt j q → q.head? ≠ some i := fun q rq y => hj (Option.some.inj (rq.symm.trans y))
        refine ⟨x, hx, rx.keep st.ext (fun a q rq z => ?_) fun a q y rq z h => (keep a q y z (hne q rq) h).1⟩
        have hH : H a ≠ none := (S.own a q z).2.1
        cases y : H a with
        | none => exact absurd y hH
        | some u2 =>
          unfold colOutM
          rw [(keep a q u2 z (hne q rq) y).2.1]
          exact unc_keep hj rq z
    · obtain ⟨z1, z2, z3⟩ := colOutM_some z
      exact .inr (by rw [z2]; simp)
    · obtain ⟨h1, h2, h3, h4⟩ := ht a q z
      refine ⟨?_, h2, h3, ?_⟩
      · rcases h1 with h1 | h1
        · exact .inl h1
        · exact .inr fun hk => h1 (inN a hk)
      · cases y : colOutM κ κ' i a with
        | none => rfl
        | some q2 =>
          exfalso
          obtain ⟨z1, z2, z3⟩ := colOutM_some y
          have hH := (S.own a q2 z2).2.1
          have h0 := oth a q2 z2 z3
          rcases h1 with h1 | h1
          · exact hH h1
          · exact h1 h0
theorem calM_run {n p i : Nat} {f : FF} {g : MF} {σ : L2.St} {H : Hp} {Q : VK} {E : XK} (q : tN G (calM p i f g) σ H Q) (hn : ∀ os z, f os = some z → os.length = n) : tM G i g σ H fun vs H1 => spF G n [] f vs H1 Q E := by
  obtain ⟨F0, κ0, ρ0, c, ρ', S0, q, k⟩ := q
  unfold calM at q
  cases q1 : g ρ0 with
  | none => rw [q1] at q; cases q
  | some a =>
    obtain ⟨⟨ds1, ds2⟩, ρ⟩ := a
    rw [q1] at q
    simp only [Option.bind_some] at q
    split at q
    · rename_i o eo
      split at q
      · rename_i hp
        split at q
        · rename_i r os' ef
          cases q
          exact ⟨F0, κ0, ρ0, _, ρ, S0, q1, fun vs v ws F κ H S s0 r1 hv r2 => call_coreM S eo hv r1 r2 hp ef hn fun w F' κ' H' κt S' st rr ht => k w F' κ' H' κt S' (s0.trans st) rr fun a p z => ⟨tn_step s0 (ht a p z).1, (ht a p z).2⟩⟩
        · cases q
      · cases q
    · cases q
theorem vn_callM {CX : CXT} {k : Nat} {fa : Addr} {fd : FuncData} {ps : List Str} {x : Str} {p : Pos} {f : FF} {ag : MF} {E : XK} {n pl i : Nat} (F : FnOk X.prog X.w X.K X.mg X.base CX k fa fd ps (spF G n [] f)) (hn : ∀ os z, f os = some z → os.length = n) (hr : Room k X.A) (hg : Gl X x) (hm : X.mg x = some (.ref fa)) (hk : PySem.W.keepIn X.K (.ref fa) = true) (hb : Binds X.K fd ps []) (hx : Passes CX X E)
    (ha : VM G X i (e :: es) ag) (hdb : (x == ("__debug__" : Str)) = false := by decide) (he : starEach (e :: es) X.env = (false, eval e X.env) :: starEach es X.env := by rfl) (hpl : (backTo pos (starEach es X.env)).any (·.1) = false := by rfl) :
    VN G X (.Call (.Name x p) (e :: es) [] pos) (calM pl i f ag) := peImp (pe_call F hr hg hm hk hb .nil hx ha hdb he hpl) fun σ H Q q => by
  have := calM_run (E := E) q hn
  unfold tCall
  refine tM_mono this fun vs H1 h => ?_
  rw [List.append_nil]; exact h
theorem n_callM {ps : List Str} {x : Str} {st : Stmt} {p : Pos} {ff : FF} {ag : MF} {k n pl i : Nat} (Df : DefAt G.K X.mg x st ps) (ok : FnOk X.prog X.w G.K X.mg X.base CX0 k Df.fa Df.fd ps (spF G n [] ff)) (hn : ∀ os z, ff os = some z → os.length = n) (R : Rdy G X) (hr : Room k X.A)
    (ha : VM G X i (e :: es) ag) (hg : Gl X x := by rfl) (hdb : (x == ("__debug__" : Str)) = false := by decide) (he : starEach (e :: es) X.env = (false, eval e X.env) :: starEach es X.env := by rfl) (hpl : (backTo pos (starEach es X.env)).any (·.1) = false := by rfl) :
    VN G X (.Call (.Name x p) (e :: es) [] pos) (calM pl i ff ag) := by
  obtain ⟨fa, fd, F, m, B⟩ := Df
  have hK := R.hK
  exact vn_callM (E := E0) (by rw [← hK]; exact ok) hn hr hg m (by rw [← hK]; exact F.kp) (by rw [← hK]; exact B) pass0 ha hdb he hpl
/-! ### for k in t[j], t a name's tuple -/
/-! ### [..] * n -/
def gRep : D → D → Option O
  | .lst xs, .int k => if -(2 ^ 63) ≤ k ∧ k < 2 ^ 63 ∧ xs.length * k.toNat ≤ lim then some (.lst ((List.replicate k.toNat xs).flatten.map .fz)) else none
  | _, _ => none
theorem does_rep : DoesN2 G rRep gRep := by
  intro F κ σ H ρ x y a b c Q S rx ry e k
  unfold gRep at e
  split at e
  · split at e
    · rename_i xs i h
      obtain ⟨h1, h2, h3⟩ := h
      cases e
      cases rx with
      | lst s r =>
        cases ry
        exact ⟨_, _, _, rfl, rfl, S.lstF s, h1, h2, by rw [RDs.length r]; exact lim_le h3, fun p hp => k.newL S (RDs.rep r _) hp⟩
    · cases e
  · cases e
theorem n_rep {a b : Expr} {f h : DF} (ha : VX G X a f) (hb : VX G X b h) : VN G X (.BinOp a .Mult b pos) (n2 gRep f h) := vn_op op_rep does_rep ha hb
end
end VL
set_option Elab.async false
set_option linter.all false
set_option maxRecDepth 100000
set_option maxHeartbeats 4000000
namespace VL
open PySem PySem.Spec PyProof.Rows L2
section
variable {G : Gx} {X : Cx} {a b c e : Expr} {es : List Expr} {pos : Pos}
/-! ### x[n].get(k, d), x a name that owns a list of dicts; k and d are told while x is put aside -/
def dGetAt (i : Nat) (h fk fd : DF) : DF := fun ρ => match ρ[i]? with
  | some (some (.lst _)) => (h ρ).bind fun p => match p.1, p.2[i]? with
    | .int j, some (some (.lst os)) => match ixN os.length j with
      | some jj => match os[jj]? with
        | some (.dK kvs) => (fk (p.2.set i none)).bind fun q => (fd q.2).bind fun r => (lookO (.dK kvs) q.1).map fun w => (w.getD r.1, r.2.set i (some (.lst os)))
        | _ => none
      | none => none
    | _, _ => none
  | _ => none
theorem vx_getAt {i : Nat} {h fk fd : DF} {apos spos : Pos} (hu : X.A.units + 1 < cLine) (ha : PE X a (tVar i)) (hk : VX G X b h) (hix : PlainIx b) (hc : VX G X c fk) (he : VX G X e fd) (m : M2 X (.Subscript a b spos) "get" apos c e pos) :
    VX G X (.Call (.Attribute (.Subscript a b spos) "get" apos) [c, e] [] pos) (dGetAt i h fk fd) := peImp (pe_dget2 hu (pe_ix ix_list ha hk hix) hc he m) fun σ H Q ⟨F0, κ0, ρ0, d, ρ', S0, q, k⟩ => by
  unfold dGetAt at q
  split at q
  · rename_i os0 e0
    obtain ⟨v, hv, r0⟩ := S0.slots i _ e0
    cases q1 : h ρ0 with
    | none => rw [q1] at q; cases q
    | some p =>
      obtain ⟨kd, ρ⟩ := p
      rw [q1] at q
      simp only [Option.bind_some] at q
      split at q
      · rename_i j os e1
        split at q
        · rename_i jj ej
          split at q
          · rename_i kos eu
            cases q2 : fk (ρ.set i none) with
            | none => rw [q2] at q; cases q
            | some z =>
              obtain ⟨key, ρ2⟩ := z
              rw [q2] at q
              simp only [Option.bind_some] at q
              cases q3 : fd ρ2 with
              | none => rw [q3] at q; cases q
              | some z =>
                obtain ⟨dflt, ρ3⟩ := z
                rw [q3] at q
                simp only [Option.bind_some] at q
                cases q4 : lookO (.dK kos) key with
                | none => rw [q4] at q; cases q
                | some w =>
                  rw [q4] at q
                  cases q
                  refine ⟨v, hv, F0, κ0, ρ0, _, ρ, S0, q1, fun y F κ H1 S s0 ry => ?_⟩
                  obtain ⟨v', hv', S1, rt, ht⟩ := S.aside e1
                  rw [hv] at hv'; cases hv'
                  cases rt with
                  | @lst _ l vs _ hc hl rs =>
                    obtain ⟨u, hw, rw'⟩ := ROs.get rs eu
                    simp only [List.nil_append, Nat.zero_add] at rw'
                    refine ⟨l, vs, j, u, rfl, by cases ry; rfl, .of hl, ?_, ?_⟩
                    · unfold atI; rw [ROs.length rs, ej]; exact hw
                    · have rw0 := rw'
                      cases rw' with
                      | @dK _ l2 kvs2 _ hc2 hl2 hm2 rs2 =>
                        refine ⟨l2, rfl, .inl ⟨_, .inl hl2⟩, F, unc κ i, ρ.set i none, key, ρ2, S1, q2, fun y2 F2 κ2 H2 S2 s2 r2 => ⟨F2, κ2, ρ2, dflt, ρ3, S2, q3, fun z3 F3 κ3 H3 S3 s3 r3 => ?_⟩⟩
                        obtain ⟨S4, hH⟩ := SS.back (o := .lst os) hv (.lst hc hl rs) (fun a p z => ⟨(ht a p z).1, (ht a p z).2.1, (ht a p z).2.2.1⟩) (s2.trans s3) S3
                        have iln : i < (ρ3.set i (some (O.lst os))).length := by rw [S4.len]; exact (List.getElem?_eq_some_iff.mp hv).1
                        obtain ⟨v3, hv3, ro3⟩ := S4.slots i (.lst os) (by rw [List.getElem?_set_self (by simpa using iln)])
                        rw [hv] at hv3; cases hv3
                        cases ro3 with
                        | @lst _ _ vs3 _ hc3 hl3 rs3 =>
                          have evs : vs3 = vs := by
                            rw [hH _ _ hc, hl] at hl3
                            cases hl3; rfl
                          subst evs
                          obtain ⟨w3, hw3, rw3⟩ := ROs.get rs3 eu
                          rw [hw] at hw3; cases hw3
                          obtain ⟨a', ov, ea, g, g1, g2⟩ := lookO_run S4 rw3 (r2.mono' s3.ext) q4
                          cases ea
                          have st : Step F κ H1 F3 (put κ3 i (VL.sub κ i)) H3 := Step.put ((Step.unc (i := i)).trans (s2.trans s3)) fun a p z => .inr (ht a p z).2.2.2
                          refine ⟨ov, g, ?_⟩
                          cases w with
                          | none => rw [g2 rfl]; exact k _ F3 _ H3 S4 (s0.trans st) r3
                          | some d => obtain ⟨v, rfl, rv⟩ := g1 d rfl; exact k _ F3 _ H3 S4 (s0.trans st) rv
          · cases q
        · cases q
      · cases q
  · cases q
/-! ### x[n][k] = e -/
def sSetAt (i : Nat) (h fk fe : DF) : SF := fun ρ => (fe ρ).bind fun p => match p.2[i]? with
  | some (some (.lst _)) => (h p.2).bind fun q => match q.1, q.2[i]? with
    | .int j, some (some (.lst os)) => match ixN os.length j with
      | some jj => match os[jj]? with
        | some (.dK kvs) => (fk (q.2.set i none)).bind fun r => (setO (.dK kvs) r.1 p.1).map fun o' => (.nx, r.2.set i (some (.lst (os.set jj o'))))
        | _ => none
      | none => none
    | _, _ => none
  | _ => none
theorem vs_setAt {P : List Nat} {i : Nat} {h fk fe : DF} {spos tpos : Pos} (hu : X.A.units + 1 < cLine) (ha : PE X a (tVar i)) (hk : VX G X b h) (hix : PlainIx b) (hc : VX G X c fk) (he : VX G X e fe)
    (has : ∀ v, assign (.Subscript (.Subscript a b tpos) c spos) X.env v = (do
      let ov ← holding [v] (eval (.Subscript a b tpos) X.env)
      let iv ← holding [v, ov] (eval c X.env)
      standAt spos
      holding [v, ov, iv] (setItem ov iv v)
      release [v, ov, iv] []) := by intro _; rfl)
    (hs : swapsWithSole [.Subscript (.Subscript a b tpos) c spos] e pos.line X.env = pure false := by rfl) (hw : swappedStores [.Subscript (.Subscript a b tpos) c spos] e X.env = pure none := by rfl) (h1 : (assignEach [.Subscript (.Subscript a b tpos) c spos] X.env).map (·.2) = [assign (.Subscript (.Subscript a b tpos) c spos) X.env] := by rfl) :
    VS G P X (.Assign [.Subscript (.Subscript a b tpos) c spos] e pos) (sSetAt i h fk fe) := psImp (ps_asg he (pg_sub (pe_ix ix_list ha hk hix) hc (set_dict hu) has) hs hw h1) fun Dn σ H ⟨F0, κ0, ρ0, out, ρ', S0, q, k⟩ => by
  unfold sSetAt at q
  cases q0 : fe ρ0 with
  | none => rw [q0] at q; cases q
  | some p =>
    obtain ⟨d, ρ1⟩ := p
    rw [q0] at q
    simp only [Option.bind_some] at q
    split at q
    · rename_i os0 e0
      cases q1 : h ρ1 with
      | none => rw [q1] at q; cases q
      | some p =>
        obtain ⟨kd, ρ⟩ := p
        rw [q1] at q
        simp only [Option.bind_some] at q
        split at q
        · rename_i j os e1
          split at q
          · rename_i jj ej
            split at q
            · rename_i kos eu
              cases q2 : fk (ρ.set i none) with
              | none => rw [q2] at q; cases q
              | some z =>
                obtain ⟨key, ρ2⟩ := z
                rw [q2] at q
                simp only [Option.bind_some] at q
                cases q4 : setO (.dK kos) key d with
                | none => rw [q4] at q; cases q
                | some o' =>
                  rw [q4] at q
                  cases q
                  refine ⟨F0, κ0, ρ0, d, ρ1, S0, q0, fun w Fw κw Hw Sw sw rw0 => ?_⟩
                  obtain ⟨v, hv, _⟩ := Sw.slots i _ e0
                  refine ⟨v, hv, Fw, κw, ρ1, _, ρ, Sw, q1, fun y F κ H1 S s0 ry => ?_⟩
                  obtain ⟨v', hv', S1, rt, ht⟩ := S.aside e1
                  rw [hv] at hv'; cases hv'
                  cases rt with
                  | @lst _ l vs _ hc hl rs =>
                    obtain ⟨u, hw, rw'⟩ := ROs.get rs eu
                    simp only [List.nil_append, Nat.zero_add] at rw'
                    refine ⟨l, vs, j, u, rfl, by cases ry; rfl, .of hl, ?_, F, unc κ i, ρ.set i none, key, ρ2, S1, q2, fun y2 F2 κ2 H2 S2 s2 r2 => ?_⟩
                    · unfold atI; rw [ROs.length rs, ej]; exact hw
                    obtain ⟨S3, hH⟩ := SS.back (o := .lst os) hv (.lst hc hl rs) (fun a p z => ⟨(ht a p z).1, (ht a p z).2.1, (ht a p z).2.2.1⟩) s2 S2
                    have iln : i < (ρ2.set i (some (O.lst os))).length := by rw [S3.len]; exact (List.getElem?_eq_some_iff.mp hv).1
                    obtain ⟨v3, hv3, ro3⟩ := S3.slots i (.lst os) (by rw [List.getElem?_set_self (by simpa using iln)])
                    rw [hv] at hv3; cases hv3
                    cases ro3 with
                    | @lst _ _ vs3 _ hc3 hl3 rs3 =>
                      have evs : vs3 = vs := by
                        rw [hH _ _ hc, hl] at hl3
                        cases hl3; rfl
                      subst evs
                      obtain ⟨w3, hw3, rw3⟩ := ROs.get rs3 eu
                      rw [hw] at hw3; cases hw3
                      simp only [Nat.zero_add] at rw3
                      unfold setO at q4
                      simp only at q4
                      cases q5 : keyD key with
                      | none => rw [q5] at q4; cases q4
                      | some kk =>
                        rw [q5] at q4
                        simp only [Option.bind_some] at q4
                        split at q4
                        · rename_i hlim
                          cases q4
                          cases rw3 with
                          | @dK _ l2 kvs _ hc2 hl2 hm2 rs2 =>
                            have hl4 : kvs.length = kos.length := by have := congrArg List.length hm2; simpa using this
                            have nel : l ≠ l2 := fun e => by rw [← e, hc3] at hc2; simp at hc2
                            have rd : RD G F2 w d := (rw0.mono' s0.ext).mono' s2.ext
                            have S4 := S3.write (u := .dK (putK kvs kk w)) (o' := .lst (os.set jj (.dK (putD kos kk (.fz d))))) hc2 rfl hv (.lst hc3 (by rw [upd_ne nel]; exact hl3) (ROs.upd_in rs3 hc2 (Nat.zero_add jj) (.dK hc2 upd_same (putD_keys hm2 kk w (O.fz d)) (ROs.upd_at (ROs.put rd hm2 rs2) hc2)) hw))
                            rw [List.set_set] at S4
                            have st : Step F κ H1 F2 (put κ2 i (VL.sub κ i)) H2 := Step.put ((Step.unc (i := i)).trans s2) fun a p z => .inr (ht a p z).2.2.2
                            refine ⟨l2, _, rfl, ?_, k σ F2 _ _ S4 (((sw.trans s0).trans st).trans (.write hc2)) .refl⟩
                            rw [keyD_ok q5 r2]
                            exact .k hl2 (by rw [hl4]; exact lim_lt hlim)
                        · cases q4
            · cases q
          · cases q
        · cases q
    · cases q
end
end VL
set_option Elab.async false
set_option linter.all false
set_option maxRecDepth 100000
set_option maxHeartbeats 4000000
namespace VL
open PySem PySem.Spec PyProof.Rows L2
/-! ### t * n, t a tuple that isn't empty, n from nought on -/
theorem mul_one (l : Addr) (items : Array Value) (n : Nat) (dd : Option Addr) (sl : Array (Option Value)) (u : Tok) :
    Meets (Builtin.«tuple.__mul__» ⟨[.ref l, .int 1 u], []⟩) (fun _ R s => s.heap.get? l = some { cls := .type "tuple", dict := dd, data := .seq items n, slots := sl } ∧ R (.ok (.ret (Value.ref l))) s) :=
  .of_wp fun prog w A R s h => by
    obtain ⟨hp, g, d, tk, os⟩ := s
    obtain ⟨hl, h⟩ := h
    have f1 := AutoSeq1.idx_int
    wp_walk using wpAny_loadPart' hl
    exact ⟨_, rfl, h⟩
theorem mul_none (l : Addr) (items : Array Value) (n : Nat) (dd : Option Addr) (sl : Array (Option Value)) (u : Tok) (hne : items.isEmpty = false) :
    Meets (Builtin.«tuple.__mul__» ⟨[.ref l, .int 0 u], []⟩) (fun _ R s => s.heap.get? l = some { cls := .type "tuple", dict := dd, data := .seq items n, slots := sl } ∧
      R (.ok (.ret (Value.ref s.heap.objs.size))) { s with heap := s.heap.push { cls := Value.type "tuple", data := Data.seq #[] }, toks := s.toks }) :=
  .of_wp fun prog w A R s h => by
    obtain ⟨hp, g, d, tk, os⟩ := s
    obtain ⟨hl, h⟩ := h
    have f1 := AutoSeq1.idx_int
    wp_walk using wpAny_loadPart' hl
    exact ⟨_, rfl, h⟩
def rRep01 (K : PySem.W.Frag) : R2 := fun x y H Q => ∃ l k xs, x = .ref l ∧ y = .int k ∧ SqT K H l xs ∧ xs ≠ [] ∧ ((k = 1 ∧ Q (.ref l) H) ∨ (k = 0 ∧ ∀ p, H p = none → Q (.ref p) (upd H p (.tup []))))
theorem op_rep01 {X : Cx} : OpR X (binaryOp .Mult) (rRep01 X.K) := by
  intro pins s σ H x y v u Q I rx ry h
  obtain ⟨l, k, xs, rfl, rfl, hT, hne, q⟩ := h
  cases rx
  obtain ⟨t, rfl⟩ := ry
  obtain ⟨its, r, ⟨⟨cls, dd, data, sl⟩, ho, hc, n, hd⟩, hs⟩ := I.tuple hT
  simp only at hc hd
  subst hc hd
  have hle : its.length = xs.length := r.length.symm
  have hi : its.toArray.isEmpty = false := by
    cases its with
    | nil => exact absurd (List.eq_nil_of_length_eq_zero hle.symm) hne
    | cons a b => rfl
  rcases q with ⟨rfl, q⟩ | ⟨rfl, q⟩
  · refine wpAny_binaryOp_repeat_ref (T := "tuple") (U := "int") (by decide) ⟨_, ho, rfl⟩ (fun s' => typeIs_int s' 1 t) noFill_tuple_mul F.fills_int_mul F.slot_int_rmul repeat_tuple F.slot_int_index.lookup
      (call_meets F.slot_int_rmul (typeIs_int s 1 t) F.entry_int_rmul (F.args_int_rmul_2 _ _) (int_rmul_tuple 1 t l its.toArray n dd sl)
        ⟨ho, rfl, ⟨_, ho, rfl⟩, call_meets F.slot_tuple_mul ⟨_, ho, rfl⟩ F.entry_tuple_mul (F.args_tuple_mul_2 _ _) (mul_one l its.toArray n dd sl t) ⟨ho, ?_⟩⟩)
    exact ⟨.ref l, H, I, rfl, q⟩
  · refine wpAny_binaryOp_repeat_ref (T := "tuple") (U := "int") (by decide) ⟨_, ho, rfl⟩ (fun s' => typeIs_int s' 0 t) noFill_tuple_mul F.fills_int_mul F.slot_int_rmul repeat_tuple F.slot_int_index.lookup
      (call_meets F.slot_int_rmul (typeIs_int s 0 t) F.entry_int_rmul (F.args_int_rmul_2 _ _) (int_rmul_tuple 0 t l its.toArray n dd sl)
        ⟨ho, rfl, ⟨_, ho, rfl⟩, call_meets F.slot_tuple_mul ⟨_, ho, rfl⟩ F.entry_tuple_mul (F.args_tuple_mul_2 _ _) (mul_none l its.toArray n dd sl t hi) ⟨ho, ?_⟩⟩)
    refine ⟨.ref s.heap.objs.size, _, I.laid (t' := s.toks) (o := .tup []) (fun b ob q => Heap.get?_push_of_some _ q) (Nat.le_refl _) ?_, rfl, q _ (I.hok.fresh (Nat.le_refl _))⟩
    exact ⟨Nat.zero_le _, [], .nil, IsTup.new _ _⟩
section
variable {G : Gx} {X : Cx} {a b : Expr} {pos : Pos}
def gMulT : D → D → Option D
  | .tup xs, .int k => if xs ≠ [] ∧ 0 ≤ k ∧ k ≤ 1000 ∧ xs.length ≤ 1000 then some (.tup (List.replicate k.toNat xs).flatten) else none
  | _, _ => none
def rMulT (K : PySem.W.Frag) : R2 := fun x y H Q => rRep01 K x y H Q ∨ rRepT K x y H Q
theorem op_mulT : OpR X (binaryOp .Mult) (rMulT X.K) := op_rep01.or op_repT
theorem does_mulT : Does2 G (rMulT X.K) gMulT := by
  intro F κ σ H ρ x y a b c Q S rx ry e k
  unfold gMulT at e
  split at e
  · split at e
    · rename_i xs i h
      obtain ⟨h1, h2, h3, h4⟩ := h
      cases e
      have rx0 := rx
      cases rx with
      | tup s r =>
        cases ry
        have hne : ∀ vs : List V, RDs G F vs xs → vs ≠ [] := fun vs r e => h1 (by rw [e] at r; cases r; rfl)
        by_cases q1 : i = 1
        · subst q1
          refine .inl ⟨_, _, _, rfl, rfl, .of (S.tupF s), hne _ r, .inl ⟨rfl, ?_⟩⟩
          have e1 : (List.replicate (1 : Int).toNat xs).flatten = xs := by
            show (List.replicate 1 xs).flatten = xs
            simp
          rw [e1] at k
          exact k.here S rx0
        · by_cases q0 : i = 0
          · subst q0
            refine .inl ⟨_, _, _, rfl, rfl, .of (S.tupF s), hne _ r, .inr ⟨rfl, fun p hp => ?_⟩⟩
            exact k.newT S .nil hp
          · exact .inr ⟨_, _, _, rfl, rfl, .of (S.tupF s), hne _ r, by omega, h3, by rw [RDs.length r]; exact h4, fun p hp => k.newT S (RDs.rep r _) hp⟩
    · cases e
  · cases e
theorem x_mulT {f h : DF} (ha : VX G X a f) (hb : VX G X b h) : VX G X (.BinOp a .Mult b pos) (d2 gMulT f h) := vx_op op_mulT does_mulT ha hb
end
end VL
set_option Elab.async false
set_option linter.all false
set_option maxRecDepth 100000
set_option maxHeartbeats 4000000
namespace VL
open PySem PySem.Spec PyProof.Rows L2
section
variable {G : Gx} {X : Cx} {a b : Expr} {pos : Pos}
/-! ### x == e, x != e, x a name that keeps its own tree -/
end
end VL
set_option Elab.async false
set_option linter.all false
set_option maxRecDepth 100000
set_option maxHeartbeats 4000000
namespace VL
open PySem PySem.Spec PyProof.Rows L2
section
variable {G : Gx} {X : Cx} {P : List Nat} {a b e : Expr} {es : List Expr} {pos : Pos}
/-! ### e == x, e != x, x a name that keeps its own tree -/
/-! ### (a, b, ..) from a list -/
/-! ### [.. for .. in x], x a name that keeps its own list, put aside while it is walked -/
end
end VL
set_option Elab.async false
set_option linter.all false
set_option maxRecDepth 100000
set_option maxHeartbeats 4000000
namespace VL
open PySem PySem.Spec PyProof.Rows L2
section
variable {G : Gx} {X : Cx} {a e : Expr} {es : List Expr} {pos : Pos}
/-! ### tuple(x), known to its object -/
def gTupleZ : List D → Option D
  | [.lst xs] => some (.tz xs)
  | _ => none
def rTupZ (K : PySem.W.Frag) : List V → Hp → VK → Prop := fun xs H Q => ∃ p ys, xs = [.ref p] ∧ SqL K H p ys ∧ ∀ l (o : Obj), H l = none → o.cls = .type "tuple" → o.dict = none → Q (.ref l) (upd H l (.frz o (.tup ys)))
theorem cr_tupZ : CallR X (.type "tuple") (rTupZ X.K) := by
  intro pins s σ H xs us Q I r h
  obtain ⟨p, ys, rfl, hq, q⟩ := h
  obtain ⟨u, rfl, rx⟩ := vals1 r
  cases rx
  obtain ⟨its, r', pl, hz⟩ := I.list hq
  have hlen := r'.length
  refine call_tuple_list pl.isList (fun h' kp => ?_) (by simp only [List.size_toArray] <;> omega)
  have I1 : Inv X pins σ H { s with heap := h' } := I.kept (t' := s.toks) kp
  have I2 : Inv X pins σ (upd H h'.objs.size (.frz { cls := .type "tuple", data := .seq its.toArray } (.tup ys))) { s with heap := h'.push { cls := .type "tuple", data := .seq its.toArray } } :=
    I1.laid (t' := s.toks) (fun b o e => Heap.get?_push_of_some _ e) (Nat.le_refl _) (show ObjOk X.prog X.w _ _ _ (.frz _ (.tup ys)) from ⟨Heap.get?_push_size _ rfl, hz, its, r', IsTup.new _ _⟩)
  exact ⟨.ref h'.objs.size, _, I2, rfl, q _ _ (I1.hok.fresh (Nat.le_refl _)) rfl rfl⟩
theorem does_tupZ (hK : G.K = X.K) : DoesA G (rTupZ X.K) gTupleZ := by
  intro F κ σ H ρ xs as c Q S r e k
  unfold gTupleZ at e
  split at e
  · cases e
    obtain ⟨v, rfl, r1⟩ := RDs.one r
    cases r1 with
    | lst s rs => exact ⟨_, _, rfl, .of (S.lstF s), fun l o hl hc hd => k _ _ _ _ (S.fresh hl) (.fresh S hl) (.tz upd_same hc hd (RDs.mono (Ex.new (S.free hl).1) rs))⟩
  · cases e
theorem x_tupleZ {ag : LF} {p : Pos} (R : Rdy G X) (ha : VA G X (e :: es) ag) (hg : Gl X "tuple" := by rfl) (he : starEach (e :: es) X.env = (false, eval e X.env) :: starEach es X.env := by rfl) (hpl : (backTo pos (starEach es X.env)).any (·.1) = false := by rfl) : VX G X (.Call (.Name "tuple" p) (e :: es) [] pos) (dA gTupleZ ag) := vx_ct cr_tupZ (does_tupZ R.hK) hg R.bl.tuple PyProof.Rows.boot_tuple ha (by decide) (by decide) he hpl
/-! ### t.index(k), t such a tuple of ints -/
def rIndexZ : V → List V → Hp → VK → Prop := fun x xs H Q => ∃ (p : Addr) (o : Obj) (ns : List Int) (k : Int), x = V.ref p ∧ xs = [.int k] ∧ H p = some (.frz o (.tup (ns.map V.int))) ∧ k ∈ ns ∧ Q (.int (ns.idxOf k : Nat)) H
theorem mt_indexZ : MtR X "tuple.index" rIndexZ := by
  intro pins s σ H x xs v us Q I rx rxs h
  obtain ⟨p, o, ns, k, rfl, rfl, hs, hk, q⟩ := h
  cases rx
  obtain ⟨u, rfl, ru⟩ := rxs.one
  obtain ⟨t, rfl⟩ := ru
  obtain ⟨its, rv, tp, _⟩ := I.tuple (.inl (.inr ⟨_, hs⟩))
  exact PySem.SeqAt.tuple_index_ints tp rv.ints hk ⟨.int _, H, I.tok _, ⟨_, rfl⟩, q⟩
def tZ (r : V → List V → Hp → VK → Prop) (to : TE) (t : TA) : TE := fun σ H Q => to σ H fun x H1 => (∃ p o xs, x = V.ref p ∧ H1 p = some (.frz o (.tup xs)) ∧ o.cls = .type "tuple" ∧ o.dict = none) ∧ t σ H1 fun vs H2 => r x vs H2 Q
theorem pe_bmZ {name : Str} {id : String} {r : V → List V → Hp → VK → Prop} {to : TE} {t : TA} {apos : Pos} (slot : Slot "tuple" name id) (hty : typeOf (.builtin id) = pure (.type "method_descriptor")) (hm : MtR X id r) (ho : PE X a to) (ha : PA X (e :: es) t)
    (hbase : attributeBase a name X.env (eval a X.env) = eval a X.env := by rfl)
    (hfew : ((backTo pos (starEach (e :: es) X.env)).all (fun x => !x.1) && (backToKw pos (keywordEach [] X.env)).all (fun x => x.1.isSome)
      && decide ((e :: es).length + ([] : List Keyword).length + (if ([] : List Keyword).isEmpty then 0 else 1) < 30)) = true := by rfl)
    (hline : (apos.endLine == pos.line) = true := by rfl) (hs : starEach (e :: es) X.env = (false, eval e X.env) :: starEach es X.env := by rfl) (hplain : (backTo pos (starEach es X.env)).any (·.1) = false := by rfl) :
    PE X (.Call (.Attribute a name apos) (e :: es) [] pos) (tZ r to t) := by
  refine ⟨fun pins s σ H Q I h => ?_⟩
  refine wpAny_Call_method_late hbase hfew hline rfl (thn (ho.run pins s σ H _ I h) fun v s1 ⟨x, H1, I1, r1, ty, q1⟩ => ?_)
  obtain ⟨p, o, xs, rfl, hp, hc, hd⟩ := ty
  have hv : v = Value.ref p := r1
  subst hv
  have hg : s1.heap.get? p = some o := (I1.hok p _ hp).1
  refine ⟨"tuple", id, PySem.F.plainAttrs_tuple, slot, hty, ⟨o, hg, hc⟩, fun b eb => ?_, ?_⟩
  · cases eb; exact ⟨o, hg, hd⟩
  have hA := ha.run pos pins s1 σ H1 _ I1 q1
  rw [hs] at hA ⊢
  refine Calls.callWith_builtin (by show (false || (backTo pos (starEach es X.env)).any (·.1)) = false; rw [hplain] <;> rfl) (Calls.evalArgs_plain ?_)
  exact thn hA fun us s2 ⟨vs, H2, I2, r2, q2⟩ => hm pins s2 σ H2 _ vs _ us Q I2 (show RelV (.ref p) (.ref p) from rfl) r2 q2
def dIndexZ (f : DF) (g : LF) : DF := fun ρ => (f ρ).bind fun p => match p.1 with
  | .tz xs => (g p.2).bind fun q => match q.1 with
    | [.int k] => (intsD xs).bind fun ns => if k ∈ ns then some (.int (ns.idxOf k : Nat), q.2) else none
    | _ => none
  | _ => none
theorem x_indexZ {f : DF} {g : LF} {apos : Pos} (ha : VX G X a f) (hb : VA G X (e :: es) g) (hbase : attributeBase a "index" X.env (eval a X.env) = eval a X.env := by rfl)
    (hfew : ((backTo pos (starEach (e :: es) X.env)).all (fun x => !x.1) && (backToKw pos (keywordEach [] X.env)).all (fun x => x.1.isSome) && decide ((e :: es).length + ([] : List Keyword).length + (if ([] : List Keyword).isEmpty then 0 else 1) < 30)) = true := by rfl)
    (hline : (apos.endLine == pos.line) = true := by rfl) (hs : starEach (e :: es) X.env = (false, eval e X.env) :: starEach es X.env := by rfl) (hplain : (backTo pos (starEach es X.env)).any (·.1) = false := by rfl) :
    VX G X (.Call (.Attribute a "index" apos) (e :: es) [] pos) (dIndexZ f g) := peImp (pe_bmZ PySem.F.slot_tuple_index PySem.F.type_tuple_index mt_indexZ ha hb hbase hfew hline hs hplain) fun σ H Q ⟨F, κ, ρ, d, ρ', S, q, k⟩ => by
  unfold dIndexZ at q
  cases q1 : f ρ with
  | none => rw [q1] at q; cases q
  | some p =>
    obtain ⟨x, ρ1⟩ := p
    rw [q1] at q
    simp only [Option.bind_some] at q
    split at q
    · rename_i xs
      cases q2 : g ρ1 with
      | none => rw [q2] at q; cases q
      | some p =>
        obtain ⟨ys, ρ2⟩ := p
        rw [q2] at q
        simp only [Option.bind_some] at q
        split at q
        · rename_i y
          cases q3 : intsD xs with
          | none => rw [q3] at q; cases q
          | some ns =>
            rw [q3] at q
            simp only [Option.bind_some] at q
            split at q
            · rename_i hy
              cases q
              obtain rfl := intsD_ok q3
              refine ⟨F, κ, ρ, _, ρ1, S, q1, fun v F1 κ1 H1 S1 s1 r1 => ?_⟩
              cases r1 with
              | tz s hc hd r =>
                obtain rfl := rds_ints r
                refine ⟨⟨_, _, _, rfl, S1.tzF s, hc, hd⟩, F1, κ1, ρ1, _, _, S1, q2, fun ws F2 κ2 H2 S2 s2 r2 => ?_⟩
                obtain ⟨w, rfl, rw'⟩ := RDs.one r2
                cases rw'
                exact ⟨_, _, ns, y, rfl, rfl, S2.tzF (s2.ext _ _ s), hy, k _ F2 κ2 H2 S2 (s1.trans s2) (.int _)⟩
            · cases q
        · cases q
    · cases q
theorem x_pop {ag : LF} {i : Nat} {apos : Pos} (ha : PE X a (tVar i)) (hb : VA G X (e :: es) ag) (hbase : attributeBase a "pop" X.env (eval a X.env) = eval a X.env := by rfl)
    (hfew : ((backTo pos (starEach (e :: es) X.env)).all (fun x => !x.1) && (backToKw pos (keywordEach [] X.env)).all (fun x => x.1.isSome) && decide ((e :: es).length + ([] : List Keyword).length + (if ([] : List Keyword).isEmpty then 0 else 1) < 30)) = true := by rfl)
    (hline : (apos.endLine == pos.line) = true := by rfl) (hs : starEach (e :: es) X.env = (false, eval e X.env) :: starEach es X.env := by rfl) (hplain : (backTo pos (starEach es X.env)).any (·.1) = false := by rfl) :
    VX G X (.Call (.Attribute a "pop" apos) (e :: es) [] pos) (dMet i mPopAt ag) := vx_met does_popAt PySem.F.slot_list_pop PySem.F.type_list_pop mt_popAt ha hb hbase hfew hline hs hplain
end
end VL
set_option Elab.async false
set_option linter.all false
set_option maxRecDepth 100000
set_option maxHeartbeats 4000000
/-! ### sorted, tuples of ints of any lengths -/
namespace VL
section
open PySem PySem.W PySem.Calls PyProof.Rows Builtin
/-- v is a tuple that holds these ints -/
def IsTI (h : Heap) (v : Value) (ns : List Int) : Prop := ∃ a its, v = .ref a ∧ IsTup h a its ∧ IntsAre its.toList ns
theorem IsTI.keeps {h h' : Heap} {v : Value} {ns : List Int} (x : IsTI h v ns) (k : ∀ b o, h.get? b = some o → o.cls = .type "tuple" → h'.get? b = some o) : IsTI h' v ns := by
  obtain ⟨a, its, e, ⟨o, g, c, d⟩, i⟩ := x
  exact ⟨a, its, e, ⟨o, k _ _ g c, c, d⟩, i⟩
section
variable {prog : Program} {w : World} {A : Around} {E : Value → Shared → Prop} {s : Shared}
/-! what kind the sort finds -/
end
end
end VL
namespace VL
section
open PySem PySem.Spec PyProof.Rows L2
variable {G : Gx} {X : Cx} {e : Expr} {es : List Expr} {pos : Pos}
open Classical in
/-! the sorted rows -/
/-! the rule -/
end
end VL
/-! ### t.index(y), t known to tv object, any data -/
namespace VL
section
open PySem PySem.Spec PyProof.Rows L2
variable {G : Gx} {X : Cx} {a e : Expr} {es : List Expr} {pos : Pos}
end
end VL
set_option Elab.async false
set_option linter.all false
set_option maxRecDepth 100000
set_option maxHeartbeats 4000000
namespace VL
open PySem PySem.Spec PyProof.Rows L2 PySem.W

/-! ### sorted(l, key=f), f a function that this frame has made -/
section
variable {X : Cx} {pins : List (Addr × Obj)} {σ : L2.St} {H : Hp} {s : Shared}
end
end VL
set_option Elab.async false
set_option linter.all false
set_option maxRecDepth 100000
set_option maxHeartbeats 4000000
namespace VL
open PySem PySem.Spec PyProof.Rows L2 PySem.W

section
variable {X : Cx} {pins : List (Addr × Obj)} {σ : L2.St} {H : Hp} {s : Shared}
/-- the lambda is made, with all that is then tracked; clo: what it has captured -/
theorem lam_madeC {c P : Addr} {params : Arguments} {body : Expr} {scope : Scope} {pos : Pos} {ps : Array Value} {clo : List (Str × Addr)} {E : Value → Shared → Prop} {Q : Value → Shared → Prop} (I : Inv X pins σ H s) (TB : LamX.TabB X.base X.mg c P) (hcode : X.env.code = .ref c)
    (hP : H P = some (.tbl ps)) (ht : TriplesOk ps.toList) (ha : ∀ (q : Pos) (cv : Value), codeAmong q ps.toList = some cv → ∃ c', cv = .ref c' ∧ H c' = some (LamX.CodeO c' (X.env.qual ++ "<lambda>")))
    (hdef : defaultsOf params X.env = ([], [])) (hcl : closureFor scope X.env = pure clo)
    (h : ∀ (f c' : Addr) (pm ctv : Value) (H1 : Hp) (s' : Shared), Inv X pins σ H1 s' →
      ((H1 = H ∧ codeAmong pos ps.toList = some (.ref c')) ∨ (H c' = none ∧ H1 = upd (upd H P (.tbl (ps ++ #[rawInt pos.line, rawInt pos.col, .ref c']))) c' (LamX.CodeO c' (X.env.qual ++ "<lambda>")))) →
      s'.heap.get? f = some (PySem.W.kla_obj "<lambda>" (X.env.qual ++ "<lambda>") params body scope clo pm c' ctv) → H1 f = none → H f = none → f ∉ frs X.stack → Q (.ref f) s') :
    wpAny (model X.prog X.w) X.A (eval (.Lambda params body scope pos) X.env) Q E s := by
  have hP' : s.heap.get? P = some { cls := .none, data := .fields ps } := I.hok P _ hP
  have apart : ∀ b, s.heap.objs.size ≤ b → b ∉ frs X.stack := fun b hb z => by
    rcases List.mem_cons.mp (I.stkSub _ z) with e | e
    · have h1 := I.lt
      rw [← e] at h1
      exact Nat.lt_irrefl _ (Nat.lt_of_lt_of_le h1 hb)
    · exact I.nofs hb e
  refine PySem.W.kla_eval hdef ?_
  cases hc : codeAmong pos ps.toList with
  | some cv =>
    obtain ⟨c', rfl, hco⟩ := ha pos cv hc
    refine PySem.W.kla_makeFunctionHit (mg := X.mg) (c := c) (P := P) (ps := ps) hcl I.ok.glob (I.mod.glob.keeps I.bk) hcode (TB.code.keeps I.bk) hP' ht hc (TB.bm.keeps I.bk) fun ctv h' tk hx hsz => ?_
    exact h _ c' _ ctv H _ (I.kept fun b o e => Heap.get?_push_of_some _ (hx b o e)) (.inl ⟨rfl, hc⟩) (Heap.get?_push_size _ rfl) (I.hok.fresh hsz) (I.hok.fresh hsz) (apart _ hsz)
  | none =>
    refine PySem.W.kla_makeFunction (mg := X.mg) (c := c) (P := P) (ps := ps) hcl I.ok.glob (I.mod.glob.keeps I.bk) hcode (TB.code.keeps I.bk) hP' ht hc TB.gP (TB.bm.keeps I.bk) fun c' ctv h' tk hx hge hlt hrec htb => ?_
    obtain ⟨c2, oc, vs, t, e2, hoc, hd, hv⟩ := hrec
    cases e2
    have hsz : s.heap.objs.size ≤ h'.objs.size := Nat.le_trans hge (Nat.le_of_lt hlt)
    have J := LamX.inv_table (t' := tk) (h' := h'.push (PySem.W.kla_obj "<lambda>" (X.env.qual ++ "<lambda>") params body scope clo ((X.mg "__name__").getD .none) c' ctv)) I hP
      (fun b o hb e => Heap.get?_push_of_some _ (hx b o hb e)) (Heap.get?_push_of_some _ htb) hge ⟨oc, vs, t, Heap.get?_push_of_some _ hoc, hd, hv⟩
    refine h h'.objs.size c' _ ctv _ _ J (.inr ⟨I.hok.fresh hge, rfl⟩) (Heap.get?_push_size _ rfl) ?_ (I.hok.fresh hsz) (apart _ hsz)
    rw [upd_ne (Nat.ne_of_gt hlt), upd_ne (Nat.ne_of_gt (Nat.lt_of_lt_of_le (Heap.lt_size hP') hsz))]
    exact I.hok.fresh hsz
end
end VL
set_option Elab.async false
set_option linter.all false
set_option maxRecDepth 100000
set_option maxHeartbeats 4000000
namespace VL
open PySem PySem.Spec PyProof.Rows L2 PySem.W

section
variable {X : Cx} {pins : List (Addr × Obj)} {σ : L2.St} {H : Hp} {s : Shared}
end

section
variable {G : Gx} {F : Hp} {κ : Col} {σ : L2.St} {H : Hp} {ρ : Env'} {P : Addr} {q : Str}
theorem SS.table (S : SS G F κ σ H ρ) (hm : (P, q) ∈ G.tb) {Pr : Program} {w : World} {h : Heap} (hok : HOk Pr w H h) : TabF G F H P () := by
  rcases S.sub P _ (S.tab _ hm) with (z | ⟨ob, z, y⟩) | ⟨_, _, t⟩
  · obtain ⟨o, es, ep, t, h1, h2, h3, h4, h5, h6, h7, h8⟩ := hok P _ z
    exfalso
    obtain ⟨e, he, _⟩ := (h5 0).mp rfl
    have hl : es.toList.length = 0 := by simpa using h8
    rw [List.length_eq_zero_iff.mp hl] at he
    cases he
  · rcases y with ⟨_, y⟩ | ⟨_, y⟩ <;> cases y
  · exact t
theorem SS.code (S : SS G F κ σ H ρ) {c : Addr} (h : F c = some (LamX.CodeO c q)) : H c = some (LamX.CodeO c q) := by
  rcases S.sub.at h (by intro q h; unfold LamX.CodeO at h; cases h) with z | ⟨_, _, z⟩
  · exact z
  · unfold LamX.CodeO at z
    rcases z with ⟨_, z⟩ | ⟨_, z⟩ <;> cases z
/-- a lambda's code object is laid, told in the table -/
theorem SS.lam (S : SS G F κ σ H ρ) {ps : Array Value} {c' : Addr} {l : Nat} {j : Nat} (hm : (P, q) ∈ G.tb) (hq : ∀ q', (P, q') ∈ G.tb → q' = q) (hP : H P = some (.tbl ps)) (ht : TriplesOk ps.toList)
    (ha : ∀ (pos : Pos) (cv : Value), codeAmong pos ps.toList = some cv → ∃ c, cv = .ref c ∧ ∀ q, (P, q) ∈ G.tb → F c = some (LamX.CodeO c q)) (hc : H c' = none) :
    SS G (upd F c' (LamX.CodeO c' q)) κ σ (upd (upd H P (.tbl (ps ++ #[rawInt l, rawInt j, .ref c']))) c' (LamX.CodeO c' q)) ρ ∧
      Step F κ H (upd F c' (LamX.CodeO c' q)) κ (upd (upd H P (.tbl (ps ++ #[rawInt l, rawInt j, .ref c']))) c' (LamX.CodeO c' q)) := by
  obtain ⟨hF, hκ⟩ := S.free hc
  have eF := S.tab _ hm
  have ex : Ex F (upd F c' (LamX.CodeO c' q)) := Ex.new hF
  have nP : ∀ b o, b ≠ P → H b = some o → upd (upd H P (.tbl (ps ++ #[rawInt l, rawInt j, .ref c']))) c' (LamX.CodeO c' q) b = some o := fun b o hb e => by
    rw [upd_ne (ne_of_none e hc), upd_ne hb]; exact e
  have atP : upd (upd H P (.tbl (ps ++ #[rawInt l, rawInt j, .ref c']))) c' (LamX.CodeO c' q) P = some (.tbl (ps ++ #[rawInt l, rawInt j, .ref c'])) := by
    rw [upd_ne (ne_of_none hP hc), upd_same]
  have moP : ∀ b, Mo H b → b ≠ P := fun b m z => by
    obtain ⟨o, e, _, n⟩ := m.get
    rw [z, hP] at e
    cases e
    exact n ps rfl
  refine ⟨⟨fun b u e => ?_, fun b p e => ?_, S.len, fun i o e => ?_, fun p hp => ex _ _ (S.tab p hp)⟩, ⟨ex, fun b o e hk => ⟨?_, fun n => ?_⟩, fun b o e hk _ n => ?_, fun b p e => .inr (by rw [e]; simp)⟩⟩
  · by_cases hb : b = c'
    · rw [hb, upd_same] at e
      cases e
      rw [hb]
      exact .inl (.inl upd_same)
    · rw [upd_ne hb] at e
      by_cases hb2 : b = P
      · rw [hb2, eF] at e
        cases e
        refine .inr ⟨(), rfl, _, by rw [hb2]; exact atP, ?_, fun pos cv h => ?_⟩
        · have eL : (ps ++ #[rawInt l, rawInt j, .ref c']).toList = ps.toList ++ [rawInt l, rawInt j, .ref c'] := by simp
          rw [eL]
          exact PySem.TriplesOk_snoc _ _ _ _ ht
        · have eL : (ps ++ #[rawInt l, rawInt j, .ref c']).toList = ps.toList ++ [rawInt l, rawInt j, .ref c'] := by simp
          rw [eL] at h
          rcases LamX.among_app (pos := ⟨l, j, 0, 0⟩) _ ht h with z | z
          · obtain ⟨c, e1, e2⟩ := ha pos cv z
            exact ⟨c, e1, fun q' hq' => ex _ _ (e2 q' (by rw [← hb2]; exact hq'))⟩
          · refine ⟨c', z, fun q' hq' => ?_⟩
            rw [hb2] at hq'
            rw [hq q' hq', upd_same]
      · rcases S.sub b u e with (z | ⟨ob, z, y⟩) | ⟨q0, z, t⟩
        · exact .inl (.inl (nP b _ hb2 z))
        · exact .inl (.inr ⟨ob, nP b _ hb2 z, y⟩)
        · exact .inr ⟨q0, z, t.mono (fun ps e => nP b _ hb2 e) fun c _ e => ex _ _ e⟩
  · obtain ⟨h1, h2⟩ := S.own b p e
    have hb : b ≠ c' := fun z => by rw [z, hκ] at e; cases e
    exact ⟨by rw [upd_ne hb]; exact h1, h2.eq (by rw [upd_ne hb, upd_ne (moP b h2)])⟩
  · obtain ⟨v, hv, r⟩ := S.slots i o e
    exact ⟨v, hv, r.keep ex (fun _ _ _ z => z) fun b p u _ z h => nP b u (moP b (S.own b p z).2) h⟩
  · by_cases hb : b = P
    · rw [hb, atP]; simp
    · rw [nP b o hb e]; simp
  · refine nP b o (fun z => ?_) e
    rw [z, hP] at e
    cases e
    exact n ps rfl
  · rw [upd_ne (ne_of_none e hc)]
/-- through a call that owns nothing -/
theorem SS.through {F' : Hp} {κ' : Col} {H' : Hp} (S : SS G F κ σ H ρ) (hsub : Sub G F' H') (st : Step F (fun _ => none) H F' κ' H') : SS G F' κ σ H' ρ ∧ Step F κ H F' κ H' := by
  have keep : ∀ a o, H a = some o → (∀ ps, o ≠ tE ps) → H' a = some o := fun a o h n => st.frm h rfl n
  refine ⟨⟨hsub, fun a p z => ?_, S.len, fun i o z => ?_, fun q hq => st.ext _ _ (S.tab q hq)⟩, ⟨st.ext, fun a o h _ => st.frame a o h rfl, fun a o h _ hn hn2 => st.nofz a o h rfl hn hn2, fun a p z => .inr (by rw [z]; simp)⟩⟩
  · obtain ⟨h1, h2⟩ := S.own a p z
    obtain ⟨o, q, hn, hn2⟩ := h2.get
    exact ⟨by rw [st.nofz a o q rfl hn hn2, h1], .at (keep a o q hn2) hn hn2⟩
  · obtain ⟨u, hu, ru⟩ := S.slots i o z
    exact ⟨u, hu, ru.keep st.ext (fun _ _ _ z => z) fun b q x _ c z => keep b x z fun ps e => (S.own b q c).2.2.2 ps (by rw [z, e])⟩
theorem GivesN.later {F' : Hp} {κ' : Col} {H' : Hp} {o : O} {Q : VK} (k : GivesN G F κ σ H ρ o Q) (st : Step F κ H F' κ' H') : GivesN G F' κ' σ H' ρ o Q :=
  fun v F2 κ2 H2 κt S st2 r ht => k v F2 κ2 H2 κt S (st.trans st2) r fun a p z => ⟨tn_step st (ht a p z).1, (ht a p z).2⟩
end
end VL
set_option Elab.async false
set_option linter.all false
set_option maxRecDepth 100000
set_option maxHeartbeats 4000000
namespace VL
open PySem PySem.Spec PyProof.Rows L2 PySem.W

/-! ### sorted(xs, key=lambda x: ..), keys pairs of ints -/
section
variable {G : Gx} {F : Hp} {H : Hp}
end
end VL
set_option Elab.async false
set_option linter.all false
set_option maxRecDepth 100000
set_option maxHeartbeats 4000000
namespace VL
open PySem PySem.Spec PyProof.Rows L2 PySem.W

section
variable {G : Gx} {X : Cx}
end
end VL
set_option Elab.async false
set_option linter.all false
set_option maxRecDepth 100000
set_option maxHeartbeats 4000000
namespace VL
open PySem PySem.Spec PyProof.Rows L2 PySem.W

/-! ### a def that makes a lambda: its code object and that one's table -/
abbrev lamName (qual : Str) : Str := (qual ++ ".<locals>.") ++ "<lambda>"
structure LamAt (G : Gx) (mg : Str → Option Value) (base : Heap) (x qual : Str) (st : Stmt) (fa : Addr) (fd : FuncData) where
  c : Addr
  P : Addr
  ex : ∃ (oc : Value) (od : Option Addr) (kV doc pm : Value) (an : Option Addr) (ct : Value) (osl : Array (Option Value)),
    fd = PySem.W.fnOf x qual (defArgs st) (defBody st) (defScope st) .none kV doc pm an (.ref c) ct ∧ G.K.lookup fa = some ⟨oc, od, .func fd, osl⟩ ∧ PySem.W.codeIn G.K (.ref c) qual = true
  tb : LamX.TabB base mg c P
  hm : (P, lamName qual) ∈ G.tb
  hq : ∀ q', (P, q') ∈ G.tb → q' = lamName qual
theorem fn_okL {Pr : Program} {w : World} {mg : Str → Option Value} {base : Heap} {G : Gx} {x qual : Str} {st : Stmt} {f : Addr} {fd : FuncData} {N ps : List Str} {k : Nat} {pn : List Nat} {g : SF} (L : LamAt G mg base x qual st f fd) (S : FnScope N ps (defScope st))
    (hb : ∀ (A : Around) (outer : List Env) (s : Shared) (H : Hp) (E : XK), Room k (A.deeper (envOfC qual (defScope st) s.heap.objs.size f (.ref L.c))) → VB G pn (cxOf CX0 Pr w G.K mg base N qual (defScope st) f (.ref L.c) A outer s H E).nox (defBody st) g) :
    FnOk Pr w G.K mg base CX0 (k + 1) f fd ps (spF G ps.length pn (fnF N.length ps.length pn g)) := by
  obtain ⟨oc, od, kV, doc, pm, an, ct, osl, e, lk, hcd⟩ := L.ex
  rw [e] at lk ⊢
  exact fn_of lk hcd S spF_len fun A outer s H vs Q E hr h => ⟨_, (hb A outer s H E hr).nox, fn_core h⟩
/-- the table of the code object at cd is not written -/
def tabFree (K : PySem.W.Frag) (cd : Value) : Bool := match cd with
  | .ref c => (match K.lookup c with
    | some o => (match o.data with
      | .fields vs => (match vs[11]? with
        | some (Value.ref P) => (K.lookup P).isNone
        | _ => false)
      | _ => false)
    | none => false)
  | _ => false
def TabAll (q : Program) (mg : Str → Option Value) (h : Heap) : Prop := ∀ d ∈ recsOf q, ∃ a o fd c P, mg d.name = some (.ref a) ∧ h.get? a = some o ∧ o.data = .func fd ∧ fd.code = .ref c ∧ h.IsCode c P #[] ∧ h.TableAt c P #[]
/-- what the start tells of a def's table -/
theorem tab_of {q : Program} {mg : Str → Option Value} {h : Heap} {K : PySem.W.Frag} {x : Str} {a : Addr} {oc : Value} {od : Option Addr} {fd : FuncData} {osl : Array (Option Value)} (T : TabAll q mg h) (X : K.In h)
    (hr : ((recsOf q).any fun e => e.name == x) = true) (hm : mg x = some (.ref a)) (lk : K.lookup a = some ⟨oc, od, .func fd, osl⟩) (hc : ∃ qn, PySem.W.codeIn K fd.code qn = true) (ht : tabFree K fd.code = true) :
    ∃ c P, fd.code = .ref c ∧ h.get? P = some { cls := .none, data := .fields #[] } ∧ K.lookup P = none ∧ PySem.W.CodeHd h c P := by
  obtain ⟨d, hd, e⟩ := List.any_eq_true.mp hr
  have e' : d.name = x := beq_iff_eq.mp e
  obtain ⟨a', o, fd', c, P, h1, h2, h3, h4, h5, h6⟩ := T d hd
  rw [e', hm] at h1
  cases h1
  have g := X _ _ lk
  rw [g] at h2
  cases h2
  cases h3
  have hd' := PySem.W.CodeHd.of h5 h6
  obtain ⟨⟨o, vs, e1, e2, e3, e4⟩, hP⟩ := h6
  refine ⟨c, P, h4, hP, ?_, hd'⟩
  rw [h4] at ht
  unfold tabFree at ht
  dsimp only at ht
  cases q1 : K.lookup c with
  | none => rw [q1] at ht; cases ht
  | some o1 =>
    rw [q1] at ht
    have g2 := X _ _ q1
    rw [g2] at e1
    cases e1
    dsimp only at ht
    rw [e3] at ht
    dsimp only at ht
    rw [e4] at ht
    exact Option.isNone_iff_eq_none.mp ht
theorem walk_tab {l : PySem.W.OpenLaw} {n k : Nat} {q : Program} {loose : List Str} {XP : (Str → Option Value) → Heap → Prop} {YP : World → Heap → Prop} {d : DefRec} {K : Params → PySem.W.Frag} {x : Str}
    (hn : l.most = some n) (hn2 : n ≤ sizeLine) (hdf : d.params.defaults = []) (hr : Room k callerA) (hY : ∀ (w : World) (h : Heap), YP w h → (K w.params).In h)
    (F : ∀ (w : World) (mg : Str → Option Value) (fa : Addr) (h : Heap), (K w.params).In h → h.Ns mainGlobals mg → mg d.name = some (.ref fa) → TabAll q mg h → LamX.LawAtS l w (K w.params) CX0 k n x mg fa h) :
    PySem.W.WalkO q loose XP YP l.row.toRowW d [] (fun f vs => PySem.call f vs) := by
  refine Att.attach_callB hn hdf fun w s₀ s₁ mg mb fa o pm cd doc a vs ns G Y ho hd hcd hmg hobj hints hlen hbits hg => ?_
  have KX := hY w _ Y
  obtain ⟨fd, cs, sp, hT, nT, C, hb, hsp, hF⟩ := F w mg fa _ KX G.T.g hmg G.T.tab
  exact LamX.law_callTs KX G.T.g G.T.b G.T.builtins G.T.nolimit hg hT nT C G.T.bmain hobj hints (Nat.le_trans hlen hn2) hr hF hb (fun H hH hS => hsp H a ns hlen hbits hH hS) fun H e s' z => z
/-- the law's own start, with tables -/
def spLawT (K : PySem.W.Frag) (cs : List (Addr × Addr)) : Sp := fun vs H Q _ => ∃ (a : Addr) (ns : List Int), vs = [.ref a] ∧ SqL K H a (ns.map V.int) ∧ ns.length ≤ 63 ∧ (∀ p ∈ cs, H p.2 = some (.tbl #[])) ∧ ∀ H', Q (.bl true) H'
theorem spLawT_ok {G : Gx} {f : FF} {cs : List (Addr × Addr)} (ht : ∀ p ∈ G.tb, ∃ p' ∈ cs, p'.2 = p.1) (hf : ∀ ns : List Int, ∃ os, f [.fz (.scr (ns.map .int))] = some (.fz (.bl true), os)) : ∀ vs H Q E, spLawT G.K cs vs H Q E → spF G 1 [] f vs H Q E := by
  rintro vs H Q E ⟨a, ns, rfl, hS, hl, hT, k⟩
  obtain ⟨os', e⟩ := hf ns
  have isT : ∀ b, b ∈ G.tb.map (·.1) → H b = some (.tbl #[]) := fun b hb => by
    obtain ⟨p, hp, e⟩ := List.mem_map.mp hb
    obtain ⟨p', hp', e'⟩ := ht p hp
    rw [← e, ← e']
    exact hT p' hp'
  have noT : ∀ b o, H b = some o → o ≠ .tbl #[] → (if b ∈ G.tb.map (·.1) then some (tabMark ()) else H b) = some o := fun b o h n => by
    rw [if_neg fun z => n (Option.some.inj (h.symm.trans (isT b z)))]
    exact h
  have hS' : SqL G.K (fun b => if b ∈ G.tb.map (·.1) then some (tabMark ()) else H b) a (ns.map V.int) := by
    rcases hS with (h | ⟨o, h⟩) | h
    · exact .inl (.inl (noT _ _ h (by intro z; cases z)))
    · exact .inl (.inr ⟨o, noT _ _ h (by intro z; cases z)⟩)
    · exact .inr h
  refine ⟨fun b => if b ∈ G.tb.map (·.1) then some (tabMark ()) else H b, fun _ => none, [.fz (.scr (ns.map .int))], _, os', ⟨fun b o h => ?_, (fun _ _ z => nomatch z), rfl, (fun i o h => ?_), fun p hp => if_pos (List.mem_map.mpr ⟨p, hp, rfl⟩)⟩, rfl, e, fun v F' κ' H' κt _ _ _ _ ro _ => ?_⟩
  · by_cases hb : b ∈ G.tb.map (·.1)
    · have h' := (if_pos hb).symm.trans h
      cases h'
      refine .inr ⟨(), rfl, #[], isT b hb, True.intro, fun pos cv z => ?_⟩
      have z' : codeAmong pos [] = some cv := z
      simp [codeAmong] at z'
    · exact .inl (.inl ((if_neg hb).symm.trans h))
  · cases i with
    | zero =>
      simp at h
      subst h
      exact ⟨_, rfl, .fz (.scr hS' (ints_rds ns))⟩
    | succ i => simp at h
  · cases ro with
    | fz r =>
      rw [r.bl_inv]
      exact k H'
end VL
set_option Elab.async false
set_option linter.all false
set_option maxRecDepth 100000
set_option maxHeartbeats 4000000
namespace VL
open PySem L2
section
variable {G : Gx} {X : Cx} {a b : Expr} {pos : Pos}
end
end VL
set_option Elab.async false
set_option linter.all false
set_option maxRecDepth 100000
set_option maxHeartbeats 4000000
/-! ### sorted, any data that are tuples with a thing at least -/
namespace VL
section
open PySem PySem.Spec PyProof.Rows L2
variable {G : Gx} {X : Cx} {e : Expr} {es : List Expr} {pos : Pos}
end
end VL
set_option Elab.async false
set_option linter.all false
set_option maxRecDepth 100000
set_option maxHeartbeats 4000000
/-! ### xs[::-1]; a loop over reversed(xs) -/
namespace VL
section
open PySem L2
variable {G : Gx} {X : Cx} {a e : Expr} {es : List Expr} {pos : Pos}
end
end VL
set_option Elab.async false
set_option linter.all false
set_option maxRecDepth 100000
set_option maxHeartbeats 4000000
/-! ### zip of three -/
namespace VZ
section
open PySem PySem.Spec PyProof.Rows L2
end
end VZ
namespace VL
section
open PySem PySem.Spec PyProof.Rows L2 VZ
variable {G : Gx} {X : Cx} {a b c : Expr} {pos : Pos}
end
end VL
set_option Elab.async false
set_option linter.all false
set_option maxRecDepth 100000
set_option maxHeartbeats 4000000
/-! ### d.items(), the keys tuples -/
namespace VZ
section
open PySem PySem.Spec PyProof.Rows L2
end
end VZ
set_option Elab.async false
set_option linter.all false
set_option maxRecDepth 100000
set_option maxHeartbeats 4000000
/-! ### a comprehension over a dict's pairs: the dict is locked meanwhile -/
namespace VL
section
open PySem PySem.Spec PyProof.Rows L2 VZ
variable {G : Gx} {X : Cx} {pos : Pos} {c e : Expr} {P : List Nat}
/-! ### d.items() within it -/
end
end VL
set_option Elab.async false
set_option linter.all false
set_option maxRecDepth 100000
set_option maxHeartbeats 4000000
/-! ### d.update(d2), the keys tuples -/
namespace VL
section
open PySem PySem.Spec PyProof.Rows L2 VZ
variable {G : Gx} {X : Cx} {pos : Pos} {a e : Expr} {es : List Expr} {P : List Nat}
def putL {κ : Type} [DecidableEq κ] (kvs more : List (κ × V)) : List (κ × V) := more.foldl (fun z p => putK z p.1 p.2) kvs
def putAllD (kos : List (List Key × O)) (kds : List (List Key × D)) : List (List Key × O) := kds.foldl (fun z p => putD z p.1 (.fz p.2)) kos
theorem ROs.putAll {F : Hp} {κ : Col} {H : Hp} {p : List Nat} : ∀ (kds : List (List Key × D)) (more : List (List Key × V)), more.map (·.1) = kds.map (·.1) → RDs G F (more.map (·.2)) (kds.map (·.2)) → ∀ (kvs : List (List Key × V)) (kos : List (List Key × O)), kvs.map (·.1) = kos.map (·.1) → ROs G F κ H p 0 (kvs.map (·.2)) (kos.map (·.2)) →
    (putL kvs more).map (·.1) = (putAllD kos kds).map (·.1) ∧ ROs G F κ H p 0 ((putL kvs more).map (·.2)) ((putAllD kos kds).map (·.2))
  | [], more, m, _, kvs, kos, hm, hr => by
    have : more = [] := List.map_eq_nil_iff.mp m
    subst this
    exact ⟨hm, hr⟩
  | kd :: kds, more, m, rs, kvs, kos, hm, hr => by
    cases more with
    | nil => cases m
    | cons kv more =>
      rw [List.map_cons, List.map_cons] at m
      obtain ⟨m1, m2⟩ := List.cons.inj m
      cases rs with
      | cons r1 r2 =>
        have e1 := putD_keys hm kd.1 kv.2 (O.fz kd.2)
        have e2 := ROs.put r1 (k := kd.1) hm hr
        have := ROs.putAll kds more m2 r2 (putK kvs kd.1 kv.2) (putD kos kd.1 (.fz kd.2)) e1 e2
        show (putL (putK kvs kv.1 kv.2) more).map (·.1) = _ ∧ ROs G F κ H p 0 ((putL (putK kvs kv.1 kv.2) more).map (·.2)) _
        rw [m1]
        exact this
end
end VL
set_option Elab.async false
set_option linter.all false
set_option maxRecDepth 100000
set_option maxHeartbeats 4000000
/-! ### d.setdefault(k, []).m(args), d a name that owns a dict of owned lists -/
namespace VL
section
open PySem PySem.Spec PyProof.Rows L2
variable {G : Gx} {X : Cx} {pos : Pos} {a b e : Expr} {es : List Expr} {P : List Nat}
end
end VL
set_option Elab.async false
set_option linter.all false
set_option maxRecDepth 100000
set_option maxHeartbeats 4000000
/-! ### list(d.values()) -/
namespace VL
section
open PySem PySem.Spec PyProof.Rows L2
variable {G : Gx} {X : Cx} {pos : Pos} {a e : Expr} {es : List Expr} {P : List Nat}
end
end VL
set_option Elab.async false
set_option linter.all false
set_option maxRecDepth 100000
set_option maxHeartbeats 4000000
/-! ### dict(pairs), the keys tuples -/
namespace VL
section
open PySem PySem.Spec PyProof.Rows L2
variable {G : Gx} {X : Cx} {pos : Pos} {a b c e : Expr} {es : List Expr} {P : List Nat}
/-! ### as gen.py prints them -/
end
end VL
set_option Elab.async false
set_option linter.all false
set_option maxRecDepth 100000
set_option maxHeartbeats 4000000
/-! ### a comprehension over a dict's keys: the dict is locked meanwhile -/
namespace VL
section
open PySem PySem.Spec PyProof.Rows L2 VZ
variable {G : Gx} {X : Cx} {pos : Pos} {c e : Expr} {P : List Nat}
end
end VL
set_option Elab.async false
set_option linter.all false
set_option maxRecDepth 100000
set_option maxHeartbeats 4000000
/-! ### what is raised -/
namespace VL
section
open PySem PySem.Spec PyProof.Rows L2
variable {G : Gx} {X : Cx} {pos : Pos} {a c e : Expr} {es : List Expr} {P : List Nat} {st : Stmt} {sts : List Stmt} {W : WX}
/-- the class of what is raised, and the names then -/
abbrev RF := Env' → Option (Str × Env')
def tR (G : Gx) (P : List Nat) (W : WX) (rf : RF) : TS := fun _ σ H => ∃ F κ ρ cn ρ', SS G F κ σ H ρ ∧ rf ρ = some (cn, ρ') ∧ ∀ σ' F' κ' H', SS G F' κ' σ' H' ρ' → Step F κ H F' κ' H' → Pin P σ σ' → W (.ref (G.cl cn)) none σ' H'
abbrev VR (G : Gx) (P : List Nat) (X : Cx) (W : WX) (st : Stmt) (rf : RF) : Prop := PS X st (tR G P W rf)
abbrev VRs (G : Gx) (P : List Nat) (X : Cx) (W : WX) (sts : List Stmt) (rf : RF) : Prop := PSs X sts (tR G P W rf)
theorem pss_false : PSs X sts (fun _ _ _ => False) := ⟨fun pins s σ H D I q => q.elim⟩
def rNo : RF := fun _ => none
theorem vrs_no : VRs G P X W sts rNo := ⟨fun pins s σ H D I q => by
  obtain ⟨F, κ, ρ, cn, ρ', S, e, k⟩ := q
  cases e⟩
/-- the first statement raises -/
theorem vrs_here {rf : RF} (h : VR G P X W st rf) : VRs G P X W (st :: sts) rf := pssImp (pss_cons h (pss_false (sts := sts))) fun D σ H q => q
def rIf (t : BF) (rf rg : RF) : RF := fun ρ => (t ρ).bind fun p => if p.1 then rf p.2 else rg p.2
theorem vr_if {x y : List Stmt} {t : BF} {rf rg : RF} (hc : VT G X c t) (ha : VRs G P X W x rf) (hb : VRs G P X W y rg) : VR G P X W (.If c x y pos) (rIf t rf rg) := psImp (ps_if hc ha hb) fun Dn σ H ⟨F, κ, ρ, cn, ρ', S, q, k⟩ => by
  unfold rIf at q
  cases q1 : t ρ with
  | none => rw [q1] at q; cases q
  | some p =>
    obtain ⟨b1, ρ1⟩ := p
    rw [q1] at q
    simp only [Option.bind_some] at q
    refine ⟨F, κ, ρ, b1, ρ1, S, q1, fun F1 κ1 H1 S1 s1 => ?_⟩
    cases b1 with
    | true => exact ⟨F1, κ1, ρ1, cn, ρ', S1, q, fun σ' F' κ' H' S' s' p' => k σ' F' κ' H' S' (s1.trans s') p'⟩
    | false => exact ⟨F1, κ1, ρ1, cn, ρ', S1, q, fun σ' F' κ' H' S' s' p' => k σ' F' κ' H' S' (s1.trans s') p'⟩
/-! ### raise -/
/-- an own class of exception without its own __init__, beneath ValueError -/
structure ExcAt (K : PySem.W.Frag) (mg : Str → Option Value) (x : Str) (C : Addr) : Prop where
  q : PySem.W.excIn K C [.type "ValueError", .type "Exception", .type "BaseException", .type "object"] "ValueError.__new__" = true
  m : mg x = some (.ref C)
  k : PySem.W.keepIn K (.ref C) = true
  s : PySem.W.subIn K (.ref C) (.type "BaseException") = some true
  t : PySem.W.typeIn K (.ref C) = some (.type "type")
def rRaise (cn : Str) : RF := fun ρ => some (cn, ρ)
theorem vr_raise {x m : Str} {j : Nat} {p p2 pos2 : Pos} (R : Rdy G X) (tk : Takes X W) (ec : ExcAt G.K X.mg x (G.cl x)) (hg : Gl X x := by rfl) (hdb : (x == ("__debug__" : Str)) = false := by decide) :
    VR G P X W (.Raise (some (.Call (.Name x p) [.Constant (.str m) j p2] [] pos2)) none pos) (rRaise x) := by
  have hK := R.hK
  refine psImp (ps_raise R.calm tk (pmk_own (C := G.cl x) PySem.F.excBase_ValueError (by rw [← hK]; exact ec.q) ec.m (by rw [← hK]; exact ec.k) (raises_own (by rw [← hK]; exact ec.s) (by rw [← hK]; exact ec.t)) hg hdb)) fun D σ H ⟨F, κ, ρ, cn, ρ', S, e, k⟩ => ?_
  cases e
  exact k σ F κ H S .refl .refl
/-! ### a def that raises -/
def spR (G : Gx) (n : Nat) (f : List O → Option Str) : Sp := fun vs H Q E => ∃ F κ os cn, SS G F κ (vs.map some) H (os.map some) ∧ os.length = n ∧ f os = some cn ∧
  ∀ F' κ' H', Sub G F' H' → (∀ a p, κ' a = some p → F' a = none ∧ Mo H' a) → Step F κ H F' κ' H' → E (.ref (G.cl cn)) none H'
def fnR (m n : Nat) (rf : RF) : List O → Option Str := fun os => if os.length = n then (rf (os.map some ++ List.replicate (m - n) none)).map (·.1) else none
theorem spR_len {n : Nat} {f : List O → Option Str} : ∀ vs H Q E, spR G n f vs H Q E → vs.length = n := fun vs H Q E ⟨F, κ, os, cn, S, hn, _⟩ => by
  have := S.len
  simp only [List.length_map] at this
  omega
theorem fn_coreR {N ps : List Str} {rf : RF} {vs : List V} {H : Hp} {Q : VK} {E : XK} {D : Ends} (h : spR G ps.length (fnR N.length ps.length rf) vs H Q E) : tR G [] (fun cls d _ H => E cls d H) rf D (L2.start N vs) H := by
  obtain ⟨F0, κ, os, cn, S0, hn, e, k0⟩ := h
  unfold fnR at e
  rw [if_pos hn] at e
  cases q : rf (os.map some ++ List.replicate (N.length - ps.length) none) with
  | none => rw [q] at e; cases e
  | some p =>
    obtain ⟨c1, ρ'⟩ := p
    rw [q] at e
    cases e
    have S1 := S0.pad (N := N)
    rw [hn] at S1
    exact ⟨F0, κ, _, _, ρ', S1, q, fun σ' F' κ' H' S' s' _ => k0 F' κ' H' S'.sub S'.own s'⟩
theorem fnR_hn {m n : Nat} {rf : RF} : ∀ os z, fnR m n rf os = some z → os.length = n := fun os z h => by
  unfold fnR at h
  split at h
  · assumption
  · cases h
theorem takes_cx {Pr : Program} {w : World} {K : PySem.W.Frag} {mg : Str → Option Value} {base : Heap} {N : List Str} {qual : Str} {sc : Scope} {f : Addr} {cd : Value} {A : Around} {outer : List Env} {s : Shared} {H : Hp} {E : XK} :
    Takes (cxOf (CX Pr w) Pr w K mg base N qual sc f cd A outer s H E) (fun cls d _ H => E cls d H) := takes_of rfl rfl rfl rfl
theorem rdy_cx {Pr : Program} {w : World} {mg : Str → Option Value} {base : Heap} {N : List Str} {qual : Str} {sc : Scope} {f : Addr} {cd : Value} {A : Around} {outer : List Env} {s : Shared} {H : Hp} {E : XK} {k : Nat}
    (hr : Room k (A.deeper (PyProof.Rows.envOfC qual sc s.heap.objs.size f cd))) (nd : N.Nodup) (bl : Bl mg) : Rdy G (cxOf (CX Pr w) Pr w G.K mg base N qual sc f cd A outer s H E) := by
  refine ⟨rfl, rfl, ?_, nd, passes_of rfl, bl⟩
  have h : (A.deeper (PyProof.Rows.envOfC qual sc s.heap.objs.size f cd)).units + 16 * k + 200 < cLine := hr.un
  show (A.deeper (PyProof.Rows.envOfC qual sc s.heap.objs.size f cd)).units + 65 < cLine
  omega
theorem fn_okR {Pr : Program} {w : World} {mg : Str → Option Value} {base : Heap} {x qual : Str} {st : Stmt} {f : Addr} {fd : FuncData} {N ps : List Str} {k : Nat} {rf : RF} (Fn : Fun G.K x qual st f fd) (S : FnScope N ps (defScope st))
    (hb : ∀ (cdv : Value) (A : Around) (outer : List Env) (s : Shared) (H : Hp) (E : XK), Room k (A.deeper (envOfC qual (defScope st) s.heap.objs.size f cdv)) → VRs G [] (cxOf (CX Pr w) Pr w G.K mg base N qual (defScope st) f cdv A outer s H E) (fun cls d _ H => E cls d H) (defBody st) rf) :
    FnOk Pr w G.K mg base (CX Pr w) (k + 1) f fd ps (spR G ps.length (fnR N.length ps.length rf)) := by
  obtain ⟨oc, od, kV, doc, pm, an, cdv, ct, osl, rfl, lk, hcd⟩ := Fn.ex
  exact fn_of lk hcd S spR_len fun A outer s H vs Q E hr h => ⟨_, hb cdv A outer s H E hr, fn_coreR h⟩
/-! ### a call that raises -/
def calR (f : List O → Option Str) (g : LF) : RF := fun ρ => (g ρ).bind fun p => (f (p.1.map .fz)).map fun cn => (cn, p.2)
theorem callR_run {n : Nat} {f : List O → Option Str} {fa : LF} {σ : L2.St} {H : Hp} {Q : VK} (hn : ∀ os z, f os = some z → os.length = n)
    (q : ∃ F κ ρ cn ρ', SS G F κ σ H ρ ∧ calR f fa ρ = some (cn, ρ') ∧ ∀ F' κ' H', SS G F' κ' σ H' ρ' → Step F κ H F' κ' H' → W (.ref (G.cl cn)) none σ H') : tA G fa σ H fun vs H1 => spR G n f vs H1 Q (WE W σ) := by
  obtain ⟨F, κ, ρ, cn, ρ', S, e, k⟩ := q
  unfold calR at e
  cases q1 : fa ρ with
  | none => rw [q1] at e; cases e
  | some p =>
    obtain ⟨ds, ρ1⟩ := p
    rw [q1] at e
    simp only [Option.bind_some] at e
    cases q2 : f (ds.map .fz) with
    | none => rw [q2] at e; cases e
    | some c1 =>
      rw [q2] at e
      cases e
      refine ⟨F, κ, ρ, ds, _, S, q1, fun vs F1 κ1 H1 S1 s1 r1 => ?_⟩
      refine ⟨F1, fun _ => none, ds.map .fz, _, S1.args r1, hn _ _ q2, q2, fun F' κ' H' hsub hown st => ?_⟩
      have keep : ∀ a o, H1 a = some o → (∀ ps, o ≠ tE ps) → H' a = some o := fun a o h n => st.frm h rfl n
      refine k F' κ1 H' ⟨hsub, fun a p z => ?_, S1.len, fun i o z => ?_, fun q hq => st.ext _ _ (S1.tab q hq)⟩ (s1.trans ⟨st.ext, fun a o h _ => st.frame a o h rfl, fun a o h _ hn hn2 => st.nofz a o h rfl hn hn2, fun a p z => .inr (by rw [z]; simp)⟩)
      · obtain ⟨h1, h2⟩ := S1.own a p z
        obtain ⟨o, q, hn, hn2⟩ := h2.get
        exact ⟨by rw [st.nofz a o q rfl hn hn2, h1], .at (keep a o q hn2) hn hn2⟩
      · obtain ⟨u, hu, ru⟩ := S1.slots i o z
        exact ⟨u, hu, ru.keep st.ext (fun _ _ _ z => z) fun b q x _ c z => keep b x z fun ps e => (S1.own b q c).2.2.2 ps (by rw [z, e])⟩
end
end VL
set_option Elab.async false
set_option linter.all false
set_option maxRecDepth 100000
set_option maxHeartbeats 4000000
/-! ### try: .. except C as e: return .. -/
namespace VL
section
open PySem PySem.Spec PyProof.Rows L2
variable {G : Gx} {X : Cx} {pos : Pos} {e : Expr} {es : List Expr} {P : List Nat} {st : Stmt} {sts : List Stmt} {W : WX}
theorem Rdy.tr (R : Rdy G X) {pn : List (Addr × Obj)} {xe : Value → Shared → Prop} (own : PassesOwn (model X.prog X.w) X.A X.env xe) : Rdy G (X.tr pn xe) := ⟨R.hK, R.calm, R.hu, R.nd, own, R.bl⟩
/-- some new tuples are there -/
inductive Nw : Hp → Hp → Prop where
  | refl {H : Hp} : Nw H H
  | step {H H' : Hp} {p : Addr} {o : HO} : Nw H H' → H' p = none → Nw H (upd H' p o)
theorem Nw.trans {H H1 H2 : Hp} (a : Nw H H1) (b : Nw H1 H2) : Nw H H2 := by
  induction b with
  | refl => exact a
  | step _ h ih => exact ih.step h
theorem Nw.run {F : Hp} {κ : Col} {σ : L2.St} {H H' : Hp} {ρ : Env'} (n : Nw H H') (S : SS G F κ σ H ρ) : SS G F κ σ H' ρ ∧ Step F κ H F κ H' := by
  induction n with
  | refl => exact ⟨S, .refl⟩
  | step _ h ih =>
    obtain ⟨S1, s1⟩ := ih
    exact ⟨S1.loose h, s1.trans (.loose S1 h)⟩
/-! ### within the clause: what is asked of the exception -/
section
variable {i : Nat} {a D : Addr} {oe : Obj} {pn : List (Addr × Obj)} {n x y : Str} {p p1 p2 p3 p4 : Pos} {kk : Nat} {cv cv2 : V} {u u2 : Value} {b : Bool}
/-! ### return str(..) -/
end
end
end VL
set_option Elab.async false
set_option linter.all false
set_option maxRecDepth 100000
set_option maxHeartbeats 4000000
/-! ### x.clear(); f(x, ..) of an own list that stays own -/
namespace VL
section
open PySem PySem.Spec PyProof.Rows L2
variable {G : Gx} {X : Cx} {pos apos : Pos} {a e : Expr} {es : List Expr}
end
end VL
set_option Elab.async false
set_option linter.all false
set_option maxRecDepth 100000
set_option maxHeartbeats 4000000
/-! ### raise within for; a clause of two statements -/
namespace VL
section
open PySem PySem.Spec PyProof.Rows L2
variable {G : Gx} {X : Cx} {pos : Pos} {e : Expr} {es : List Expr} {P : List Nat} {st : Stmt} {sts : List Stmt} {W : WX}
/-! ### try, with the frame's length -/
end
end VL
set_option Elab.async false
set_option linter.all false
set_option maxRecDepth 100000
set_option maxHeartbeats 4000000
/-! ### tuple(t) of a tuple made while running -/
namespace VL
section
open PySem PySem.Spec PyProof.Rows L2
variable {G : Gx} {X : Cx} {pos p : Pos} {e : Expr} {es : List Expr} {ag : LF}
end
end VL
set_option Elab.async false
set_option linter.all false
set_option maxRecDepth 100000
set_option maxHeartbeats 4000000
/-! ### products of great ints -/
namespace VL
section
open PySem PySem.Spec PyProof.Rows L2
variable {G : Gx} {X : Cx} {pos : Pos} {a b : Expr} {f h : DF}
end
end VL
set_option Elab.async false
set_option linter.all false
set_option maxRecDepth 100000
set_option maxHeartbeats 4000000
/-! ### two names set at once -/
namespace VL
section
open PySem PySem.Spec PyProof.Rows L2
variable {G : Gx} {X : Cx} {pos : Pos} {a b : Expr} {ag : LF} {P : List Nat}
end
end VL
set_option Elab.async false
set_option linter.all false
set_option maxRecDepth 100000
set_option maxHeartbeats 4000000
/-! ### sorted(set(list of pairs)) -/
namespace VL
section
open PySem PySem.Spec PyProof.Rows L2
variable {G : Gx} {X : Cx} {p pos : Pos} {e : Expr}
def smP (q : Int × Int) : Prop := 0 ≤ q.1 ∧ q.1 < 64 ∧ 0 ≤ q.2 ∧ q.2 < 64
instance (q : Int × Int) : Decidable (smP q) := by unfold smP; infer_instance
end
end VL
set_option Elab.async false
set_option linter.all false
set_option maxRecDepth 100000
set_option maxHeartbeats 4000000
/-! ### dicts from tuples of tuples to truths -/
namespace VL
section
open PySem PySem.Spec PyProof.Rows L2
variable {G : Gx} {X : Cx} {e a b : Expr} {es : List Expr} {pos : Pos}
/-! what the keys are in the heap -/
mutual
theorem nHash_ok (w : World) : ∀ d : D, nFit d = true → (nKey d).hash w = nHash d
  | .int i, _ => by rw [nKey, nHash, NestedKey.hash]
  | .tup xs, h => by rw [nFit] at h; rw [nKey, nHash, NestedKey.hash, nHashes_ok w xs h]
  | .tz xs, h => by rw [nFit] at h; rw [nKey, nHash, NestedKey.hash, nHashes_ok w xs h]
  | .non, h => by simp [nFit] at h
  | .bl _, h => by simp [nFit] at h
  | .str _, h => by simp [nFit] at h
  | .lst _, h => by simp [nFit] at h
  | .scr _, h => by simp [nFit] at h
  | .dK _, h => by simp [nFit] at h
  | .dT _, h => by simp [nFit] at h
  | .ins _ _, h => by simp [nFit] at h
  | .dN _, h => by simp [nFit] at h
  | .exc _, h => by simp [nFit] at h
theorem nHashes_ok (w : World) : ∀ ds : List D, nFits ds = true → NestedKey.hashes w (nKeys ds) = nHashes ds
  | [], _ => by rw [nKeys, nHashes, NestedKey.hashes]
  | d :: ds, h => by
    rw [nFits, Bool.and_eq_true] at h
    rw [nKeys, nHashes, NestedKey.hashes, nHash_ok w d h.1, nHashes_ok w ds h.2]
end
/-! {} -/
/-! k in d -/
end
end VL
set_option Elab.async false
set_option linter.all false
set_option maxRecDepth 100000
set_option maxHeartbeats 4000000
/-! ### dicts from tuples of tuples to truths: stored, counted, sorted -/
namespace VL
section
open PySem PySem.Spec PyProof.Rows L2
variable {G : Gx} {X : Cx} {e a b : Expr} {es : List Expr} {pos : Pos}
/-! len(d) -/
/-! sorted(d) -/
end
end VL
set_option Elab.async false
set_option linter.all false
set_option maxRecDepth 100000
set_option maxHeartbeats 4000000
namespace VL
section
open PySem PySem.Spec PyProof.Rows L2
variable {G : Gx} {X : Cx} {e a b : Expr} {es : List Expr} {pos : Pos} {f : DF}
/-! ### int(truth) -/
end
end VL
set_option Elab.async false
set_option linter.all false
set_option maxRecDepth 100000
set_option maxHeartbeats 4000000
/-! ### a truth in d.values(), d a dict from maps to truths -/
namespace VL
section
open PySem PySem.Spec PyProof.Rows L2
variable {G : Gx} {X : Cx} {e a b : Expr} {es : List Expr} {pos : Pos}
/-! the view -/
end
end VL
set_option Elab.async false
set_option linter.all false
set_option maxRecDepth 100000
set_option maxHeartbeats 4000000
/-! ### sorted(set(x) | set(y)), few small ints -/
namespace VL
section
open PySem PySem.Spec PyProof.Rows L2
/-! the table of few small ints, laid anew: each lies in its own slot -/
end
end VL
set_option Elab.async false
set_option linter.all false
set_option maxRecDepth 100000
set_option maxHeartbeats 4000000
/-! ### x | y, sets of few small ints: one set is put into another -/
namespace VL
section
open PySem PySem.Spec PyProof.Rows L2
variable {P : Program} {w : World} {A : Around} {E : Value → Shared → Prop} {s : Shared} {a o : Addr} {S S1 S2 : Int → Bool} {n n1 n2 : Nat}
/-- a set of few small ints; an empty one has room -/
def SetP (w : World) (h : Heap) (a : Addr) (S : Int → Bool) (n : Nat) : Prop :=
  ∃ o es ep t, h.get? a = some o ∧ o.ExactSet ∧ o.data = .set es ep t ∧ (∀ e ∈ es.toList, GoodE e) ∧ (es.toList.map L2.keyOf).Nodup ∧ (∀ k, S k = true ↔ k ∈ es.toList.map L2.keyOf) ∧
    es.size < scanBound ∧ t.fits es.size = true ∧ es.size = n ∧ Ris t.place.toList ∧ (w.params.followText "set-order" = true ∨ t.led = true) ∧ (n = 0 → 7 ≤ t.mask)
theorem SetP.congr {h : Heap} {S' : Int → Bool} (R : SetP w h a S n) (e : ∀ k, S' k = S k) : SetP w h a S' n := by
  have q : S' = S := funext e
  rw [q]; exact R
end
end VL
set_option Elab.async false
set_option linter.all false
set_option maxRecDepth 100000
set_option maxHeartbeats 4000000
namespace VL
section
open PySem PySem.Spec PyProof.Rows L2
variable {P : Program} {w : World} {A : Around} {E : Value → Shared → Prop} {s : Shared} {a o : Addr} {S S1 S2 : Int → Bool} {n n1 n2 : Nat}
end
end VL
set_option Elab.async false
set_option linter.all false
set_option maxRecDepth 100000
set_option maxHeartbeats 4000000
namespace VL
section
open PySem PySem.Spec PyProof.Rows L2
variable {P : Program} {w : World} {A : Around} {E : Value → Shared → Prop} {s : Shared} {a o l r : Addr} {S S1 S2 : Int → Bool} {n n1 n2 : Nat}
end
end VL
set_option Elab.async false
set_option linter.all false
set_option maxRecDepth 100000
set_option maxHeartbeats 4000000
/-! ### sorted(set(x) | set(y)), x and y names of lists or tuples of small ints -/
namespace VL
open PySem PySem.Spec PyProof.Rows L2
section
variable {G : Gx} {X : Cx} {pins : List (Addr × Obj)} {σ : L2.St} {H : Hp} {s : Shared} {p q : Pos}
end
end VL
set_option Elab.async false
set_option linter.all false
set_option maxRecDepth 100000
set_option maxHeartbeats 4000000
/-! ### an exception that is pinned is tracked; what a try would then wish -/
namespace VL
open PySem PySem.Spec PyProof.Rows L2
section
variable {X : Cx} {pins : List (Addr × Obj)} {σ : L2.St} {H : Hp} {s : Shared}
theorem Inv.keepPin {a : Addr} {q : Addr × Obj} {pn' : List (Addr × Obj)} (I : Inv (X.suite a (q :: (X.pn ++ pins))) pn' σ H s) (ok : X.Ok) : Inv X (q :: pins) σ H s :=
  ⟨ok, I.os, I.bare, I.base, I.loc, I.cell, I.free, I.freeC, fun p hp => I.pin p (by
    refine List.mem_append_left _ ?_
    rcases List.mem_append.mp hp with h | h
    · exact List.mem_cons_of_mem _ (List.mem_append_left _ h)
    · rcases List.mem_cons.mp h with h | h
      · rw [h]; exact List.mem_cons_self
      · exact List.mem_cons_of_mem _ (List.mem_append_right _ h)), I.hok, I.len⟩
/-- a pinned object that is new to the def is tracked -/
theorem Inv.track {a C : Addr} {oe : Obj} (I : Inv X ((a, oe) :: pins) σ H s) (new0 : X.s_0.heap.get? a = none) (newp : ∀ p ∈ X.pn ++ pins, p.1 ≠ a) (hv : ∃ vs, oe.data = .fields vs) (hc : oe.cls = .ref C) (hd : oe.dict = none) : Inv X pins σ (upd H a (excO C a)) s := by
  obtain ⟨h1, h2, h3, h4, h5⟩ := I.pin (a, oe) (List.mem_append_right _ List.mem_cons_self)
  obtain ⟨vs, hv⟩ := hv
  have new : ObjOk X.prog X.w (upd H a (excO C a)) s.heap a (excO C a) := ⟨⟨oe, vs, h1, hc, hd, hv⟩, ⟨oe, h1⟩, fun h h' ⟨o, ws, e1, e2⟩ k => ⟨o, ws, k o e1, e2⟩⟩
  refine ⟨I.ok, I.os, I.bare, ⟨I.base.keep, I.base.slot, fun b o e n hx => ?_, I.base.there, fun b xs e => ?_, fun b o u e => ?_, fun b ps e => ?_⟩, I.loc, I.cell, ?_, fun x c e => ?_, fun p hp => ?_, I.hok.laidN (fun _ _ z => z) h2 new, I.len⟩
  · rw [upd_ne (fun z => by rw [z, new0] at e; cases e)]
    exact I.base.free b o e n hx
  · have := I.base.tups b xs e
    rw [upd_ne (ne_of_none this h2)]; exact this
  · have := I.base.frzs b o u e
    rw [upd_ne (ne_of_none this h2)]; exact this
  · obtain ⟨more, this⟩ := I.base.tbls b ps e
    exact ⟨more, by rw [upd_ne (ne_of_none this h2)]; exact this⟩
  · rw [upd_ne (Ne.symm h3)]; exact I.free
  · refine (upd_ne fun z => ?_).trans (I.freeC x c e)
    obtain ⟨v, o, ho, hdd⟩ := I.cell x c e
    rw [z, h1] at ho
    cases ho
    exact h5 v hdd
  · have hp' : p ∈ X.pn ++ (a, oe) :: pins := by
      rcases List.mem_append.mp hp with h | h
      · exact List.mem_append_left _ h
      · exact List.mem_append_right _ (List.mem_cons_of_mem _ h)
    obtain ⟨q1, q2, q3, q4, q5⟩ := I.pin p hp'
    exact ⟨q1, by rw [upd_ne (newp p hp)]; exact q2, q3, q4, q5⟩
end
/-- what `except c as n: suite` wishes of its exception, where behind the suite the exception is known: slot i is n's, the frame has m slots -/
def wKeep (m : Nat) (K : PySem.W.Frag) (c : Value) (i : Nat) (ts : Addr → TS) (D : Ends) : WX := fun cls d σ H => σ.length = m →
  PySem.W.exmOne K cls c = some true ∧ ∃ C, cls = .ref C ∧ d = none ∧ ∀ a, H a = none → ts a ⟨fun τ L => D.nx (τ.set i none) (upd L a (excO C a)), fun _ _ => False, fun _ _ => False, fun _ _ => False⟩ (σ.set i (some (.ref a))) H
section
variable {X : Cx} {pins : List (Addr × Obj)} {σ : L2.St} {H : Hp} {B : Heap} {sI s : Shared} {a : Addr} {cls : Value} {d : Option Addr}
/-- an exception over X's frame: sI is the state without it, B the ground on which it flies -/
structure Aloft (X : Cx) (pins : List (Addr × Obj)) (σ : L2.St) (H : Hp) (B : Heap) (sI s : Shared) (a : Addr) : Prop where
  inv : Inv X pins σ H sI
  grd : ∀ b o, sI.heap.get? b = some o → b ∉ frs X.stack → B.get? b = some o
  os : s.os = sI.os
  bare : AllBare s.gens
  na : H a = none
/-- it has come down in s, new to the def -/
structure Down (X : Cx) (pins : List (Addr × Obj)) (σ : L2.St) (H : Hp) (a : Addr) (cls : Value) (d : Option Addr) (s : Shared) : Prop where
  inv : Inv X pins σ H s
  obj : ∃ oe vs, s.heap.get? a = some oe ∧ Zc cls d oe ∧ oe.data = .fields vs
  nL : a ≠ X.env.locals
  nF : a ∉ X.fs
  n0 : X.s_0.heap.get? a = none
  nP : ∀ p ∈ X.pn ++ pins, p.1 ≠ a
  na : H a = none
theorem Aloft.down (V : Aloft X pins σ H B sI s a) (hs : X.stack = X.env :: X.outer) (hf : X.env.frame = some X.env.locals) (hex : X.ex = []) {h : Heap} (fl : HandSPX.FlyingZ B (X.env :: X.outer) a (Zc cls d) h) (up : sI.heap.UpToSlots h) : Down X pins σ H a cls d { s with heap := h } := by
  have J : Inv X pins σ H { s with heap := h } := V.inv.landed V.grd fl.1 up V.os V.bare
  obtain ⟨oe, vs, e1, e2, e3⟩ := fl.there
  have off : a ∉ frs X.stack := fun m => by
    rw [hs] at m
    obtain ⟨_, o2, e4, no⟩ := fl.2.2.1.mem m
    cases e1.symm.trans e4
    exact no vs e3
  have dark : sI.heap.get? a = none := by
    cases q : sI.heap.get? a with
    | none => rfl
    | some o => cases fl.2.1.symm.trans (V.grd a o q off)
  have mine : X.env.locals ∈ frs X.stack := by rw [hs]; exact List.mem_filterMap.mpr ⟨_, List.mem_cons_self, hf⟩
  refine ⟨J, ⟨oe, vs, e1, e2, e3⟩, fun z => off (z ▸ mine), fun z => ?_, ?_, fun p hp z => ?_, V.na⟩
  · refine off ?_
    rw [hs]
    obtain ⟨v, hv, q⟩ := List.mem_filterMap.mp z
    exact List.mem_filterMap.mpr ⟨v, List.mem_cons_of_mem _ hv, q⟩
  · cases q : X.s_0.heap.get? a with
    | none => rfl
    | some o =>
      obtain ⟨o2, e4⟩ := V.inv.base.there a o q (by rw [hex]; exact List.not_mem_nil)
      cases dark.symm.trans e4
  · have e4 := (V.inv.pin p hp).1
    rw [z] at e4
    cases dark.symm.trans e4
/-- the suite's own state -/
theorem Down.within (V : Down X pins σ H a cls d s) : ∃ oe, Zc cls d oe ∧ (∃ vs, oe.data = .fields vs) ∧ Inv (X.suite a ((a, oe) :: (X.pn ++ pins))) [] σ H s := by
  obtain ⟨oe, vs, e1, e2, e3⟩ := V.obj
  exact ⟨oe, e2, ⟨vs, e3⟩, V.inv.suite e1 e3 V.na V.nL V.nF⟩
/-- the clause's class is asked for, and it fits -/
theorem Down.fits (V : Down X pins σ H a cls d s) {x : Str} {c : Value} {np : Pos} {R : Value → Bool → Shared → Prop} {E1 E2 : Value → Shared → Prop} (hc : Names X x c) (e : PySem.W.exmOne X.K cls c = some true) (k : R c true s) :
    wpAny (model X.prog X.w) (X.A.mark (some (.ref a))) (eval (.Name x np) X.env) (fun u s1 => wpAny (model X.prog X.w) (X.A.mark (some (.ref a))) (excMatches (.ref a) u) (R u) E1 s1) E2 s := by
  obtain ⟨oe, hz, _, J⟩ := V.within
  obtain ⟨o2, _, g, hz2, _⟩ := V.obj
  have knows : PySem.W.Looks (model X.prog X.w) s.heap (typeOf (.ref a)) cls := fun _ _ _ s2 kp q => wpAny_typeOf_ref (kp a o2 g) (hz2.1 ▸ q)
  have good := (PySem.W.exm_one V.inv.kIn knows e).here (A := X.A.mark (some (.ref a))) (Q := R c) (E := E1) k
  obtain ⟨g1, g2, g3⟩ := hc
  rcases g3 with g3 | ⟨g3, g4, g5⟩
  · exact ld_glob J g1 g3 good g2
  · exact ld_blt J g1 g3 g4 good g5 g2
/-- behind the suite the name goes; the exception is tracked -/
theorem keep_gone {i : Nat} {n : Str} {oe : Obj} {C : Addr} {pos : Pos} {Q : Shared → Prop} (I : Inv (X.suite a ((a, oe) :: (X.pn ++ pins))) [] σ H s) (ok : X.Ok) (n0 : X.s_0.heap.get? a = none) (nP : ∀ p ∈ X.pn ++ pins, p.1 ≠ a) (hz : Zc (.ref C) none oe) (hv : ∃ vs, oe.data = .fields vs)
    (hN : X.N.Nodup) (hi : X.N[i]? = some n) (hl : X.env.kindOf n = some .local) (k : ∀ s2, Inv X pins (σ.set i none) (upd H a (excO C a)) s2 → Q s2) {E : Value → Shared → Prop} : wpAny (model X.prog X.w) X.A (do bindName X.env n .none; unbindBehindTheSuite X.env n pos) (fun _ s2 => Q s2) E s :=
  gone_ok (Inv.keepPin I ok) hN hi hl fun s2 J => k s2 (Inv.track J n0 nP hv hz.1 hz.2)
theorem sp_untry {pn' : List (Addr × Obj)} {xe : Value → Shared → Prop} {D : Ends} {f : Flow} (ok : X.Ok) (h : SP (X.tr (X.pn ++ pins) xe) pn' D f s) : SP X pins D f s := by
  cases f with
  | ret u => obtain ⟨v, τ, L, J, r⟩ := h; exact ⟨v, τ, L, J.ofTry ok, r⟩
  | next => obtain ⟨τ, L, J, r⟩ := h; exact ⟨τ, L, J.ofTry ok, r⟩
  | brk => obtain ⟨τ, L, J, r⟩ := h; exact ⟨τ, L, J.ofTry ok, r⟩
  | cont => obtain ⟨τ, L, J, r⟩ := h; exact ⟨τ, L, J.ofTry ok, r⟩
end
section
variable {X : Cx} {x n : Str} {c : Value} {i : Nat} {body suite : List Stmt} {b₀ : Stmt} {np pos pos' : Pos} {pins : List (Addr × Obj)} {ts : Addr → TS} {D : Ends}
/-- the clause, of what is in the air over the try's body -/
theorem keep_clause {xe : Value → Shared → Prop} {u : Value} {s : Shared} (hs : X.stack = X.env :: X.outer) (hf : X.env.frame = some X.env.locals) (hex : X.ex = []) (hN : X.N.Nodup) (hi : X.N[i]? = some n) (hln : X.env.kindOf n = some .local) (hc : Names X x c) (ok : X.Ok)
    (hsu : ∀ a oe pn, PSs (X.suite a ((a, oe) :: pn)) (b₀ :: suite) (ts a)) (air : XE (X.tr (X.pn ++ pins) xe) (wKeep X.N.length X.K c i ts D) u s) :
    wpAny (model X.prog X.w) X.A (noteFrame u X.env) (fun _ s2 => wpAny (model X.prog X.w) X.A (setFlight u none) (fun _ s3 => wpAny (model X.prog X.w) X.A (handleBy u X.env [.ExceptHandler (some (.Name x np)) (some n) (b₀ :: suite) pos']) (SP X pins D) X.xe s3) X.xe s2) X.xe s := by
  obtain ⟨a, B, sI, q, σ, H, cls, d, rfl, J, grd, up, sky, na, os, bare, w⟩ := air
  have V : Aloft X pins σ H B sI s a := ⟨J.ofTry ok, grd, os, bare, na⟩
  have fr : X.A.frames = some (X.env :: X.outer) := by rw [← hs]; exact ok.frames
  obtain ⟨w1, C, rfl, rfl, w2⟩ := w J.len
  have sky2 : Sky B (X.env :: X.outer) a (Zc (.ref C) none) X.env.locals s.heap := hs ▸ sky
  refine Sky.land Zc.steady fr hf sky2 fun h fl up1 => ?_
  have V1 := V.down hs hf hex fl (up.trans up1)
  refine wpAny_handleBy_cons (codeAny_handlers_test (V1.fits hc w1 ?_)) fun z => nomatch z
  refine codeAny_handlers_suite_as (HandSPX.lands_againZ fl fun h2 fl2 up2 => ?_)
  have V2 := V.down hs hf hex fl2 ((up.trans up1).trans up2)
  obtain ⟨oe, hz, hv, J2⟩ := V2.within
  refine store_ok (X := X.suite a ((a, oe) :: (X.pn ++ pins))) J2 hN hi (.inl hln) (v := .ref a) rfl (fun s3 J3 => ?_) (.inr hln)
  refine wpAny_mono ((hsu a oe _).run [] s3 _ H _ J3 (w2 a na)) (fun f s4 r => ?_) fun _ _ z => z.elim
  cases f with
  | next =>
    obtain ⟨τ, L, J4, r⟩ := r
    exact keep_gone J4 ok V2.n0 V2.nP hz hv hN hi hln fun s5 J5 => ⟨_, _, J5, r⟩
  | ret u => obtain ⟨_, _, _, _, _, r⟩ := r; exact r.elim
  | brk => obtain ⟨_, _, _, r⟩ := r; exact r.elim
  | cont => obtain ⟨_, _, _, r⟩ := r; exact r.elim
/-- try: body / except x as n: suite, where the suite keeps the exception -/
theorem ps_try_keep {tb : WX → TS} (hs : X.stack = X.env :: X.outer) (hf : X.env.frame = some X.env.locals) (hex : X.ex = []) (hN : X.N.Nodup) (hi : X.N[i]? = some n) (hln : X.env.kindOf n = some .local) (hc : Names X x c)
    (hb : ∀ W pn xe, Takes (X.tr pn xe) W → PassesOwn (model X.prog X.w) X.A X.env xe → PSs (X.tr pn xe) body (tb W))
    (hsu : ∀ a oe pn, PSs (X.suite a ((a, oe) :: pn)) (b₀ :: suite) (ts a)) :
    PS X (.Try body [.ExceptHandler (some (.Name x np)) (some n) (b₀ :: suite) pos'] [] [] pos) (fun D σ H => tb (wKeep X.N.length X.K c i ts D) D σ H) := by
  constructor
  intro pins s σ H D I h
  refine wpAny_Try_except (wpAny_mono ((hb _ (X.pn ++ pins) _ (fun u s2 air => keep_clause hs hf hex hN hi hln hc I.ok hsu air) .looking).run [] s σ H D (I.toTry _) h) (fun f s2 r => ?_) fun _ _ z => z)
  have r2 := sp_untry I.ok r
  cases f with
  | next => exact wpAny_execs_nil r2
  | ret u => exact r2
  | brk => exact r2
  | cont => exact r2
end
end VL
set_option Elab.async false
set_option linter.all false
set_option maxRecDepth 100000
set_option maxHeartbeats 4000000
/-! ### y = n, in the suite of except C as n -/
namespace VL
open PySem PySem.Spec PyProof.Rows L2
section
variable {G : Gx} {X : Cx} {pos : Pos} {e a : Expr} {es : List Expr} {P : List Nat} {st : Stmt} {sts : List Stmt} {W : WX}
/-- y = n, in the suite -/
theorem he_set {i j : Nat} {a : Addr} {pn : List (Addr × Obj)} {n y : Str} {p1 p2 : Pos} (hN : X.N.Nodup) (hi : X.N[i]? = some n) (hvis : Vis X.env.scope n) (hj : X.N[j]? = some y) (hy : Loc X.env.scope y)
    (hs : swapsWith (.Name n p2) (some (.Name y p1)) pos.line X.env = pure false := by rfl) (hf : X.fn y = true ∨ X.env.scope.names.lookup y = some .local := by first | exact .inr rfl | exact .inl rfl)
    (hd : (n == ("__debug__" : Str)) = false := by decide) (hcd : (n == ("__classdict__" : Str)) = false := by decide) :
    PSs (X.suite a pn) [.Assign [.Name y p1] (.Name n p2) pos] (fun D σ H => σ[i]? = some (some (.ref a)) ∧ D.nx (σ.set j (some (.ref a))) H) :=
  pss_one (psImp (ps_set (X := X.suite a pn) hN hj hy (pe_var (X := X.suite a pn) hi hvis hd hcd) hs hf) fun D σ H ⟨h1, h2⟩ => ⟨.ref a, h1, h2⟩)
end
end VL
set_option Elab.async false
set_option linter.all false
set_option maxRecDepth 100000
set_option maxHeartbeats 4000000
/-! ### isinstance(x, C), x data that is an exception -/
namespace VL
open PySem PySem.Spec PyProof.Rows L2
section
variable {G : Gx} {X : Cx} {pos : Pos} {e a : Expr} {es : List Expr}
/-! ### isinstance of an exception that is data -/
theorem call_isX {C : Addr} (EC : ExcC X.K C) : CallR X (.builtin "isinstance") (fun xs H Q => ∃ (a : Addr) (c : V) (cv : Value) (b : Bool), xs = [.ref a, c] ∧ H a = some (excO C a) ∧ (∀ u, RelV c u → u = cv) ∧ PySem.W.kitOne X.K (.ref C) cv = some b ∧ Q (.bl b) H) := by
  intro pins s σ H xs us Q I r h
  obtain ⟨a, c, cv, b, rfl, ha, hcv, e, q⟩ := h
  obtain ⟨u1, u2, rfl, r1, r2⟩ := vals2 r
  cases (show u1 = Value.ref a from r1)
  have ec := hcv _ r2
  subst ec
  obtain ⟨⟨oe, vs, hget, h1, h2, hv⟩, _, _⟩ := I.hok a _ ha
  have J : PySem.W.InstAt s.heap a oe C none := by
    obtain ⟨oc, od, oda, osl⟩ := oe
    dsimp only at h1 h2 hv
    subst h1 h2 hv
    exact ⟨hget, rfl, rfl, trivial⟩
  exact PySem.W.kia_one (PySem.W.handS_kitx_exc EC.hg EC.hk EC.hs EC.hd EC.ha EC.hn EC.ht EC.hm) I.kIn J e (fun z => nomatch z) fun tk => ⟨.bl b, H, I.kept (t' := tk) fun _ _ z => z, rfl, q⟩
def rIsX (K : PySem.W.Frag) : List V → Hp → VK → Prop := fun xs H Q => ∃ (a C : Addr) (c : V) (cv : Value) (b : Bool), ExcC K C ∧ xs = [.ref a, c] ∧ H a = some (excO C a) ∧ (∀ u, RelV c u → u = cv) ∧ PySem.W.kitOne K (.ref C) cv = some b ∧ Q (.bl b) H
theorem call_isXA : CallR X (.builtin "isinstance") (rIsX X.K) := by
  intro pins s σ H xs us Q I r h
  obtain ⟨a, C, c, cv, b, EC, h1, h2, h3, h4, h5⟩ := h
  exact call_isX EC pins s σ H xs us Q I r ⟨a, c, cv, b, h1, h2, h3, h4, h5⟩
theorem isl_one {K : PySem.W.Frag} {cl : Str → Addr} {cv : Value} {c : Str} {b : Bool} (h1 : ExcC K (cl c)) (h2 : PySem.W.kitOne K (.ref (cl c)) cv = some b) : ∀ p ∈ [(c, b)], ExcC K (cl p.1) ∧ PySem.W.kitOne K (.ref (cl p.1)) cv = some p.2 := fun p hp => by
  rw [List.mem_singleton.mp hp]
  exact ⟨h1, h2⟩
/-- l: what is told of each class -/
def dIsX (l : List (Str × Bool)) (f : DF) : DF := fun ρ => (f ρ).bind fun p => match p.1 with
  | .exc c => (l.lookup c).map fun b => (.bl b, p.2)
  | _ => none
theorem vx_isX {l : List (Str × Bool)} {x : Str} {v : V} {cv : Value} {p p2 : Pos} {f : DF} (hK : G.K = X.K) (hl : ∀ p ∈ l, ExcC X.K (G.cl p.1) ∧ PySem.W.kitOne X.K (.ref (G.cl p.1)) cv = some p.2) (ha : VX G X a f) (hC : PE X (.Name x p2) (tC v)) (hcv : ∀ u, RelV v u → u = cv)
    (hg : Gl X "isinstance") (hm : X.mg "isinstance" = none)
    (he : starEach [a, .Name x p2] X.env = (false, eval a X.env) :: starEach [.Name x p2] X.env := by rfl) (he2 : starEach [.Name x p2] X.env = (false, eval (.Name x p2) X.env) :: starEach [] X.env := by rfl) (hpl : (backTo pos (starEach [.Name x p2] X.env)).any (·.1) = false := by rfl) :
    VX G X (.Call (.Name "isinstance" p) [a, .Name x p2] [] pos) (dIsX l f) :=
  peImp (pe_callB call_isXA hg hm PyProof.Rows.boot_isinstance (pa_cons ha (pa_cons hC pa_nil he2) he) (by decide) (by decide) he hpl) fun σ H Q ⟨F, κ, ρ, d, ρ', S, q, k⟩ => by
    unfold dIsX at q
    cases q1 : f ρ with
    | none => rw [q1] at q; cases q
    | some p =>
      obtain ⟨x, ρ1⟩ := p
      rw [q1] at q
      simp only [Option.bind_some] at q
      split at q
      · rename_i c
        cases q2 : l.lookup c with
        | none => rw [q2] at q; cases q
        | some b =>
          rw [q2] at q
          cases q
          obtain ⟨h1, h2⟩ := hl (c, b) (PySem.mem_of_lookup q2)
          refine ⟨F, κ, ρ, _, _, S, q1, fun v F1 κ1 H1 S1 s1 r1 => ?_⟩
          have r2 := S1.rd r1
          cases r2 with
          | exc hh => exact ⟨_, _, _, _, _, h1, rfl, hh, hcv, h2, k _ F1 κ1 H1 S1 s1 (.bl _)⟩
      · cases q
end
end VL
set_option Elab.async false
set_option linter.all false
set_option maxRecDepth 100000
set_option maxHeartbeats 4000000
/-! ### the lambda's body: f(..), where f raises -/
namespace VL
open PySem PySem.Spec PyProof.Rows L2
/-- a callee's names: only slot j is known, an exception -/
def refE (m j : Nat) (cn : Str) : Env' := (List.replicate m none).set j (some (.fz (.exc cn)))
/-- what the lambda raises, and what the def makes of it -/
def nRef (rf : RF) (m j : Nat) (cs : List Str) (g : SF) : OF := fun ρ => match rf ρ with
  | some p => if p.1 ∈ cs then (match g (refE m j p.1) with | some (.rt o, _) => some (o, p.2) | _ => none) else none
  | none => none
/-- a raising reading of the lambda's body -/
def tLamR (G : Gx) (rf : RF) (E : XK) : TE := fun σ H _ => ∃ F κ ρ cn ρ', SS G F κ σ H ρ ∧ rf ρ = some (cn, ρ') ∧ ∀ F' κ' H', SS G F' κ' σ H' ρ' → Step F κ H F' κ' H' → E (.ref (G.cl cn)) none H'
section
variable {G : Gx} {X : Cx} {A : Around} {outer : List Env} {s : Shared} {H : Hp} {E : XK} {scope : Scope} {f0 c' : Addr} {e : Expr} {es : List Expr}
theorem takes_lam : Takes (LamX.lamCx X A outer s H E scope f0 c') (fun cls d _ H => E cls d H) := takes_of rfl rfl rfl rfl
theorem rdy_lam {k : Nat} (R : Rdy G X) (hr : Room k (A.deeper (LamX.lamEnv X scope s.heap.objs.size f0 c'))) : Rdy G (LamX.lamCx X A outer s H E scope f0 c') := by
  refine ⟨R.hK, rfl, ?_, R.nd, passes_of rfl, R.bl⟩
  have h : (A.deeper (LamX.lamEnv X scope s.heap.objs.size f0 c')).units + 16 * k + 200 < cLine := hr.un
  show (A.deeper (LamX.lamEnv X scope s.heap.objs.size f0 c')).units + 65 < cLine
  omega
theorem lamR_call {ps : List Str} {x : Str} {st' : Stmt} {p pos2 : Pos} {f : List O → Option Str} {ag : LF} {k n : Nat} (Df : DefAt G.K (LamX.lamCx X A outer s H E scope f0 c').mg x st' ps) (ok : FnOk X.prog X.w G.K X.mg X.base (CX X.prog X.w) k Df.fa Df.fd ps (spR G n f)) (hn : ∀ os z, f os = some z → os.length = n) (R : Rdy G (LamX.lamCx X A outer s H E scope f0 c')) (hr : Room k (LamX.lamCx X A outer s H E scope f0 c').A)
    (ha : VA G (LamX.lamCx X A outer s H E scope f0 c') (e :: es) ag) (hg : Gl (LamX.lamCx X A outer s H E scope f0 c') x := by rfl) (hdb : (x == ("__debug__" : Str)) = false := by decide) (he : starEach (e :: es) (LamX.lamCx X A outer s H E scope f0 c').env = (false, eval e (LamX.lamCx X A outer s H E scope f0 c').env) :: starEach es (LamX.lamCx X A outer s H E scope f0 c').env := by rfl) (hpl : (backTo pos2 (starEach es (LamX.lamCx X A outer s H E scope f0 c').env)).any (·.1) = false := by rfl) :
    PE (LamX.lamCx X A outer s H E scope f0 c') (.Call (.Name x p) (e :: es) [] pos2) (tLamR G (calR f ag) E) := by
  obtain ⟨fa, fd, Fn, m, B⟩ := Df
  have hK := R.hK
  refine peImp (pe_callS (E := WE fun cls d _ H => E cls d H) (by rw [← hK]; exact ok) hr hg m (by rw [← hK]; exact Fn.kp) (by rw [← hK]; exact B) (fun σ => passAt takes_lam σ) ha hdb he hpl) fun σ H Q ⟨F, κ, ρ, cn, ρ', S, q, k0⟩ => ?_
  exact callR_run hn ⟨F, κ, ρ, cn, ρ', S, q, fun F' κ' H' S' s' => k0 F' κ' H' S' s'⟩
end
end VL
set_option Elab.async false
set_option linter.all false
set_option maxRecDepth 100000
set_option maxHeartbeats 4000000
/-! ### a def that is handed a lambda, calls it under try and keeps what is raised -/
namespace VL
open PySem PySem.Spec PyProof.Rows L2
section
variable {G : Gx} {F F' : Hp} {κ κ' : Col} {σ : L2.St} {H H' : Hp} {ρ : Env'}
theorem SS.caught (S : SS G F κ σ H ρ) {τ : L2.St} {m j : Nat} {a : Addr} {cn : Str} (hl : τ.length = m) (hj : τ[j]? = some (some (.ref a))) (ha : F a = some (excO (G.cl cn) a)) : SS G F (fun _ => none) τ H (refE m j cn) := by
  refine ⟨S.sub, (fun _ _ z => nomatch z), by unfold refE; simp [hl], fun i o e => ?_, S.tab⟩
  unfold refE at e
  rw [List.getElem?_set] at e
  by_cases q : j = i
  · subst q
    rw [if_pos rfl] at e
    split at e
    · cases e
      exact ⟨_, hj, .fz (.exc ha)⟩
    · cases e
  · rw [if_neg q, List.getElem?_replicate] at e
    split at e <;> cases e
end
/-- what is wished of the lambda, and what follows from the def's other statements -/
def TRef (G : Gx) (K : PySem.W.Frag) (CV : Value) (m j : Nat) (g : SF) : (XK → Hp → VK → Prop) → Hp → VK → Prop := fun tl H Q =>
  ∃ F κ σ ρ cn r ρ1, g (refE m j cn) = some (.rt r, ρ1) ∧ PySem.W.exmOne K (.ref (G.cl cn)) CV = some true ∧
    (∀ (E : XK) (Q0 : VK), (∀ F' κ' H', SS G F' κ' σ H' ρ → Step F κ H F' κ' H' → E (.ref (G.cl cn)) none H') → tl E H Q0) ∧
    (∀ v F' κ' H' κt, SS G F' κ' σ H' ρ → Step F κ H F' κ' H' → RO G F' κt H' [] v r → (∀ a p, κt a = some p → (H a = none ∨ κ a ≠ none) ∧ Mo H' a ∧ F' a = none ∧ κ' a = none) → Q v H')
theorem refused_gives {k : Nat} {G : Gx} {X : Cx} {Ng : List Str} {x a n C q : Str} {sg : Scope} {g : Addr} {cdg : Value} {st1 : Stmt} {rest suite : List Stmt} {b₀ : Stmt} {g' : SF} {i j : Nat} {CV : Value} {p4 p5 p6 p7 p11 p12 : Pos} (hr : Room (k + 1) X.A) (hNd : Ng.Nodup) (hi : Ng[i]? = some n) (hj : j < Ng.length) (hij : i ≠ j) (h0j : j ≠ 0) (hln : sg.names.lookup n = some .local)
    (h0 : ∀ f : Addr, (L2.start Ng [V.ref f])[0]? = some (some (V.ref f)))
    (hc : ∀ s H, Names (cxOf C8.CX0 X.prog X.w X.K X.mg X.base Ng x sg g cdg X.A X.stack s H C8.E0).nox C CV)
    (h1 : ∀ s H, PS (cxOf C8.CX0 X.prog X.w X.K X.mg X.base Ng x sg g cdg X.A X.stack s H C8.E0).nox st1 (fun D σ H => D.nx (σ.set j (some .non)) H))
    (hsu : ∀ s H a pn, PSs ((cxOf C8.CX0 X.prog X.w X.K X.mg X.base Ng x sg g cdg X.A X.stack s H C8.E0).nox.suite a pn) (b₀ :: suite) (fun D σ H => σ[i]? = some (some (.ref a)) ∧ D.nx (σ.set j (some (.ref a))) H))
    (hrest : ∀ s H, Room k (X.A.deeper (envOfC x sg s.heap.objs.size g cdg)) → VB G [] (cxOf C8.CX0 X.prog X.w X.K X.mg X.base Ng x sg g cdg X.A X.stack s H C8.E0).nox rest g') :
    LamX.GivesTo X Ng x sg g cdg (st1 :: .Try [.Expr (.Call (.Name a p4) [] [] p5) p6] [.ExceptHandler (some (.Name C p7)) (some n) (b₀ :: suite) p11] [] [] p12 :: rest) a q (TRef G X.K CV Ng.length j g') := by
  intro f c' s H Q tl act hco h
  obtain ⟨F, κ, σ, ρ, cn, r, ρ1, hg, hm, htl, hq⟩ := h
  have body : ∀ W pn xe, Takes ((cxOf C8.CX0 X.prog X.w X.K X.mg X.base Ng x sg g cdg X.A X.stack s H C8.E0).nox.tr pn xe) W → PassesOwn (model X.prog X.w) (cxOf C8.CX0 X.prog X.w X.K X.mg X.base Ng x sg g cdg X.A X.stack s H C8.E0).nox.A (cxOf C8.CX0 X.prog X.w X.K X.mg X.base Ng x sg g cdg X.A X.stack s H C8.E0).nox.env xe →
      PSs ((cxOf C8.CX0 X.prog X.w X.K X.mg X.base Ng x sg g cdg X.A X.stack s H C8.E0).nox.tr pn xe) [.Expr (.Call (.Name a p4) [] [] p5) p6]
        (fun D σ H => ∃ Ech : XK, (∀ cls d σ' H', Ech cls d H' → W cls d σ' H') ∧ σ[0]? = some (some (.ref f)) ∧ H c' = some (LamX.CodeO c' q) ∧ tl Ech H fun _ H' => D.nx σ H') := fun W pn xe tk _ =>
    ⟨fun pins s2 τ L D I hh => by
      obtain ⟨Ech, e0, e1, e2, e3⟩ := hh
      exact (pss_one (ps_expr (pos := p6) (act W pn xe Ech p4 p5 tk e0))).run pins s2 τ L D I ⟨e1, e2, e3⟩⟩
  refine ⟨_, pss_cons (h1 s H) (pss_cons (ps_try_keep (c := CV) (i := i) rfl rfl rfl hNd hi hln (hc s H) body fun a oe pn => hsu s H a _) (hrest s H (hr.deeper _))), ?_⟩
  refine ⟨fun cls d L => ∃ F2 κ2, cls = .ref (G.cl cn) ∧ d = none ∧ SS G F2 κ2 σ L ρ ∧ Step F κ H F2 κ2 L, ?_, ?_, hco, htl _ _ fun F2 κ2 L S2 st => ⟨F2, κ2, rfl, rfl, S2, st⟩⟩
  · rintro cls d τ L ⟨F2, κ2, rfl, rfl, S2, st⟩ lt
    have lt2 : τ.length = Ng.length := lt
    have lt3 : i < Ng.length := (List.getElem?_eq_some_iff.mp hi).1
    refine ⟨hm, G.cl cn, rfl, rfl, fun a ha => ⟨List.getElem?_set_self (lt2 ▸ lt3), ?_⟩⟩
    have S3 := S2.fresh (o := excO (G.cl cn) a) ha
    refine ⟨upd F2 a (excO (G.cl cn) a), fun _ => none, refE Ng.length j cn, .rt r, ρ1, S3.caught (a := a) (by simp [lt2]) ?_ upd_same, hg, fun v σ3 F3 κ3 L3 κt S4 s4 p4 ro ht => ?_⟩
    · rw [List.getElem?_set_ne hij, List.getElem?_set_self (by simp; omega)]
    · obtain ⟨S5, s5⟩ := S3.through S4.sub s4
      have st2 := st.trans (.fresh (o := excO (G.cl cn) a) S2 ha)
      refine hq v F3 κ2 L3 κt S5 (st2.trans s5) ro fun b p z => ?_
      obtain ⟨z1, z2, z3, _⟩ := ht b p z
      have gone : upd L a (excO (G.cl cn) a) b = none := z1.resolve_right fun z => z rfl
      exact ⟨tn_step st2 (.inl gone), z2, z3, (S3.free gone).2⟩
  · rw [List.getElem?_set_ne h0j]
    exact h0 f
end VL
set_option Elab.async false
set_option linter.all false
set_option maxRecDepth 100000
set_option maxHeartbeats 4000000
/-! ### f(lambda: body), where the lambda raises and f tells what it has caught -/
namespace VL
open PySem PySem.Spec PyProof.Rows L2
section
variable {G : Gx} {X : Cx}
theorem tN_nRef {rf : RF} {m j : Nat} {cs : List Str} {g : SF} {σ : L2.St} {H : Hp} {Q : VK} (h : tN G (nRef rf m j cs g) σ H Q) : ∃ F κ ρ cn ρ' o ρ1, SS G F κ σ H ρ ∧ rf ρ = some (cn, ρ') ∧ cn ∈ cs ∧ g (refE m j cn) = some (.rt o, ρ1) ∧ GivesN G F κ σ H ρ' o Q := by
  obtain ⟨F, κ, ρ, o, ρ', S, e, k⟩ := h
  unfold nRef at e
  split at e
  · rename_i p e1
    obtain ⟨cn, ρ2⟩ := p
    split at e
    · rename_i hcn
      split at e
      · rename_i r ρ3 e2
        cases e
        exact ⟨F, κ, ρ, cn, _, _, ρ3, S, e1, hcn, e2, k⟩
      · cases e
    · cases e
  · cases e
/-- the state behind the making of the lambda -/
theorem SS.madeLam {F : Hp} {κ : Col} {σ : L2.St} {H H1 : Hp} {ρ : Env'} {P c' : Addr} {q : Str} {ps : Array Value} {lp : Pos} (S : SS G F κ σ H ρ) (hm : (P, q) ∈ G.tb) (hq : ∀ q', (P, q') ∈ G.tb → q' = q) (hP : H P = some (.tbl ps)) (ht : TriplesOk ps.toList)
    (ha : ∀ (pos : Pos) (cv : Value), codeAmong pos ps.toList = some cv → ∃ c, cv = .ref c ∧ ∀ q, (P, q) ∈ G.tb → F c = some (LamX.CodeO c q))
    (alt : (H1 = H ∧ codeAmong lp ps.toList = some (.ref c')) ∨ (H c' = none ∧ H1 = upd (upd H P (.tbl (ps ++ #[rawInt lp.line, rawInt lp.col, .ref c']))) c' (LamX.CodeO c' q))) :
    ∃ F1, SS G F1 κ σ H1 ρ ∧ Step F κ H F1 κ H1 ∧ F1 c' = some (LamX.CodeO c' q) := by
  rcases alt with ⟨rfl, e⟩ | ⟨e, rfl⟩
  · obtain ⟨c, e1, e2⟩ := ha _ _ e
    cases e1
    exact ⟨F, S, .refl, e2 q hm⟩
  · obtain ⟨a, b⟩ := S.lam (l := lp.line) (j := lp.col) hm hq hP ht ha e
    exact ⟨_, a, b, upd_same⟩
theorem vn_refused {x a : Str} {fg c P : Addr} {k m j : Nat} {sg : Scope} {pg : Arguments} {bg : List Stmt} {kV doc pm cdv ct oc CV : Value} {an od : Option Addr} {osl : Array (Option Value)} {Ng cs : List Str} {params : Arguments} {body : Expr} {scope : Scope} {rf : RF} {g : SF} {p lpos pos : Pos}
    (hK : G.K = X.K) (hx : Gl X x) (hm : X.mg x = some (.ref fg)) (kp : PySem.W.keepIn X.K (.ref fg) = true) (lk : X.K.lookup fg = some ⟨oc, od, .func (PySem.W.fnOf x x pg bg sg .none kV doc pm an cdv ct), osl⟩) (cd : PySem.W.codeIn X.K cdv x = true)
    (bd : L2.Binds X.K (PySem.W.fnOf x x pg bg sg .none kV doc pm an cdv ct) [a] []) (Sg : FnScope Ng [a] sg) (n0 : Ng[0]? = some a) (va : Vis sg a)
    (gives : LamX.GivesTo X Ng x sg fg cdv bg a (X.env.qual ++ "<lambda>") (TRef G X.K CV m j g)) (hcs : ∀ cn ∈ cs, PySem.W.exmOne X.K (.ref (G.cl cn)) CV = some true)
    (TB : LamX.TabB X.base X.mg c P) (hcode : X.env.code = .ref c) (ht : (P, X.env.qual ++ "<lambda>") ∈ G.tb) (hq : ∀ q', (P, q') ∈ G.tb → q' = X.env.qual ++ "<lambda>") (hr : Room (k + 2) X.A) (L : LamX.LamS X.env.scope scope) (hdef : defaultsOf params X.env = ([], []))
    (hbind : ∀ (q : Str) (cl : List (Str × Addr)) (pm cv ctv : Value), bindArgs (PySem.W.kla_fn "<lambda>" q params body scope cl pm cv ctv) ⟨[], []⟩ = pure [])
    (hbody : ∀ (A : Around) (outer : List Env) (s : Shared) (H : Hp) (E : XK) (f c' : Addr), Room k (A.deeper (LamX.lamEnv X scope s.heap.objs.size f c')) → PE (LamX.lamCx X A outer s H E scope f c') body (tLamR G rf E))
    (hdb : (x == ("__debug__" : Str)) = false := by decide) (hd : (a == ("__debug__" : Str)) = false := by decide) (hcd : (a == ("__classdict__" : Str)) = false := by decide) :
    VN G X (.Call (.Name x p) [.Lambda params body scope lpos] [] pos) (nRef rf m j cs g) := by
  constructor
  intro pins s σ H Q I h
  obtain ⟨F, κ, ρ, cn, ρ', o, ρ1, S, e1, hcn, e2, kk⟩ := tN_nRef h
  obtain ⟨ps, hP, tri, known⟩ := S.table ht I.hok
  have known2 : ∀ (q : Pos) (cv : Value), codeAmong q ps.toList = some cv → ∃ c', cv = .ref c' ∧ H c' = some (LamX.CodeO c' (X.env.qual ++ "<lambda>")) := fun q cv z =>
    let ⟨c', z1, z2⟩ := known q cv z
    ⟨c', z1, S.code (z2 _ ht)⟩
  refine wpAny_Call_Name_kw (ld_glob I hx hm (PySem.W.callWith_K (h₀ := X.base) I.ok.mod.kin kp ?_ (by rfl) (by rfl)) hdb)
  refine Calls.spliced_cons (lam_madeC I TB hcode hP tri known2 hdef (closure_ok (L.has I.ok)) fun f c' pm2 ctv H1 s1 I1 alt hf hf1 _ off => Calls.spliced_nil ⟨I1.kIn, ?_⟩)
  obtain ⟨F1, S1, st1, hc'⟩ := S.madeLam ht hq hP tri known alt
  have code := S1.code hc'
  have wish : TRef G X.K CV m j g (fun E L R => tLamR G rf E σ L R) H1 Q :=
    ⟨F1, κ, σ, ρ', cn, o, ρ1, e2, hcs cn hcn, fun E Q0 w => ⟨F1, κ, ρ, cn, ρ', S1, e1, w⟩, fun v F2 κ2 H2 κt S2 st2 ro ht2 => kk v F2 κ2 H2 κt S2 (st1.trans st2) ro fun b q z => ⟨tn_step st1 (ht2 b q z).1, (ht2 b q z).2⟩⟩
  have run := LamX.run_ofS (CX := C8.CX0) (E := C8.E0) (Q := Q) (args := ⟨[.ref f], []⟩) (us := [.ref f]) (vs := [.ref f]) lk cd Sg hr I1.env0 (bd s1 [.ref f] I1.kIn rfl) (.cons rfl .nil) rfl fun hr2 => by
    obtain ⟨t, h1, h2⟩ := gives f c' s1 H1 Q _ (fun W pn xe E p1 p2 tk hW => LamX.pe_act I1 L hf hf1 off (hbind _ _ _ _ _) tk hW hr2 (fun A2 outer2 s2 H2 hr3 => hbody A2 outer2 s2 H2 E f c' hr3) n0 va hd hcd) code wish
    exact ⟨t, h1.nox, h2⟩
  refine wpAny_call (codeAny_mono run fun r s2 z => ?_)
  match r, z with
  | .ok (.ret u), z => exact I1.after z
  | .ok .next, z => exact z.elim
  | .ok .brk, z => exact z.elim
  | .ok .cont, z => exact z.elim
  | .error _, z => exact (show False from z).elim
/-- by the def's own facts -/
theorem vn_refusedD {x a : Str} {st : Stmt} {c P : Addr} {k m j : Nat} {CV : Value} {Ng cs : List Str} {params : Arguments} {body : Expr} {scope : Scope} {rf : RF} {g : SF} {p lpos pos : Pos} (R : Rdy G X) (Df : DefAt G.K X.mg x st [a]) (Sg : FnScope Ng [a] (defScope st)) (n0 : Ng[0]? = some a) (va : Vis (defScope st) a)
    (gives : ∀ cdv, LamX.GivesTo X Ng x (defScope st) Df.fa cdv (defBody st) a (X.env.qual ++ "<lambda>") (TRef G X.K CV m j g)) (hcs : ∀ cn ∈ cs, PySem.W.exmOne X.K (.ref (G.cl cn)) CV = some true)
    (TB : LamX.TabB X.base X.mg c P) (hcode : X.env.code = .ref c) (ht : (P, X.env.qual ++ "<lambda>") ∈ G.tb) (hq : ∀ q', (P, q') ∈ G.tb → q' = X.env.qual ++ "<lambda>") (hr : Room (k + 2) X.A) (L : LamX.LamS X.env.scope scope) (hdef : defaultsOf params X.env = ([], []))
    (hbind : ∀ (q : Str) (cl : List (Str × Addr)) (pm cv ctv : Value), bindArgs (PySem.W.kla_fn "<lambda>" q params body scope cl pm cv ctv) ⟨[], []⟩ = pure [])
    (hbody : ∀ (A : Around) (outer : List Env) (s : Shared) (H : Hp) (E : XK) (f c' : Addr), Room k (A.deeper (LamX.lamEnv X scope s.heap.objs.size f c')) → PE (LamX.lamCx X A outer s H E scope f c') body (tLamR G rf E))
    (hx : Gl X x := by rfl) (hdb : (x == ("__debug__" : Str)) = false := by decide) (hd : (a == ("__debug__" : Str)) = false := by decide) (hcd : (a == ("__classdict__" : Str)) = false := by decide) :
    VN G X (.Call (.Name x p) [.Lambda params body scope lpos] [] pos) (nRef rf m j cs g) := by
  have hK := R.hK
  obtain ⟨fa, fd, ⟨⟨oc, od, kV, doc, pm, an, cdv, ct, osl, e, lk, cd⟩, kp⟩, mm, B⟩ := Df
  subst e
  rw [hK] at lk cd kp B
  exact vn_refused hK hx mm kp lk cd B Sg n0 va (gives cdv) hcs TB hcode ht hq hr L hdef hbind hbody hdb hd hcd
theorem cs_one {K : PySem.W.Frag} {cl : Str → Addr} {CV : Value} {c : Str} (h : PySem.W.exmOne K (.ref (cl c)) CV = some true) : ∀ cn ∈ [c], PySem.W.exmOne K (.ref (cl cn)) CV = some true := fun cn z => by
  rw [List.mem_singleton.mp z]
  exact h
/-- the slot of the kept exception: None at first -/
theorem h_none {j : Nat} {y : Str} {kd : Nat} {p1 p2 pos : Pos} (hN : X.N.Nodup) (hj : X.N[j]? = some y) (hy : Loc X.env.scope y) (hs : swapsWith (.Constant .none kd p2) (some (.Name y p1)) pos.line X.env = pure false := by rfl) (hf : X.fn y = true ∨ X.env.scope.names.lookup y = some .local := by first | exact .inr rfl | exact .inl rfl) :
    PS X (.Assign [.Name y p1] (.Constant .none kd p2) pos) (fun D σ H => D.nx (σ.set j (some .non)) H) := psImp (ps_set hN hj hy pe_non hs hf) fun D σ H h => h
end
end VL
set_option Elab.async false
set_option linter.all false
set_option maxRecDepth 100000
set_option maxHeartbeats 8000000
namespace VL
open PySem L2
def b__law_cell_at : SF :=
  (sSeq (sIf (bD (d2 gLt (dVar 1) (dA gLen (aCons (dVar 0) aNil)))) (sRet (toO (d2 gIx (dVar 0) (dVar 1)))) sNil)
    (sRet (toO (dC (.int 0)))))
def f__law_cell_at : FF := fnF 2 2 [] b__law_cell_at
theorem fx__law_cell_at (a0 a1 : O) : f__law_cell_at [a0, a1] = fin [] (b__law_cell_at [some a0, some a1]) := rfl
def b__law_state : SF :=
  (sSeq (sAsg (toD (nA (cal f__law_cell_at) (aCons (dVar 0) (aCons (dVar 1) aNil)))) (gN 2))
    (sSeq (sIf (bD (d2 gGe (dVar 2) (d2 gPow (dC (.int 10)) (dC (.int 18))))) (sRet (nA gLst' (aCons (d2 gSub (dVar 2) (d2 gPow (dC (.int 10)) (dC (.int 18)))) (aCons (dC (.bl true)) aNil)))) sNil)
    (sRet (nA gLst' (aCons (d2 gMod (dVar 2) (dC (.int 2147483647))) (aCons (dC (.bl false)) aNil))))))
def f__law_state : FF := fnF 3 2 [] b__law_state
theorem fx__law_state (a0 a1 : O) : f__law_state [a0, a1] = fin [] (b__law_state [some a0, some a1, none]) := rfl
def b__law_take : SF :=
  (sSeq (sIf (bD (dIxV 0 (dC (.int 1)))) (sSeq (sAsg (d2 gMod (dIxV 0 (dC (.int 0))) (dVar 1)) (gN 2))
    (sSeq (sSetI 0 (dC (.int 0)) (d2 gDiv (dIxV 0 (dC (.int 0))) (dVar 1)))
    (sRet (toO (dVar 2))))) sNil)
    (sSeq (sSetI 0 (dC (.int 0)) (d2 gMod (d2 gAdd (d2 gMul (dIxV 0 (dC (.int 0))) (dC (.int 48271))) (dC (.int 29))) (dC (.int 2147483647))))
    (sSeq (sAsg (d2 gMod (d2 gAdd (d2 gAdd (d2 gMul (dIxV 0 (dC (.int 0))) (dIxV 0 (dC (.int 0)))) (d2 gMul (dC (.int 39373)) (dIxV 0 (dC (.int 0))))) (dC (.int 7))) (dC (.int 2147483629))) (gN 3))
    (sSeq (sAsg (d2 gMod (d2 gAdd (d2 gMul (dVar 3) (dVar 3)) (d2 gMul (dC (.int 16807)) (dVar 3))) (dC (.int 2147483587))) (gN 3))
    (sRet (toO (d2 gMod (d2 gDiv (dVar 3) (dC (.int 8))) (dVar 1))))))))
def f__law_take : FF := fnF 4 2 [0] b__law_take
theorem fx__law_take (a0 a1 : O) : f__law_take [a0, a1] = fin [0] (b__law_take [some a0, some a1, none, none]) := rfl
def e__law_begun_1 : DF :=
  (d2 gAdd (dC (.int 1)) (toD (cal1 0 0 f__law_take (mOwn 0 (aCons (dC (.int 3)) aNil)))))
def e__law_begun_2 : DF :=
  (toD (cal1 0 0 f__law_take (mOwn 0 (aCons (d2 gIx (dVar 7) (dVar 12)) aNil))))
def l__law_begun_1 : SF :=
  (sSeq (sAsg (toD (cal1 0 0 f__law_take (mOwn 0 (aCons (dVar 6) aNil)))) (gN 11))
    (sSeq (sAsg (toD (cal1 0 0 f__law_take (mOwn 0 (aCons (dVar 6) aNil)))) (gN 12))
    (sExpr (dMet 9 mApp (aCons (dA gTup' (aCons (dVar 11) (aCons (dVar 12) (aCons (dA gTuple (aCons (toD (nLc 14 [13] (iRg gRg1 (aCons (d2 gIx (dVar 7) (dVar 11)) aNil)) (gN 13) bYes e__law_begun_2)) aNil)) aNil)))) aNil)))))
def b__law_begun : SF :=
  (sSeq (sAsg (toD (cal1 0 0 f__law_take (mOwn 0 (aCons (dC (.int 12)) aNil)))) (gN 1))
    (sSeq (sIf (bD (d2 gLt (dVar 1) (dC (.int 7)))) (sSeq (sAsg (toD (nA gLst' (aCons (dA gTup' (aCons (dC (.int 0)) (aCons (dC (.int 1)) (aCons (dA gTup' (aCons (dC (.int 0)) (aCons (dC (.int 1)) aNil))) aNil)))) (aCons (dA gTup' (aCons (dC (.int 0)) (aCons (dC (.int 1)) (aCons (dA gTup' (aCons (dC (.int 1)) (aCons (dC (.int 0)) aNil))) aNil)))) aNil)))) (gN 2))
    (sSeq (sAsg (toD (nA gLst' (aCons (dA gTup' (aCons (dC (.int 0)) (aCons (dC (.int 1)) (aCons (dA gTup' (aCons (dC (.int 0)) (aCons (dC (.int 0)) (aCons (dC (.int 1)) (aCons (dC (.int 1)) aNil))))) aNil)))) (aCons (dA gTup' (aCons (dC (.int 0)) (aCons (dC (.int 1)) (aCons (dA gTup' (aCons (dC (.int 0)) (aCons (dC (.int 1)) (aCons (dC (.int 0)) (aCons (dC (.int 1)) aNil))))) aNil)))) (aCons (dA gTup' (aCons (dC (.int 1)) (aCons (dC (.int 0)) (aCons (dA gTup' (aCons (dC (.int 0)) (aCons (dC (.int 3)) aNil))) aNil)))) aNil))))) (gN 3))
    (sSeq (sAsg (toD (nA gLst' (aCons (dA gTup' (aCons (dC (.int 0)) (aCons (dC (.int 0)) (aCons (dA gTup' (aCons (dC (.int 1)) (aCons (dC (.int 0)) aNil))) aNil)))) aNil))) (gN 4))
    (sSeq (sAsg (toD (nA gLst' (aCons (dVar 2) (aCons (dVar 3) (aCons (dVar 4) (aCons (toD (nA gLst' (aCons (dA gTup' (aCons (dC (.int 0)) (aCons (dC (.int 0)) (aCons (dA gTup' (aCons (dC (.int 1)) (aCons (dC (.int 2)) (aCons (dC (.int 0)) aNil)))) aNil)))) aNil))) (aCons (toD (nA gLst' (aCons (dA gTup' (aCons (dC (.int 0)) (aCons (dC (.int 0)) (aCons (dA gTup' (aCons (dC (.int 0)) (aCons (dC (.int 0)) aNil))) aNil)))) aNil))) (aCons (toD (nA gLst' aNil)) (aCons (toD (nA gLst' (aCons (dA gTup' (aCons (dC (.int 0)) (aCons (dC (.int 1)) (aCons (dA gTup' (aCons (dC (.int 0)) (aCons (dC (.int 1)) aNil))) aNil)))) (aCons (dA gTup' (aCons (dC (.int 1)) (aCons (dC (.int 2)) (aCons (dA gTup' (aCons (dC (.int 0)) (aCons (dC (.int 0)) (aCons (dC (.int 1)) aNil)))) aNil)))) aNil)))) aNil))))))))) (gN 5))
    (sRet (toO (d2 gIx (dVar 5) (dVar 1)))))))) sNil)
    (sSeq (sAsg (d2 gAdd (dC (.int 1)) (toD (cal1 0 0 f__law_take (mOwn 0 (aCons (dC (.int 3)) aNil))))) (gN 6))
    (sSeq (sAsg (toD (nLc 14 [8] (iRg gRg1 (aCons (dVar 6) aNil)) (gN 8) bYes e__law_begun_1)) (gN 7))
    (sSeq (sSetN 9 (nA gLst' aNil))
    (sSeq (sFor (iRg gRg1 (aCons (toD (cal1 0 0 f__law_take (mOwn 0 (aCons (dC (.int 4)) aNil)))) aNil)) (gN 10) l__law_begun_1)
    (sRet (dMove 9))))))))
def f__law_begun : FF := fnF 14 1 [0] b__law_begun
theorem fx__law_begun (a0 : O) : f__law_begun [a0] = fin [0] (b__law_begun [some a0, none, none, none, none, none, none, none, none, none, none, none, none, none]) := rfl
def l__law_closed_1 : SF :=
  (sIf (bAnd (bOr (bD (d2 gNe (dVar 2) (dVar 3))) (bD (d2 gNe (dVar 4) (dTupR1 (dA gLen (aCons (dVar 4) aNil)))))) (bD (dInV true (dA gTup' (aCons (dVar 2) (aCons (dVar 3) (aCons (dVar 4) aNil)))) 1))) (sExpr (dMet 1 mApp (aCons (dA gTup' (aCons (dVar 2) (aCons (dVar 3) (aCons (dVar 4) aNil)))) aNil))) sNil)
def e__law_closed_1 : DF :=
  (d2 gIx (d2 gIx (dVar 8) (dC (.int 2))) (dVar 9))
def l__law_closed_2 : SF :=
  (sSeq (sAsg (dA gTup' aNil) (gN 4))
    (sSeq (sIf (bD (d2 gEq (d2 gIx (dVar 7) (dC (.int 1))) (d2 gIx (dVar 8) (dC (.int 0))))) (sAsg (dA gTuple (aCons (toD (nLc 11 [9] (iSeq (d2 gIx (dVar 7) (dC (.int 2)))) (gN 9) bYes e__law_closed_1)) aNil)) (gN 4)) sNil)
    (sSeq (sAsg (dA gTup' (aCons (d2 gIx (dVar 7) (dC (.int 0))) (aCons (d2 gIx (dVar 8) (dC (.int 1))) (aCons (dVar 4) aNil)))) (gN 10))
    (sIf (bAnd (bD (d2 gNe (dVar 4) (dA gTup' aNil))) (bAnd (bD (dInV true (dVar 10) 1)) (bOr (bD (d2 gNe (d2 gIx (dVar 10) (dC (.int 0))) (d2 gIx (dVar 10) (dC (.int 1))))) (bD (d2 gNe (dVar 4) (dTupR1 (dA gLen (aCons (dVar 4) aNil)))))))) (sExpr (dMet 1 mApp (aCons (dVar 10) aNil))) sNil))))
def l__law_closed_3 : SF :=
  (sFor (iSeq (toD (nA gLst' (aCons (dA gTup' (aCons (dIxV 1 (dVar 5)) (aCons (dIxV 1 (dVar 6)) aNil))) (aCons (dA gTup' (aCons (dIxV 1 (dVar 6)) (aCons (dIxV 1 (dVar 5)) aNil))) aNil))))) (gTu 2 (gsCons (gN 7) (gsCons (gN 8) gsNil))) l__law_closed_2)
def w__law_closed_1 : BF :=
  (bAnd (bD (d2 gLt (dVar 5) (dLenV 1))) (bD (d2 gLt (dLenV 1) (dC (.int 6)))))
def l__law_closed_4 : SF :=
  (sSeq (sFor (iRg gRg1 (aCons (dLenV 1) aNil)) (gN 6) l__law_closed_3)
    (sAsg (d2 gAdd (dVar 5) (dC (.int 1))) (gN 5)))
def b__law_closed : SF :=
  (sSeq (sSetN 1 (nA gLst' aNil))
    (sSeq (sFor (iSeq (dVar 0)) (gTu 3 (gsCons (gN 2) (gsCons (gN 3) (gsCons (gN 4) gsNil)))) l__law_closed_1)
    (sSeq (sAsg (dC (.int 0)) (gN 5))
    (sSeq (sWhile w__law_closed_1 l__law_closed_4 1000)
    (sRet (dMove 1))))))
def f__law_closed : FF := fnF 11 1 [] b__law_closed
theorem fx__law_closed (a0 : O) : f__law_closed [a0] = fin [] (b__law_closed [some a0, none, none, none, none, none, none, none, none, none, none]) := rfl
def w__law_pattern_1 : BF :=
  (bD (d2 gGt (dA gLen (aCons (dVar 2) aNil)) (dC (.int 5))))
def l__law_pattern_1 : SF :=
  (sSeq (sAsg (dCut (dVar 1) pNone (pSome (dC (.int (-1))))) (gN 1))
    (sAsg (toD (nA (cal f__law_closed) (aCons (dVar 1) aNil))) (gN 2)))
def e__law_pattern_1 : DF :=
  (dA gMax (aCons (dVar 4) (aCons (dVar 5) aNil)))
def e__law_pattern_2 : DF :=
  (d2 gIx (d2 gIx (d2 gIx (dVar 2) (dVar 9)) (dC (.int 2))) (dVar 11))
def l__law_pattern_2 : SF :=
  (sIf (bD (d2 gEq (d2 gIx (d2 gIx (dVar 2) (dVar 8)) (dC (.int 1))) (d2 gIx (d2 gIx (dVar 2) (dVar 9)) (dC (.int 0))))) (sSeq (sAsg (dA gTup' (aCons (d2 gIx (d2 gIx (dVar 2) (dVar 8)) (dC (.int 0))) (aCons (d2 gIx (d2 gIx (dVar 2) (dVar 9)) (dC (.int 1))) (aCons (dA gTuple (aCons (toD (nLc 12 [11] (iSeq (d2 gIx (d2 gIx (dVar 2) (dVar 8)) (dC (.int 2)))) (gN 11) bYes e__law_pattern_2)) aNil)) aNil)))) (gN 10))
    (sSetI 7 (dA gTup' (aCons (dVar 8) (aCons (dVar 9) aNil))) (dIf (bD (d2 gIn (dVar 10) (dVar 2))) (dIndex (dVar 2) (aCons (dVar 10) aNil)) (dC (.int (-1)))))) sNil)
def l__law_pattern_3 : SF :=
  (sFor (iRg gRg1 (aCons (dA gLen (aCons (dVar 2) aNil)) aNil)) (gN 9) l__law_pattern_2)
def e__law_pattern_3 : DF :=
  (dA gTup' (aCons (dVar 4) (aCons (dVar 5) aNil)))
def b__law_pattern : SF :=
  (sSeq (sAsg (toD (cal1 0 0 f__law_begun (mOwn 0 aNil))) (gN 1))
    (sSeq (sAsg (toD (nA (cal f__law_closed) (aCons (dVar 1) aNil))) (gN 2))
    (sSeq (sWhile w__law_pattern_1 l__law_pattern_1 1000)
    (sSeq (sAsg (d2 gAdd (dC (.int 1)) (dA gMax (aCons (d2 gAdd (toD (nLc 12 [4, 5, 6] (iSeq (dVar 2)) (gTu 3 (gsCons (gN 4) (gsCons (gN 5) (gsCons (gN 6) gsNil)))) bYes e__law_pattern_1)) (toD (nA gLst' (aCons (dC (.int 0)) aNil)))) aNil))) (gN 3))
    (sSeq (sIf (bD (d2 gEq (dVar 2) (toD (nA gLst' aNil)))) (sAsg (d2 gAdd (dC (.int 1)) (toD (cal1 0 0 f__law_take (mOwn 0 (aCons (dC (.int 3)) aNil))))) (gN 3)) sNil)
    (sSeq (sSetN 7 nDT0)
    (sSeq (sFor (iRg gRg1 (aCons (dA gLen (aCons (dVar 2) aNil)) aNil)) (gN 8) l__law_pattern_3)
    (sRet (toO (dA gTup' (aCons (dVar 3) (aCons (dA gTuple (aCons (toD (nLc 12 [4, 5, 6] (iSeq (dVar 2)) (gTu 3 (gsCons (gN 4) (gsCons (gN 5) (gsCons (gN 6) gsNil)))) bYes e__law_pattern_3)) aNil)) (aCons (dFz 7) aNil)))))))))))))
def f__law_pattern : FF := fnF 12 1 [0] b__law_pattern
theorem fx__law_pattern (a0 : O) : f__law_pattern [a0] = fin [0] (b__law_pattern [some a0, none, none, none, none, none, none, none, none, none, none, none]) := rfl
def e_is_apart_1 : DF :=
  (d2 gEq (dA gLenSet (aCons (dVar 1) aNil)) (dA gLen (aCons (dVar 1) aNil)))
def b_is_apart : SF :=
  (sRet (toO (dA gAll (aCons (toD (nLc 2 [1] (iSeq (dVar 0)) (gN 1) bYes e_is_apart_1)) aNil))))
def f_is_apart : FF := fnF 2 1 [] b_is_apart
theorem fx_is_apart (a0 : O) : f_is_apart [a0] = fin [] (b_is_apart [some a0, none]) := rfl
def e_is_onto_1 : DF :=
  (d2 gEq (dA gLenSet (aCons (dVar 2) aNil)) (dVar 3))
def b_is_onto : SF :=
  (sRet (toO (dA gAll (aCons (toD (nLc 4 [2, 3] (iZip (dVar 1) (d2 gIx (dVar 0) (dC (.int 0)))) (gTu 2 (gsCons (gN 2) (gsCons (gN 3) gsNil))) bYes e_is_onto_1)) aNil))))
def f_is_onto : FF := fnF 4 2 [] b_is_onto
theorem fx_is_onto (a0 a1 : O) : f_is_onto [a0, a1] = fin [] (b_is_onto [some a0, some a1, none, none]) := rfl
def l_turned_back_1 : SF :=
  (sSetI 4 (dVar 6) (dVar 5))
def l_turned_back_2 : SF :=
  (sSeq (sSetN 4 (n2 gRep (toD (nA gLst' (aCons (dC (.int 0)) aNil))) (dA gLen (aCons (dVar 3) aNil))))
    (sSeq (sFor (iEnum (dVar 3)) (gTu 2 (gsCons (gN 5) (gsCons (gN 6) gsNil))) l_turned_back_1)
    (sExpr (dMet 2 mApp (aCons (dA gTuple (aCons (dFz 4) aNil)) aNil)))))
def b_turned_back : SF :=
  (sSeq (sIf (bOr (bNot (bD (toD (nA (cal f_is_apart) (aCons (dVar 1) aNil))))) (bNot (bD (toD (nA (cal f_is_onto) (aCons (dVar 0) (aCons (dVar 1) aNil))))))) sNever sNil)
    (sSeq (sSetN 2 (nA gLst' aNil))
    (sSeq (sFor (iSeq (dVar 1)) (gN 3) l_turned_back_2)
    (sRet (toO (dA gTuple (aCons (dFz 2) aNil)))))))
def f_turned_back : FF := fnF 7 2 [] b_turned_back
theorem fx_turned_back (a0 a1 : O) : f_turned_back [a0, a1] = fin [] (b_turned_back [some a0, some a1, none, none, none, none, none]) := rfl
def rb_turned_back : RF :=
  (rIf (bOr (bNot (bD (toD (nA (cal f_is_apart) (aCons (dVar 1) aNil))))) (bNot (bD (toD (nA (cal f_is_onto) (aCons (dVar 0) (aCons (dVar 1) aNil))))))) (rRaise "NoMap") rNo)
def rf_turned_back : List O → Option Str := fnR 7 2 rb_turned_back
def t__law_refused_1 : BF :=
  (bD (d2 gIx (dVar 3) (dVar 4)))
def e__law_refused_1 : DF :=
  (dVar 4)
def g__law_refused : SF :=
  (sSeq (sAsg (toD (nA gLst' (aCons (dIsX [("NoMap", false)] (dVar 1)) (aCons (dIsX [("NoMap", true)] (dVar 1)) (aCons (dIsX [("NoMap", false)] (dVar 1)) aNil))))) (gN 3))
    (sSeq (sAsg (d2 gAdd (dVar 3) (toD (nA gLst' (aCons (dIsX [("NoMap", false)] (dVar 1)) (aCons (dIsX [("NoMap", false)] (dVar 1)) (aCons (dIsX [("NoMap", false)] (dVar 1)) aNil)))))) (gN 3))
    (sSeq (sIf (bNot (bD (dIsX [("NoMap", true)] (dVar 1)))) (sRet (toO (dC .non))) sNil)
    (sRet (nLc 5 [4] (iRg gRg1 (aCons (dC (.int 6)) aNil)) (gN 4) t__law_refused_1 e__law_refused_1)))))
def l__law_looked_1 : SF :=
  (sSeq (sAsg (dAnd (dVar 3) (d2 gEq (dA gLenSet (aCons (d2 gIx (dVar 2) (dVar 5)) aNil)) (dA gLen (aCons (d2 gIx (dVar 2) (dVar 5)) aNil)))) (gN 3))
    (sAsg (dAnd (dVar 4) (d2 gEq (toD (nA nSortSet (aCons (d2 gIx (dVar 2) (dVar 5)) aNil))) (toD (nListR1 (d2 gIx (d2 gIx (dVar 1) (dC (.int 0))) (dVar 5)))))) (gN 4)))
def e__law_looked_1 : DF :=
  (dIndexZ (dVar 9) (aCons (dVar 8) aNil))
def e__law_looked_2 : DF :=
  (dA gTuple (aCons (toD (nLc 10 [8] (iRg gRg1 (aCons (dA gLen (aCons (dVar 9) aNil)) aNil)) (gN 8) bYes e__law_looked_1)) aNil))
def b__law_looked : SF :=
  (sSeq (sAsg (dC (.bl true)) (gN 3))
    (sSeq (sAsg (dC (.bl true)) (gN 4))
    (sSeq (sFor (iRg gRg1 (aCons (dA gLen (aCons (dVar 2) aNil)) aNil)) (gN 5) l__law_looked_1)
    (sSeq (sAsg (toD (nA gLst' (aCons (toD (nA (cal f_is_apart) (aCons (dVar 2) aNil))) (aCons (toD (nA (cal f_is_onto) (aCons (dVar 1) (aCons (dVar 2) aNil)))) aNil)))) (gN 6))
    (sSeq (sIf (bOr (bD (d2 gNe (dVar 6) (toD (nA gLst' (aCons (dVar 3) (aCons (dVar 4) aNil)))))) (bOr (bNot (bD (dIsi ["bool"] (d2 gIx (dVar 6) (dC (.int 0)))))) (bNot (bD (dIsi ["bool"] (d2 gIx (dVar 6) (dC (.int 1)))))))) (sRet (toO (dC (.bl false)))) sNil)
    (sSeq (sIf (bOr (bNot (bD (dVar 3))) (bNot (bD (dVar 4)))) (sRet (toO (d2 gEq (toD (nRef (calR rf_turned_back (aCons (dVar 1) (aCons (dVar 2) aNil))) 5 1 ["NoMap"] g__law_refused)) (toD (nA gLst' (aCons (dC (.int 1)) aNil)))))) sNil)
    (sSeq (sAsg (dA gTuple (aCons (toD (nLc 10 [9] (iSeq (dVar 2)) (gN 9) bYes e__law_looked_2)) aNil)) (gN 7))
    (sSeq (sAsg (toD (nA (cal f_turned_back) (aCons (dVar 1) (aCons (dVar 2) aNil)))) (gN 6))
    (sRet (toO (dAnd (dIsi ["tuple"] (dVar 6)) (dAnd (d2 gEq (dVar 6) (dVar 7)) (d2 gEq (toD (nA (cal f_turned_back) (aCons (dVar 0) (aCons (dVar 6) aNil)))) (dVar 2))))))))))))))
def f__law_looked : FF := fnF 10 3 [] b__law_looked
theorem fx__law_looked (a0 a1 a2 : O) : f__law_looked [a0, a1, a2] = fin [] (b__law_looked [some a0, some a1, some a2, none, none, none, none, none, none, none]) := rfl
def e__law_merged_1 : DF :=
  (dIf (bD (d2 gEq (dVar 13) (dVar 12))) (dVar 11) (dVar 13))
def l__law_merged_1 : SF :=
  (sSeq (sAsg (d2 gIx (dIxV 1 (dVar 5)) (dVar 8)) (gN 9))
    (sSeq (sAsg (d2 gIx (dIxV 1 (dVar 6)) (d2 gIx (d2 gIx (dVar 2) (dVar 4)) (dVar 8))) (gN 10))
    (sSeq (sIf (bD (d2 gNe (dGetV 7 (dVar 9) (dVar 10)) (dVar 10))) (sSeq (sAsg (dA gMin (aCons (dIxV 7 (dVar 9)) (aCons (dVar 10) aNil))) (gN 11))
    (sSeq (sAsg (dA gMax (aCons (dIxV 7 (dVar 9)) (aCons (dVar 10) aNil))) (gN 12))
    (sSeq (sSetI 1 (dVar 6) (toD (nLc 14 [13] (iSeq (dIxV 1 (dVar 6))) (gN 13) bYes e__law_merged_1)))
    (sSeq (sAsg (dC (.bl true)) (gN 3))
    (sSeq (sSetN 7 nDK0)
    sBreak))))) sNil)
    (sSetI 7 (dVar 9) (dVar 10)))))
def l__law_merged_2 : SF :=
  (sSeq (sAsg (d2 gIx (d2 gIx (dVar 0) (dC (.int 1))) (dVar 4)) (gTu 2 (gsCons (gN 5) (gsCons (gN 6) gsNil))))
    (sSeq (sSetN 7 nDK0)
    (sFor (iRg gRg1 (aCons (dA gLen (aCons (dIxV 1 (dVar 5)) aNil)) aNil)) (gN 8) l__law_merged_1)))
def w__law_merged_1 : BF :=
  (bD (dVar 3))
def l__law_merged_3 : SF :=
  (sSeq (sAsg (dC (.bl false)) (gN 3))
    (sFor (iRg gRg1 (aCons (dA gLen (aCons (d2 gIx (dVar 0) (dC (.int 1))) aNil)) aNil)) (gN 4) l__law_merged_2))
def b__law_merged : SF :=
  (sSeq (sAsg (dC (.bl true)) (gN 3))
    (sSeq (sWhile w__law_merged_1 l__law_merged_3 1000)
    (sRet (dMove 1))))
def f__law_merged : FF := fnF 14 3 [] b__law_merged
theorem fx__law_merged (a0 a1 a2 : O) : f__law_merged [a0, a1, a2] = fin [] (b__law_merged [some a0, some a1, some a2, none, none, none, none, none, none, none, none, none, none, none]) := rfl
def b__law_end : SF :=
  (sRet (toO (dIf (bD (d2 gLt (dVar 2) (dC (.int 0)))) (dVar 1) (d2 gIx (d2 gIx (d2 gIx (dVar 0) (dC (.int 1))) (dVar 2)) (dC (.int 1))))))
def f__law_end : FF := fnF 3 3 [] b__law_end
theorem fx__law_end (a0 a1 a2 : O) : f__law_end [a0, a1, a2] = fin [] (b__law_end [some a0, some a1, some a2]) := rfl
def t__law_ways_1 : BF :=
  (bD (d2 gEq (d2 gIx (d2 gIx (d2 gIx (dVar 0) (dC (.int 1))) (dVar 2)) (dC (.int 0))) (dVar 1)))
def e__law_ways_1 : DF :=
  (dVar 2)
def b__law_ways : SF :=
  (sRet (toO (d2 gAdd (toD (nA gLst' (aCons (dC (.int (-1))) aNil))) (toD (nLc 3 [2] (iRg gRg1 (aCons (dA gLen (aCons (d2 gIx (dVar 0) (dC (.int 1))) aNil)) aNil)) (gN 2) t__law_ways_1 e__law_ways_1)))))
def f__law_ways : FF := fnF 3 2 [] b__law_ways
theorem fx__law_ways (a0 a1 : O) : f__law_ways [a0, a1] = fin [] (b__law_ways [some a0, some a1, none]) := rfl
def b__law_behind : SF :=
  (sSeq (sIf (bOr (bD (d2 gLt (dVar 1) (dC (.int 0)))) (bD (d2 gLt (dVar 2) (dC (.int 0))))) (sRet (toO (d2 gAdd (d2 gAdd (dVar 1) (dVar 2)) (dC (.int 1))))) sNil)
    (sRet (toO (d2 gIx (d2 gIx (dVar 0) (dC (.int 2))) (dA gTup' (aCons (dVar 1) (aCons (dVar 2) aNil)))))))
def f__law_behind : FF := fnF 3 3 [] b__law_behind
theorem fx__law_behind (a0 a1 a2 : O) : f__law_behind [a0, a1, a2] = fin [] (b__law_behind [some a0, some a1, some a2]) := rfl
def e__law_world_1 : OF :=
  (nA gLst' aNil)
def e__law_world_2 : DF :=
  (dA gTup' (aCons (toD (nA (cal f__law_end) (aCons (dVar 1) (aCons (dVar 4) (aCons (dVar 7) aNil))))) (aCons (dVar 7) aNil)))
def l__law_world_1 : SF :=
  (sExpr (dMetAt 3 mApp (dVar 9) (aCons (dA gTup' (aCons (dVar 5) (aCons (dVar 4) (aCons (dVar 7) aNil)))) aNil)))
def l__law_world_2 : SF :=
  (sSeq (sAsg (toD (cal1 0 0 f__law_take (mOwn 0 (aCons (d2 gIx (dVar 1) (dC (.int 0))) aNil)))) (gN 4))
    (sSeq (sFrz 6 (sSetN 6 (nLc 22 [7] (iSeq (toD (nA (cal f__law_ways) (aCons (dVar 1) (aCons (dVar 4) aNil))))) (gN 7) bYes e__law_world_2)))
    (sIf (bD (d2 gLt (d2 gAdd (dA gMax (aCons (toD (nLens 3 8)) aNil)) (dA gLen (aCons (dVar 6) aNil))) (dC (.int 8)))) (sFor (iSeq (dVar 6)) (gTu 2 (gsCons (gN 9) (gsCons (gN 7) gsNil))) l__law_world_1) sNil)))
def e__law_world_3 : DF :=
  (dIndex (dIxV 3 (dVar 13)) (aCons (dA gTup' (aCons (dVar 5) (aCons (dVar 4) (aCons (toD (nA (cal f__law_behind) (aCons (dVar 1) (aCons (dVar 7) (aCons (dVar 11) aNil))))) aNil)))) aNil))
def l__law_world_3 : SF :=
  (sSeq (sAsg (d2 gIx (d2 gIx (dVar 1) (dC (.int 1))) (dVar 11)) (gTu 2 (gsCons (gN 12) (gsCons (gN 13) gsNil))))
    (sExpr (dMet 10 mApp (aCons (toD (nLc 22 [5, 4, 7] (iSeq (dIxV 3 (dVar 12))) (gTu 3 (gsCons (gN 5) (gsCons (gN 4) (gsCons (gN 7) gsNil)))) bYes e__law_world_3)) aNil))))
def e__law_world_4 : DF :=
  (toD (nListR1 (dA gLen (aCons (dVar 8) aNil))))
def e__law_world_5 : DF :=
  (dIf (bD (d2 gEq (dVar 17) (dVar 16))) (dVar 15) (dVar 17))
def l__law_world_4 : SF :=
  (sSeq (sAsg (toD (cal1 0 0 f__law_take (mOwn 0 (aCons (d2 gIx (dVar 1) (dC (.int 0))) aNil)))) (gN 4))
    (sSeq (sAsg (toD (cal1 0 0 f__law_take (mOwn 0 (aCons (dC (.int 7)) aNil)))) (gN 12))
    (sSeq (sAsg (toD (cal1 0 0 f__law_take (mOwn 0 (aCons (dC (.int 7)) aNil)))) (gN 13))
    (sIf (bD (d2 gLt (dA gMax (aCons (dVar 12) (aCons (dVar 13) aNil))) (dA gLen (aCons (dIxV 14 (dVar 4)) aNil)))) (sSeq (sAsg (dA gMin (aCons (d2 gIx (dIxV 14 (dVar 4)) (dVar 12)) (aCons (d2 gIx (dIxV 14 (dVar 4)) (dVar 13)) aNil))) (gN 15))
    (sSeq (sAsg (dA gMax (aCons (d2 gIx (dIxV 14 (dVar 4)) (dVar 12)) (aCons (d2 gIx (dIxV 14 (dVar 4)) (dVar 13)) aNil))) (gN 16))
    (sSeq (sSetI 14 (dVar 4) (toD (nLc 22 [17] (iSeq (dIxV 14 (dVar 4))) (gN 17) bYes e__law_world_5)))
    (sSetN 14 (calM 1 14 f__law_merged (mCons (dVar 1) (mOwn 14 (aCons (dFz 10) aNil)))))))) sNil))))
def e__law_world_6 : DF :=
  (toD (nA nSortSet (aCons (dVar 8) aNil)))
def e__law_world_7 : DF :=
  (d2 gIx (dIxV 14 (dVar 13)) (d2 gIx (dIxV 10 (dVar 11)) (dVar 20)))
def e__law_world_8 : DF :=
  (dIndex (d2 gIx (dVar 18) (dVar 13)) (aCons (dVar 21) aNil))
def l__law_world_5 : SF :=
  (sSeq (sAsg (d2 gIx (d2 gIx (dVar 1) (dC (.int 1))) (dVar 11)) (gTu 2 (gsCons (gN 12) (gsCons (gN 13) gsNil))))
    (sSeq (sFrz 8 (sSetN 8 (nLc 22 [20] (iSeq (d2 gIx (dVar 18) (dVar 12))) (gN 20) bYes e__law_world_7)))
    (sExpr (dMet 19 mApp (aCons (dA gTuple (aCons (toD (nLc 22 [21] (iSeq (dVar 8)) (gN 21) bYes e__law_world_8)) aNil)) aNil)))))
def e__law_world_9 : DF :=
  (dA gLen (aCons (dVar 8) aNil))
def b__law_world : SF :=
  (sSeq (sSetN 3 (nLcO 22 [4] (iRg gRg1 (aCons (d2 gIx (dVar 1) (dC (.int 0))) aNil)) (gN 4) bYes e__law_world_1))
    (sSeq (sFrz 3 (sFor (iRg gRg1 (aCons (toD (cal1 0 0 f__law_take (mOwn 0 (aCons (d2 gAdd (dVar 2) (dC (.int 1))) aNil)))) aNil)) (gN 5) l__law_world_2))
    (sSeq (sSetN 10 (nA gLst' aNil))
    (sSeq (sFor (iRg gRg1 (aCons (dA gLen (aCons (d2 gIx (dVar 1) (dC (.int 1))) aNil)) aNil)) (gN 11) l__law_world_3)
    (sSeq (sSetN 14 (nLc 22 [8] (iSeq (dFz 3)) (gN 8) bYes e__law_world_4))
    (sSeq (sFor (iRg gRg1 (aCons (toD (cal1 0 0 f__law_take (mOwn 0 (aCons (dC (.int 4)) aNil)))) aNil)) (gN 11) l__law_world_4)
    (sSeq (sAsg (toD (nLc 22 [8] (iSeq (dFz 14)) (gN 8) bYes e__law_world_6)) (gN 18))
    (sSeq (sSetN 19 (nA gLst' aNil))
    (sSeq (sFor (iRg gRg1 (aCons (dA gLen (aCons (d2 gIx (dVar 1) (dC (.int 1))) aNil)) aNil)) (gN 11) l__law_world_5)
    (sRet (toO (dA gTup' (aCons (dA gTuple (aCons (toD (nLc 22 [8] (iSeq (dVar 18)) (gN 8) bYes e__law_world_9)) aNil)) (aCons (dA gTuple (aCons (dFz 19) aNil)) aNil))))))))))))))
def f__law_world : FF := fnF 22 3 [0] b__law_world
theorem fx__law_world (a0 a1 a2 : O) : f__law_world [a0, a1, a2] = fin [0] (b__law_world [some a0, some a1, some a2, none, none, none, none, none, none, none, none, none, none, none, none, none, none, none, none, none, none, none]) := rfl
def b__law_led : SF :=
  (sRet (toO (dIf (bD (d2 gLt (dVar 2) (dC (.int 0)))) (dVar 1) (d2 gIx (d2 gIx (d2 gIx (dVar 0) (dC (.int 1))) (dVar 2)) (dVar 1)))))
def f__law_led : FF := fnF 3 3 [] b__law_led
theorem fx__law_led (a0 a1 a2 : O) : f__law_led [a0, a1, a2] = fin [] (b__law_led [some a0, some a1, some a2]) := rfl
def e__law_known_1 : OF :=
  (nA nDict (aCons (dVar 8) aNil))
def l__law_known_1 : SF :=
  (sSeq (sAsg (toD (nA (cal f__law_end) (aCons (dVar 0) (aCons (dVar 4) (aCons (dVar 9) aNil))))) (gN 10))
    (sSeq (sAsg (toD (nA (cal f__law_led) (aCons (dVar 1) (aCons (dVar 5) (aCons (dVar 9) aNil))))) (gN 11))
    (sSeq (sAsg (toD (nA (cal f__law_led) (aCons (dVar 2) (aCons (dVar 6) (aCons (dVar 9) aNil))))) (gN 12))
    (sSeq (sIf (bD (d2 gNe (dGetAt 7 (dVar 10) (dVar 11) (dVar 12)) (dVar 12))) (sRet (toO (dC .non))) sNil)
    (sSetAt 7 (dVar 10) (dVar 11) (dVar 12))))))
def b__law_known : SF :=
  (sSeq (sSetN 7 (nLcO 13 [8] (iSeq (dVar 3)) (gN 8) bYes e__law_known_1))
    (sSeq (sFrz 7 (sFor (iSeq (toD (nA (cal f__law_ways) (aCons (dVar 0) (aCons (dVar 4) aNil))))) (gN 9) l__law_known_1))
    (sRet (dMove 7))))
def f__law_known : FF := fnF 13 7 [] b__law_known
theorem fx__law_known (a0 a1 a2 a3 a4 a5 a6 : O) : f__law_known [a0, a1, a2, a3, a4, a5, a6] = fin [] (b__law_known [some a0, some a1, some a2, some a3, some a4, some a5, some a6, none, none, none, none, none, none]) := rfl
def e__law_some_map_1 : DF :=
  (toD nDK0)
def l__law_some_map_1 : SF :=
  (sIf (bD (d2 gIs (dVar 7) (dC .non))) (sAsg (toD (nA (cal f__law_known) (aCons (dVar 1) (aCons (dVar 2) (aCons (dVar 3) (aCons (dVar 4) (aCons (dVar 5) (aCons (dVar 6) (aCons (d2 gMod (d2 gAdd (dVar 9) (dVar 8)) (d2 gIx (d2 gIx (dVar 3) (dC (.int 0))) (dVar 5))) aNil))))))))) (gN 7)) sNil)
def l__law_some_map_2 : SF :=
  (sIf (bD (d2 gNotIn (dVar 6) (d2 gIx (dVar 4) (dVar 5)))) (sSeq (sAsg (dC .non) (gN 7))
    (sSeq (sAsg (toD (cal1 0 0 f__law_take (mOwn 0 (aCons (dA gMax (aCons (dC (.int 1)) (aCons (d2 gIx (d2 gIx (dVar 3) (dC (.int 0))) (dVar 5)) aNil))) aNil)))) (gN 8))
    (sSeq (sFor (iRg gRg1 (aCons (d2 gIx (d2 gIx (dVar 3) (dC (.int 0))) (dVar 5)) aNil)) (gN 9) l__law_some_map_1)
    (sSeq (sIf (bD (d2 gIs (dVar 7) (dC .non))) (sRet (toO (dC .non))) sNil)
    (sAsg (dVar 7) (gN 4)))))) sNil)
def l__law_some_map_3 : SF :=
  (sFor (iRg gRg1 (aCons (d2 gIx (d2 gIx (dVar 2) (dC (.int 0))) (dVar 5)) aNil)) (gN 6) l__law_some_map_2)
def e__law_some_map_2 : DF :=
  (d2 gIx (d2 gIx (dVar 4) (dVar 9)) (dVar 6))
def e__law_some_map_3 : DF :=
  (dA gTupleZ (aCons (toD (nLc 10 [6] (iRg gRg1 (aCons (d2 gIx (d2 gIx (dVar 2) (dC (.int 0))) (dVar 9)) aNil)) (gN 6) bYes e__law_some_map_2)) aNil))
def b__law_some_map : SF :=
  (sSeq (sAsg (toD (nLc 10 [5] (iRg gRg1 (aCons (d2 gIx (dVar 1) (dC (.int 0))) aNil)) (gN 5) bYes e__law_some_map_1)) (gN 4))
    (sSeq (sFor (iRg gRg1 (aCons (d2 gIx (dVar 1) (dC (.int 0))) aNil)) (gN 5) l__law_some_map_3)
    (sRet (toO (dA gTuple (aCons (toD (nLc 10 [9] (iRg gRg1 (aCons (d2 gIx (dVar 1) (dC (.int 0))) aNil)) (gN 9) bYes e__law_some_map_3)) aNil))))))
def f__law_some_map : FF := fnF 10 4 [0] b__law_some_map
theorem fx__law_some_map (a0 a1 a2 a3 : O) : f__law_some_map [a0, a1, a2, a3] = fin [0] (b__law_some_map [some a0, some a1, some a2, some a3, none, none, none, none, none, none]) := rfl
def e__law_orders_1 : DF :=
  (dMet 4 mPopAt (aCons (toD (cal1 0 0 f__law_take (mOwn 0 (aCons (dLenV 4) aNil)))) aNil))
def l__law_orders_1 : SF :=
  (sSeq (sSetN 4 (nListR1 (dVar 3)))
    (sExpr (dMet 2 mApp (aCons (dA gTupleZ (aCons (toD (nLc 6 [5] (iRg gRg1 (aCons (dVar 3) aNil)) (gN 5) bYes e__law_orders_1)) aNil)) aNil))))
def b__law_orders : SF :=
  (sSeq (sSetN 2 (nA gLst' aNil))
    (sSeq (sFor (iSeq (d2 gIx (dVar 1) (dC (.int 0)))) (gN 3) l__law_orders_1)
    (sRet (toO (dA gTuple (aCons (dFz 2) aNil))))))
def f__law_orders : FF := fnF 6 2 [0] b__law_orders
theorem fx__law_orders (a0 a1 : O) : f__law_orders [a0, a1] = fin [0] (b__law_orders [some a0, some a1, none, none, none, none]) := rfl
def l__law_turned_1 : SF :=
  (sSeq (sAsg (dIndexZ (d2 gIx (dVar 2) (dVar 5)) (aCons (dVar 8) aNil)) (gN 9))
    (sExpr (dMet 7 mApp (aCons (d2 gIx (d2 gIx (dVar 2) (dVar 6)) (d2 gIx (d2 gIx (d2 gIx (dVar 1) (dC (.int 1))) (dVar 4)) (dVar 9))) aNil))))
def l__law_turned_2 : SF :=
  (sSeq (sAsg (d2 gIx (d2 gIx (dVar 0) (dC (.int 1))) (dVar 4)) (gTu 2 (gsCons (gN 5) (gsCons (gN 6) gsNil))))
    (sSeq (sSetN 7 (nA gLst' aNil))
    (sSeq (sFor (iRg gRg1 (aCons (d2 gIx (d2 gIx (dVar 1) (dC (.int 0))) (dVar 5)) aNil)) (gN 8) l__law_turned_1)
    (sExpr (dMet 3 mApp (aCons (dA gTuple (aCons (dFz 7) aNil)) aNil))))))
def b__law_turned : SF :=
  (sSeq (sSetN 3 (nA gLst' aNil))
    (sSeq (sFor (iRg gRg1 (aCons (dA gLen (aCons (d2 gIx (dVar 0) (dC (.int 1))) aNil)) aNil)) (gN 4) l__law_turned_2)
    (sRet (toO (dA gTup' (aCons (d2 gIx (dVar 1) (dC (.int 0))) (aCons (dA gTuple (aCons (dFz 3) aNil)) aNil)))))))
def f__law_turned : FF := fnF 10 3 [] b__law_turned
theorem fx__law_turned (a0 a1 a2 : O) : f__law_turned [a0, a1, a2] = fin [] (b__law_turned [some a0, some a1, some a2, none, none, none, none, none, none, none]) := rfl
def l_law_1 : SF :=
  (sSeq (sAsg (toD (cal1 0 1 f__law_world (mOwn 1 (aCons (dVar 2) (aCons (dC (.int 3)) aNil))))) (gN 4))
    (sSeq (sAsg (toD (cal1 0 1 f__law_world (mOwn 1 (aCons (dVar 2) (aCons (dC (.int 3)) aNil))))) (gN 5))
    (sSeq (sAsg (toD (cal1 0 1 f__law_some_map (mOwn 1 (aCons (dVar 2) (aCons (dVar 4) (aCons (dVar 5) aNil)))))) (gN 6))
    (sSeq (sIf (bAnd (bD (d2 gIsNot (dVar 6) (dC .non))) (bNot (bD (toD (nA (cal f__law_looked) (aCons (dVar 4) (aCons (dVar 5) (aCons (dVar 6) aNil)))))))) (sRet (toO (dC (.bl false)))) sNil)
    (sSeq (sAsg (toD (cal1 0 1 f__law_orders (mOwn 1 (aCons (dVar 4) aNil)))) (gN 7))
    (sIf (bNot (bD (toD (nA (cal f__law_looked) (aCons (dVar 4) (aCons (toD (nA (cal f__law_turned) (aCons (dVar 2) (aCons (dVar 4) (aCons (dVar 7) aNil))))) (aCons (dVar 7) aNil))))))) (sRet (toO (dC (.bl false)))) sNil))))))
def b_law : SF :=
  (sSeq (sSetN 1 (nA (cal f__law_state) (aCons (dVar 0) (aCons (dC (.int 0)) aNil))))
    (sSeq (sAsg (toD (cal1 0 1 f__law_pattern (mOwn 1 aNil))) (gN 2))
    (sSeq (sFor (iRg gRg1 (aCons (dC (.int 3)) aNil)) (gN 3) l_law_1)
    (sSeq (sAsg (dA gTup' (aCons (d2 gMulT (dA gTup' (aCons (dC (.int 0)) aNil)) (d2 gIx (dVar 2) (dC (.int 0)))) (aCons (d2 gMulT (dA gTup' (aCons (dA gTup' aNil) aNil)) (dA gLen (aCons (d2 gIx (dVar 2) (dC (.int 1))) aNil))) aNil))) (gN 8))
    (sRet (nA (cal f__law_looked) (aCons (dVar 8) (aCons (dVar 8) (aCons (d2 gMulT (dA gTup' (aCons (dA gTup' aNil) aNil)) (d2 gIx (dVar 2) (dC (.int 0)))) aNil)))))))))
def f_law : FF := fnF 9 1 [] b_law
theorem fx_law (a0 : O) : f_law [a0] = fin [] (b_law [some a0, none, none, none, none, none, none, none, none]) := rfl
end VL
set_option Elab.async false
set_option linter.all false
set_option maxRecDepth 100000
set_option maxHeartbeats 4000000
namespace VL
open PySem L2

/-! ### plain data: ints, tuples, lists; when they are equal -/
def plN : Nat → D → Prop
  | 0, d => ∃ i, d = .int i
  | n + 1, d => (∃ i, d = .int i) ∨ ∃ xs, (d = .tup xs ∨ d = .lst xs) ∧ ∀ x ∈ xs, plN n x
theorem plN_int (n : Nat) (i : Int) : plN n (.int i) := by cases n <;> simp [plN]
theorem plN_tup {n : Nat} {xs : List D} (h : ∀ x ∈ xs, plN n x) : plN (n + 1) (.tup xs) := .inr ⟨xs, .inl rfl, h⟩
theorem plN_lst {n : Nat} {xs : List D} (h : ∀ x ∈ xs, plN n x) : plN (n + 1) (.lst xs) := .inr ⟨xs, .inr rfl, h⟩
theorem pys_map (f : D → PyData) (hf : ∀ d, D.py d = f d) : ∀ xs : List D, D.pys xs = xs.map f
  | [] => by rw [D.pys]; rfl
  | d :: ds => by rw [D.pys, pys_map f hf ds, hf]; rfl
theorem pys_eq (xs : List D) : D.pys xs = xs.map D.py := pys_map _ (fun _ => rfl) xs
theorem canAll (ds : List PyData) (h : ∀ d ∈ ds, d.canLay0 = true) : PyData.canLayAll0 ds = true := by
  induction ds with
  | nil => simp [PyData.canLayAll0]
  | cons d ds ih =>
    simp only [PyData.canLayAll0, Bool.and_eq_true]
    exact ⟨h d List.mem_cons_self, ih fun x hx => h x (List.mem_cons_of_mem _ hx)⟩
theorem depthAll_le {n : Nat} (ds : List PyData) (h : ∀ d ∈ ds, d.depth ≤ n) : PyData.depthAll ds ≤ n := by
  induction ds with
  | nil => simp [PyData.depthAll]
  | cons d ds ih =>
    simp only [PyData.depthAll]
    have h1 := h d List.mem_cons_self
    have h2 := ih fun x hx => h x (List.mem_cons_of_mem _ hx)
    omega
theorem plN_can : ∀ {n : Nat} {d : D}, plN n d → d.py.canLay0 = true ∧ d.py.depth ≤ n + 1
  | 0, d, h => by
    obtain ⟨i, rfl⟩ := h
    simp [D.py, PyData.canLay0, PyData.depth]
  | n + 1, d, h => by
    rcases h with ⟨i, rfl⟩ | ⟨xs, h | h, hx⟩
    · simp [D.py, PyData.canLay0, PyData.depth]
    all_goals
      subst h
      have h1 := canAll (D.pys xs) (by
        rw [pys_eq]
        intro d hd
        obtain ⟨x, hx1, rfl⟩ := List.mem_map.mp hd
        exact (plN_can (hx x hx1)).1)
      have h2 := depthAll_le (n := n + 1) (D.pys xs) (by
        rw [pys_eq]
        intro d hd
        obtain ⟨x, hx1, rfl⟩ := List.mem_map.mp hd
        exact (plN_can (hx x hx1)).2)
      simp only [D.py, PyData.canLay0, PyData.depth]
      exact ⟨h1, by omega⟩
theorem plN_dat {n : Nat} {d : D} (h : plN n d) (hn : n ≤ 60) : d.dat = true := by
  obtain ⟨h1, h2⟩ := plN_can h
  unfold D.dat SeqAt.shaped
  rw [h1, decide_eq_true (by omega : d.py.depth ≤ 64)]
  rfl
theorem eqv_all {n : Nat} (ih : ∀ a b : D, plN n a → plN n b → (PyData.eqv a.py b.py = true ↔ a = b)) : ∀ xs ys : List D, (∀ x ∈ xs, plN n x) → (∀ y ∈ ys, plN n y) → (PyData.eqvAll (D.pys xs) (D.pys ys) = true ↔ xs = ys)
  | [], [], _, _ => by simp [D.pys, PyData.eqvAll]
  | [], y :: ys, _, _ => by simp [D.pys, PyData.eqvAll]
  | x :: xs, [], _, _ => by simp [D.pys, PyData.eqvAll]
  | x :: xs, y :: ys, h1, h2 => by
    simp only [D.pys, PyData.eqvAll, Bool.and_eq_true]
    rw [ih x y (h1 x List.mem_cons_self) (h2 y List.mem_cons_self), eqv_all ih xs ys (fun z hz => h1 z (List.mem_cons_of_mem _ hz)) (fun z hz => h2 z (List.mem_cons_of_mem _ hz))]
    simp
theorem eqv_pl : ∀ {n : Nat} (a b : D), plN n a → plN n b → (PyData.eqv a.py b.py = true ↔ a = b)
  | 0, a, b, h1, h2 => by
    obtain ⟨i, rfl⟩ := h1
    obtain ⟨j, rfl⟩ := h2
    simp [D.py, PyData.eqv]
  | n + 1, a, b, h1, h2 => by
    rcases h1 with ⟨i, rfl⟩ | ⟨xs, rfl | rfl, hx⟩ <;> rcases h2 with ⟨j, rfl⟩ | ⟨ys, rfl | rfl, hy⟩ <;> simp only [D.py, PyData.eqv]
    · simp
    · simp
    · simp
    · simp
    · rw [eqv_all (fun a b => eqv_pl a b) xs ys hx hy]; simp
    · simp
    · simp
    · simp
    · rw [eqv_all (fun a b => eqv_pl a b) xs ys hx hy]; simp
noncomputable instance : DecidableEq D := Classical.typeDecidableEq D
theorem eqv_pl' {n : Nat} {a b : D} (h1 : plN n a) (h2 : plN n b) : PyData.eqv a.py b.py = decide (a = b) := by
  by_cases e : a = b
  · rw [decide_eq_true e, (eqv_pl a b h1 h2).mpr e]
  · rw [decide_eq_false e]
    cases q : PyData.eqv a.py b.py with
    | false => rfl
    | true => exact absurd ((eqv_pl a b h1 h2).mp q) e
theorem gEq_pl {n : Nat} {a b : D} (h1 : plN n a) (h2 : plN n b) (hn : n ≤ 60 := by decide) : gEq a b = some (.bl (decide (a = b))) := by
  unfold gEq
  rw [if_pos ⟨plN_dat h1 hn, plN_dat h2 hn⟩, eqv_pl' h1 h2]
theorem gNe_pl {n : Nat} {a b : D} (h1 : plN n a) (h2 : plN n b) (hn : n ≤ 60 := by decide) : gNe a b = some (.bl (!decide (a = b))) := by
  unfold gNe
  rw [if_pos ⟨plN_dat h1 hn, plN_dat h2 hn⟩, eqv_pl' h1 h2]
@[simp] theorem gEq_int (i j : Int) : gEq (.int i) (.int j) = some (.bl (decide (i = j))) := by
  rw [gEq_pl (plN_int 0 i) (plN_int 0 j)]
  simp
@[simp] theorem gNe_int (i j : Int) : gNe (.int i) (.int j) = some (.bl (!decide (i = j))) := by
  rw [gNe_pl (plN_int 0 i) (plN_int 0 j)]
  simp
@[simp] theorem gEq_bl (i j : Bool) : gEq (.bl i) (.bl j) = some (.bl (i == j)) := by
  cases i <;> cases j <;> rfl
@[simp] theorem gNe_bl (i j : Bool) : gNe (.bl i) (.bl j) = some (.bl (i != j)) := by
  cases i <;> cases j <;> rfl
theorem any_eqv {n : Nat} {x : D} (h1 : plN n x) : ∀ {ds : List D}, (∀ d ∈ ds, plN n d) → ((D.pys ds).any fun z => PyData.eqv z x.py) = decide (x ∈ ds)
  | [], _ => by simp [D.pys]
  | d :: ds, h => by
    rw [D.pys, List.any_cons, any_eqv h1 fun z hz => h z (List.mem_cons_of_mem _ hz), eqv_pl' (h d List.mem_cons_self) h1]
    by_cases e : d = x
    · simp [e]
    · have e' : ¬ x = d := fun z => e z.symm
      simp [e, e']
theorem gIn_pl {n : Nat} {x : D} {ds : List D} (h1 : plN n x) (h2 : ∀ d ∈ ds, plN n d) (hn : n ≤ 59 := by decide) : inB x (.lst ds) = some (decide (x ∈ ds)) := by
  unfold inB
  simp only
  rw [if_pos ⟨plN_dat h1 (by omega), plN_dat (plN_lst h2) (by omega)⟩, any_eqv h1 h2]
/-- the first place -/
theorem idx_pl {n : Nat} {x : D} (h1 : plN n x) : ∀ {ds : List D}, (∀ d ∈ ds, plN n d) → x ∈ ds → idxD x.py (D.pys ds) = some (ds.idxOf x)
  | [], _, h => by cases h
  | d :: ds, h, hm => by
    rw [D.pys, idxD, eqv_pl' (h d List.mem_cons_self) h1, List.idxOf_cons]
    by_cases e : d = x
    · simp [e]
    · have e' : (d == x) = false := by simpa using e
      have hm' : x ∈ ds := (List.mem_cons.mp hm).resolve_left fun z => e z.symm
      rw [idx_pl h1 (fun z hz => h z (List.mem_cons_of_mem _ hz)) hm']
      simp [e, e']
end VL
set_option Elab.async false
set_option linter.all false
set_option maxRecDepth 100000
set_option maxHeartbeats 4000000
namespace VL
open PySem L2
/-! ### the combinators, applied -/
section
variable {f g h i : DF} {ρ : Env'} {fo go : OF} {ag bg : LF} {t u : BF} {s s' : SF}
@[simp] theorem ap_dVar (i : Nat) : dVar i ρ = match ρ[i]? with
  | some (some (.fz d)) => some (d, ρ)
  | _ => none := (rfl)
@[simp] theorem ap_dFz (i : Nat) : dFz i ρ = match ρ[i]? with
  | some (some o) => some (o.freeze, ρ.set i (some (.fz o.freeze)))
  | _ => none := (rfl)
@[simp] theorem ap_dMove (i : Nat) : dMove i ρ = match ρ[i]? with
  | some (some o) => some (o, ρ.set i none)
  | _ => none := (rfl)
@[simp] theorem ap_dC (d : D) : dC d ρ = some (d, ρ) := (rfl)
@[simp] theorem ap_d2 (k : D → D → Option D) : d2 k f h ρ = (f ρ).bind fun p => (h p.2).bind fun q => (k p.1 q.1).map fun c => (c, q.2) := (rfl)
@[simp] theorem ap_n2 (k : D → D → Option O) : n2 k f h ρ = (f ρ).bind fun p => (h p.2).bind fun q => (k p.1 q.1).map fun c => (c, q.2) := (rfl)
@[simp] theorem ap_d1 (k : D → Option D) : d1 k f ρ = (f ρ).bind fun p => (k p.1).map fun c => (c, p.2) := (rfl)
@[simp] theorem ap_dA (k : List D → Option D) : dA k ag ρ = (ag ρ).bind fun p => (k p.1).map fun c => (c, p.2) := (rfl)
@[simp] theorem ap_nA (k : List D → Option O) : nA k ag ρ = (ag ρ).bind fun p => (k p.1).map fun c => (c, p.2) := (rfl)
@[simp] theorem ap_aNil : aNil ρ = some ([], ρ) := (rfl)
@[simp] theorem ap_aCons : aCons f ag ρ = (f ρ).bind fun p => (ag p.2).map fun q => (p.1 :: q.1, q.2) := (rfl)
@[simp] theorem ap_toD : toD fo ρ = (fo ρ).map fun p => (p.1.freeze, p.2) := (rfl)
@[simp] theorem ap_toO : toO f ρ = (f ρ).map fun p => (.fz p.1, p.2) := (rfl)
@[simp] theorem ap_bD : bD f ρ = (f ρ).bind fun p => (p.1.truth).map fun b => (b, p.2) := (rfl)
@[simp] theorem ap_bAnd : bAnd t u ρ = (t ρ).bind fun p => if p.1 then u p.2 else some (false, p.2) := (rfl)
@[simp] theorem ap_bOr : bOr t u ρ = (t ρ).bind fun p => if p.1 then some (true, p.2) else u p.2 := (rfl)
@[simp] theorem ap_bNot : bNot t ρ = (t ρ).map fun p => (!p.1, p.2) := (rfl)
@[simp] theorem ap_dAnd : dAnd f g ρ = (f ρ).bind fun p => (p.1.truth).bind fun b => if b then g p.2 else some (.bl false, p.2) := (rfl)
@[simp] theorem ap_dOr : dOr f g ρ = (f ρ).bind fun p => (p.1.truth).bind fun b => if b then some (.bl true, p.2) else g p.2 := (rfl)
@[simp] theorem ap_dNot : dNot f ρ = (f ρ).bind fun p => (p.1.truth).map fun b => (.bl (!b), p.2) := (rfl)
@[simp] theorem ap_dIf : dIf t f g ρ = (t ρ).bind fun p => if p.1 then f p.2 else g p.2 := (rfl)
@[simp] theorem ap_dChain (k k' : D → D → Option D) : dChain k k' f h i ρ = (f ρ).bind fun p => (h p.2).bind fun q => (k p.1 q.1).bind fun z => (z.truth).bind fun b =>
  if b then (i q.2).bind fun r => (k' q.1 r.1).bind fun z2 => (z2.truth).map fun k2 => (.bl k2, r.2) else some (.bl false, q.2) := (rfl)
@[simp] theorem ap_bYes : bYes ρ = some (true, ρ) := (rfl)
@[simp] theorem truth_bl (b : Bool) : (D.bl b).truth = some b := (rfl)
@[simp] theorem toInt_int (b : Int) : (D.int b).toInt = some b := (rfl)
@[simp] theorem fz_fz (d : D) : (O.fz d).freeze = d := by rw [O.freeze]
theorem freezes_fz : ∀ ds : List D, O.freezes (ds.map .fz) = ds
  | [] => by rw [List.map_nil, O.freezes]
  | d :: ds => by rw [List.map_cons, O.freezes, freezes_fz ds, fz_fz]
@[simp] theorem fz_lst (ds : List D) : (O.lst (ds.map .fz)).freeze = .lst ds := by rw [O.freeze, freezes_fz]
@[simp] theorem fz_lst' (os : List O) : (O.lst os).freeze = .lst (O.freezes os) := by rw [O.freeze]
@[simp] theorem freezes_nil : O.freezes [] = [] := by rw [O.freezes]
@[simp] theorem freezes_cons (o : O) (os : List O) : O.freezes (o :: os) = o.freeze :: O.freezes os := by rw [O.freezes]
@[simp] theorem freezes_map (ds : List D) : O.freezes (ds.map .fz) = ds := freezes_fz ds
@[simp] theorem freezes_comp {α : Type} (k : α → D) (xs : List α) : O.freezes (xs.map (O.fz ∘ k)) = xs.map k := by rw [← List.map_map, freezes_fz]
@[simp] theorem freezes_fun {α : Type} (k : α → D) (xs : List α) : O.freezes (xs.map fun x => O.fz (k x)) = xs.map k := freezes_comp k xs
@[simp] theorem ap_sNil : sNil ρ = some (.nx, ρ) := (rfl)
@[simp] theorem ap_sPass : sPass ρ = some (.nx, ρ) := (rfl)
@[simp] theorem ap_sSeq : sSeq s s' ρ = (s ρ).bind fun p => match p.1 with
  | .nx => s' p.2
  | o => some (o, p.2) := (rfl)
@[simp] theorem ap_sExpr : sExpr f ρ = (f ρ).map fun p => (.nx, p.2) := (rfl)
@[simp] theorem ap_sRet : sRet fo ρ = (fo ρ).map fun p => (.rt p.1, p.2) := (rfl)
@[simp] theorem ap_sRetN : sRetN ρ = some (.rt (.fz .non), ρ) := (rfl)
@[simp] theorem ap_sIf : sIf t s s' ρ = (t ρ).bind fun p => if p.1 then s p.2 else s' p.2 := (rfl)
@[simp] theorem ap_gN (i : Nat) (d : D) : gN i d ρ = some (ρ.set i (some (.fz d))) := (rfl)
@[simp] theorem ap_gsNil : gsNil [] ρ = some ρ := (rfl)
@[simp] theorem ap_gsCons (k : GF) (l : List D → Env' → Option Env') (d : D) (ds : List D) : gsCons k l (d :: ds) ρ = (k d ρ).bind fun ρ1 => l ds ρ1 := (rfl)
@[simp] theorem ap_gTu (n : Nat) (l : List D → Env' → Option Env') (ds : List D) : gTu n l (.tup ds) ρ = if ds.length = n then l ds ρ else none := (rfl)
@[simp] theorem ap_sAsg (k : GF) : sAsg f k ρ = (f ρ).bind fun p => (k p.1 p.2).map fun ρ' => (.nx, ρ') := (rfl)
@[simp] theorem ap_sSetN (i : Nat) : sSetN i fo ρ = (fo ρ).map fun p => (.nx, p.2.set i (some p.1)) := (rfl)
@[simp] theorem ap_sFrz (i : Nat) : sFrz i s ρ = (s ρ).map fun p => match p.1, p.2[i]? with
  | .nx, some (some o) => (.nx, p.2.set i (some (.fz o.freeze)))
  | _, _ => p := (rfl)
@[simp] theorem ap_dIxV (i : Nat) : dIxV i h ρ = match ρ[i]? with
  | some (some _) => (h ρ).bind fun q => match q.2[i]? with
    | some (some o) => (ixO o q.1).map fun d => (d, q.2)
    | _ => none
  | _ => none := (rfl)
@[simp] theorem ap_dLenV (i : Nat) : dLenV i ρ = match ρ[i]? with
  | some (some o) => (lenO o).map fun n => (.int n, ρ)
  | _ => none := (rfl)
@[simp] theorem ap_dInV (b : Bool) (i : Nat) : dInV b f i ρ = (f ρ).bind fun p => match p.2[i]? with
  | some (some o) => (inB p.1 o.freeze).map fun c => (.bl (if b then !c else c), p.2)
  | _ => none := (rfl)
@[simp] theorem ap_sSetI (i : Nat) : sSetI i f g ρ = (g ρ).bind fun p => match p.2[i]? with
  | some (some _) => (f p.2).bind fun q => match q.2[i]? with
    | some (some o) => (setO o q.1 p.1).map fun o' => (.nx, q.2.set i (some o'))
    | _ => none
  | _ => none := (rfl)
@[simp] theorem ap_sSetF (i : Nat) (cn fn : Str) : sSetF i cn fn f ρ = (f ρ).bind fun p => match p.2[i]? with
  | some (some (.ins c fs)) => if c = cn ∧ fs.length < 1000 then some (.nx, p.2.set i (some (.ins c (putS fn (.fz p.1) fs)))) else none
  | _ => none := (rfl)
@[simp] theorem ap_dMet (i : Nat) (m : MFn) : dMet i m ag ρ = match ρ[i]? with
  | some (some (.lst _)) => (ag ρ).bind fun q => match q.2[i]? with
    | some (some (.lst os)) => (m os q.1).map fun r => (r.1, q.2.set i (some (.lst r.2)))
    | _ => none
  | _ => none := (rfl)
@[simp] theorem ap_mApp (os : List O) (d : D) : mApp os [d] = if os.length < lim then some (.non, os ++ [.fz d]) else none := (rfl)
@[simp] theorem ap_mOwn (i : Nat) : mOwn i ag ρ = match ρ[i]? with
  | some (some _) => (ag ρ).map fun q => (([], q.1), q.2)
  | _ => none := (rfl)
theorem cal1_ap {p i : Nat} {F : FF} {m : MF} : cal1 p i F m ρ = (m ρ).bind fun a => match a.2[i]? with
  | some (some o) => if a.1.1.length = p then (match F (a.1.1.map .fz ++ o :: a.1.2.map .fz) with
      | some (r, [o']) => some (r, a.2.set i (some o'))
      | _ => none) else none
  | _ => none := (rfl)
@[simp] theorem ap_iSeq : iSeq f ρ = (f ρ).bind fun p => (dItems p.1).map fun ds => (ds, p.2) := (rfl)
@[simp] theorem ap_iRg (k : List D → Option (List D)) : iRg k ag ρ = (ag ρ).bind fun p => (k p.1).map fun ds => (ds, p.2) := (rfl)
@[simp] theorem ap_iEnum : iEnum f ρ = (f ρ).bind fun p => (kindD p.1).map fun z => (enumD 0 z.2, p.2) := (rfl)
@[simp] theorem ap_iZip : iZip f g ρ = (f ρ).bind fun p => (g p.2).bind fun q => (kindD p.1).bind fun z1 => (kindD q.1).map fun z2 => (zipD z1.2 z2.2, q.2) := (rfl)
@[simp] theorem items_lst (ds : List D) : dItems (.lst ds) = some ds := (rfl)
@[simp] theorem items_tup (ds : List D) : dItems (.tup ds) = some ds := (rfl)
@[simp] theorem items_scr (ds : List D) : dItems (.scr ds) = some ds := (rfl)
@[simp] theorem kind_lst (ds : List D) : kindD (.lst ds) = some (.l, ds) := (rfl)
@[simp] theorem kind_tup (ds : List D) : kindD (.tup ds) = some (.t, ds) := (rfl)
theorem sFor_ap {k : GF} {it : IF} : sFor it k s ρ = (it ρ).bind fun p => forL k s p.1 p.2 := (rfl)
theorem nLc_ap {n : Nat} {vs : List Nat} {it : IF} {k : GF} : nLc n vs it k t f ρ = (it ρ).bind fun p => if p.1.length ≤ lim then (compL n vs k t f p.1 p.2).map fun r => (.lst (r.1.map .fz), r.2) else none := (rfl)
@[simp] theorem gLt_int (a b : Int) : gLt (.int a) (.int b) = some (.bl (decide (a < b))) := (rfl)
@[simp] theorem gLe_int (a b : Int) : gLe (.int a) (.int b) = some (.bl (decide (a ≤ b))) := (rfl)
@[simp] theorem gGt_int (a b : Int) : gGt (.int a) (.int b) = some (.bl (decide (b < a))) := (rfl)
@[simp] theorem gGe_int (a b : Int) : gGe (.int a) (.int b) = some (.bl (decide (b ≤ a))) := (rfl)
@[simp] theorem gSub_int (a b : Int) : gSub (.int a) (.int b) = some (.int (a - b)) := (rfl)
@[simp] theorem gAdd_int (a b : Int) : gAdd (.int a) (.int b) = some (.int (a + b)) := (rfl)
@[simp] theorem gAdd_lst (a b : List D) : gAdd (.lst a) (.lst b) = if a.length + b.length ≤ lim then some (.lst (a ++ b)) else none := (rfl)
@[simp] theorem gMod_int (a b : Int) : gMod (.int a) (.int b) = if 0 < b then some (.int (a % b)) else none := (rfl)
@[simp] theorem gDiv_int (a b : Int) : gDiv (.int a) (.int b) = if 0 < b ∧ b < 1073741824 then some (.int (a / b)) else none := (rfl)
theorem gMul_int (a b : Int) (h : (-(2 ^ 64) < a ∧ a < 2 ^ 64) ∨ (-(2 ^ 64) < b ∧ b < 2 ^ 64)) : gMul (.int a) (.int b) = some (.int (a * b)) := by
  unfold gMul
  first | exact if_pos h | (simp only; exact if_pos h)
@[simp] theorem gTup_ap (ds : List D) : gTup' ds = if ds.length ≤ lim then some (.tup ds) else none := (rfl)
@[simp] theorem gLst_ap (ds : List D) : gLst' ds = if ds.length ≤ lim then some (.lst (ds.map .fz)) else none := (rfl)
@[simp] theorem gTuple_lst (ds : List D) : gTuple [.lst ds] = some (.tup ds) := (rfl)
@[simp] theorem gTuple_tup (ds : List D) : gTuple [.tup ds] = some (.tup ds) := (rfl)
@[simp] theorem gLen_lst (ds : List D) : gLen [.lst ds] = some (.int ds.length) := (rfl)
@[simp] theorem gLen_tup (ds : List D) : gLen [.tup ds] = some (.int ds.length) := (rfl)
@[simp] theorem gLen_scr (ds : List D) : gLen [.scr ds] = some (.int ds.length) := (rfl)
@[simp] theorem gIx_lst (ds : List D) (i : Int) : gIx (.lst ds) (.int i) = atI ds i := (rfl)
@[simp] theorem gIx_tup (ds : List D) (i : Int) : gIx (.tup ds) (.int i) = atI ds i := (rfl)
@[simp] theorem gIx_scr (ds : List D) (i : Int) : gIx (.scr ds) (.int i) = atI ds i := (rfl)
@[simp] theorem gIx_dT (kvs : List (List Key × D)) (ks : List D) : gIx (.dT kvs) (.tup ks) = (keysD ks).bind fun k => valD kvs k := (rfl)
@[simp] theorem ixO_lst (os : List O) (i : Int) : ixO (.lst os) (.int i) = (atI os i).bind O.data := (rfl)
@[simp] theorem ixO_fz (d k : D) : ixO (.fz d) k = gIx d k := (rfl)
@[simp] theorem data_fz (d : D) : (O.fz d).data = some d := (rfl)
@[simp] theorem lenO_lst (os : List O) : lenO (.lst os) = some os.length := (rfl)
@[simp] theorem lenO_flst (os : List D) : lenO (.fz (.lst os)) = some os.length := (rfl)
@[simp] theorem lenO_ftup (os : List D) : lenO (.fz (.tup os)) = some os.length := (rfl)
@[simp] theorem setO_lst (os : List O) (j : Int) (d : D) : setO (.lst os) (.int j) d = (ixN os.length j).map fun jj => .lst (os.set jj (.fz d)) := (rfl)
theorem ixN_nat {n k : Nat} (h : k < n) : ixN n (k : Int) = some k := by
  unfold ixN
  rw [if_pos (by omega), if_pos (by omega)]
  simp
theorem atI_nat {α : Type} (xs : List α) (k : Nat) : atI xs (k : Int) = xs[k]? := by
  unfold atI
  by_cases h : k < xs.length
  · rw [ixN_nat h]; rfl
  · unfold ixN
    rw [if_pos (by omega), if_neg (by omega), List.getElem?_eq_none (by omega)]
    rfl
@[simp] theorem atI_0 {α : Type} (x : α) (xs : List α) : atI (x :: xs) 0 = some x := atI_nat (x :: xs) 0
@[simp] theorem atI_1 {α : Type} (x y : α) (xs : List α) : atI (x :: y :: xs) 1 = some y := atI_nat (x :: y :: xs) 1
@[simp] theorem atI_2 {α : Type} (x y z : α) (xs : List α) : atI (x :: y :: z :: xs) 2 = some z := atI_nat (x :: y :: z :: xs) 2
@[simp] theorem fin_rt (P : List Nat) (r : O) : fin P (some (.rt r, ρ)) = (outs ρ P).map fun os' => (r, os') := (rfl)
@[simp] theorem fin_nx (P : List Nat) : fin P (some (.nx, ρ)) = (outs ρ P).map fun os' => (.fz .non, os') := (rfl)
@[simp] theorem outs_nil : outs ρ [] = some [] := (rfl)
@[simp] theorem outs_cons (i : Nat) (P : List Nat) : outs ρ (i :: P) = match ρ[i]? with
    | some (some o) => (outs ρ P).map (o :: ·)
    | _ => none := (rfl)
@[simp] theorem cal_ap (F : FF) (ds : List D) : cal F ds = (F (ds.map .fz)).map (·.1) := (rfl)
end
/-! ### loops -/
theorem forL_nil (g : GF) (b : SF) (ρ : Env') : forL g b [] ρ = some (.nx, ρ) := (rfl)
theorem forL_cons (g : GF) (b : SF) (d : D) (ds : List D) (ρ : Env') : forL g b (d :: ds) ρ = (g d ρ).bind fun ρ1 => (b ρ1).bind fun q => match q.1 with
      | .nx => forL g b ds q.2
      | .ct => forL g b ds q.2
      | .bk => some (.nx, q.2)
      | .rt o => some (.rt o, q.2) := (rfl)
/-- a loop with an invariant -/
theorem forL_inv {g : GF} {b : SF} {ds : List D} (I : Nat → Env' → Prop) {ρ : Env'} (h0 : I 0 ρ) (hs : ∀ (i : Nat) (d : D) (ρ : Env'), ds[i]? = some d → I i ρ → ∃ ρ1 ρ2, g d ρ = some ρ1 ∧ b ρ1 = some (.nx, ρ2) ∧ I (i + 1) ρ2) :
    ∃ ρ', forL g b ds ρ = some (.nx, ρ') ∧ I ds.length ρ' := by
  induction ds generalizing ρ I with
  | nil => exact ⟨ρ, rfl, h0⟩
  | cons d ds ih =>
    obtain ⟨ρ1, ρ2, e1, e2, h1⟩ := hs 0 d ρ rfl h0
    obtain ⟨ρ', e3, h3⟩ := ih (fun i => I (i + 1)) h1 fun i d' ρ' hd hI => hs (i + 1) d' ρ' (by simpa using hd) hI
    refine ⟨ρ', ?_, by simpa using h3⟩
    rw [forL_cons, e1]
    simp only [Option.bind_some, e2, e3]
theorem compL_cons (n : Nat) (vs : List Nat) (g : GF) (t : BF) (e : DF) (d : D) (ds : List D) (ρ : Env') : compL n vs g t e (d :: ds) ρ = if ρ.length = n then (g d (wipeE ρ vs)).bind fun ρ1 => (t ρ1).bind fun p => if p.1 then (e p.2).bind fun q => (compL n vs g t e ds (unwipe ρ q.2 vs)).map fun r => (q.1 :: r.1, r.2)
      else compL n vs g t e ds (unwipe ρ p.2 vs) else none := (rfl)
/-- .. that carries a state along: I i what stands behind the i-th -/
theorem compL_inv {n : Nat} {vs : List Nat} {g : GF} {t : BF} {e : DF} {ds : List D} (I : Nat → Env' → List D → Prop) {ρ : Env'} (h0 : I 0 ρ []) (hs : ∀ (i : Nat) (d : D) (ρ : Env') (acc : List D), ds[i]? = some d → I i ρ acc → ρ.length = n ∧ ∃ ρ1 ρ2 ρ3 z, g d (wipeE ρ vs) = some ρ1 ∧ t ρ1 = some (true, ρ2) ∧ e ρ2 = some (z, ρ3) ∧ I (i + 1) (unwipe ρ ρ3 vs) (acc ++ [z])) :
    ∃ all ρ', compL n vs g t e ds ρ = some (all, ρ') ∧ I ds.length ρ' all := by
  have key : ∀ (ds : List D) (I : Nat → Env' → List D → Prop) (ρ : Env') (acc : List D), I 0 ρ acc → (∀ (i : Nat) (d : D) (ρ : Env') (acc : List D), ds[i]? = some d → I i ρ acc → ρ.length = n ∧ ∃ ρ1 ρ2 ρ3 z, g d (wipeE ρ vs) = some ρ1 ∧ t ρ1 = some (true, ρ2) ∧ e ρ2 = some (z, ρ3) ∧ I (i + 1) (unwipe ρ ρ3 vs) (acc ++ [z])) →
      ∃ all ρ', compL n vs g t e ds ρ = some (all, ρ') ∧ I ds.length ρ' (acc ++ all) := by
    intro ds
    induction ds with
    | nil => exact fun I ρ acc h0 _ => ⟨[], ρ, rfl, by rw [List.append_nil]; exact h0⟩
    | cons d ds ih =>
      intro I ρ acc h0 hs
      obtain ⟨hn, ρ1, ρ2, ρ3, z, e1, e2, e3, h1⟩ := hs 0 d ρ acc rfl h0
      obtain ⟨all, ρ', e4, h4⟩ := ih (fun i => I (i + 1)) _ _ h1 fun i d' ρ' acc' hd hI => hs (i + 1) d' ρ' acc' (by simpa using hd) hI
      refine ⟨z :: all, ρ', ?_, by rw [List.append_assoc] at h4; simpa using h4⟩
      rw [compL_cons, if_pos hn, e1]
      simp only [Option.bind_some, e2, e3, e4, if_true, Option.map_some]
  obtain ⟨all, ρ', h1, h2⟩ := key ds I ρ [] h0 hs
  exact ⟨all, ρ', h1, by simpa using h2⟩

/-! ### parts that leave the frame as it is -/
section
variable {f g h i : DF} {ρ : Env'} {t u : BF} {s s' : SF} {x y : Bool}
theorem bAnd_pure (h1 : t ρ = some (x, ρ)) (h2 : u ρ = some (y, ρ)) : bAnd t u ρ = some (x && y, ρ) := by
  rw [ap_bAnd, h1]; cases x <;> simp [h2]
theorem bOr_pure (h1 : t ρ = some (x, ρ)) (h2 : u ρ = some (y, ρ)) : bOr t u ρ = some (x || y, ρ) := by
  rw [ap_bOr, h1]; cases x <;> simp [h2]
theorem bNot_pure (h1 : t ρ = some (x, ρ)) : bNot t ρ = some (!x, ρ) := by
  rw [ap_bNot, h1]; rfl
theorem bD_pure (h1 : f ρ = some (.bl x, ρ)) : bD f ρ = some (x, ρ) := by
  rw [ap_bD, h1]; rfl
theorem d2_pure {k : D → D → Option D} {a b c : D} (h1 : f ρ = some (a, ρ)) (h2 : h ρ = some (b, ρ)) (h3 : k a b = some c) : d2 k f h ρ = some (c, ρ) := by
  rw [ap_d2, h1]; simp [h2, h3]
theorem sIf_pure (h1 : t ρ = some (x, ρ)) : sIf t s s' ρ = if x = true then s ρ else s' ρ := by
  rw [ap_sIf, h1]; rfl
theorem dAnd_pure (h1 : f ρ = some (.bl x, ρ)) (h2 : g ρ = some (.bl y, ρ)) : dAnd f g ρ = some (.bl (x && y), ρ) := by
  rw [ap_dAnd, h1]; cases x <;> simp [h2]
end
end VL
set_option Elab.async false
set_option linter.all false
set_option maxRecDepth 100000
set_option maxHeartbeats 4000000
namespace VL
open PySem L2
/-! ### the drawing -/
def stO (v : Int) (b : Bool) : O := .lst [.fz (.int v), .fz (.bl b)]
def StOk (o : O) : Prop := ∃ v b, o = stO v b ∧ 0 ≤ v ∧ (b = false → v < 2147483647)
theorem take_ok {o : O} {m : Int} (h : StOk o) (h1 : 1 ≤ m) (h2 : m ≤ 1000) : ∃ r o', f__law_take [o, .fz (.int m)] = some (.fz (.int r), [o']) ∧ 0 ≤ r ∧ r < m ∧ StOk o' := by
  obtain ⟨v, b, rfl, hv, hb⟩ := h
  have hm0 : 0 < m := by omega
  have hm1 : m < 1073741824 := by omega
  rw [fx__law_take]
  unfold b__law_take stO
  cases b with
  | true =>
    refine ⟨v % m, stO (v / m) true, ?_, Int.emod_nonneg _ (by omega), Int.emod_lt_of_pos _ hm0, v / m, true, rfl, Int.ediv_nonneg hv (by omega), (by simp)⟩
    simp [hm0, hm1, ixN, stO]
  | false =>
    have hv2 := hb rfl
    have g1 : gMul (.int v) (.int 48271) = some (.int (v * 48271)) := gMul_int _ _ (.inr (by decide))
    have n1 : 0 ≤ (v * 48271 + 29) % 2147483647 := Int.emod_nonneg _ (by decide)
    have n2 : (v * 48271 + 29) % 2147483647 < 2147483647 := Int.emod_lt_of_pos _ (by decide)
    generalize hw : (v * 48271 + 29) % 2147483647 = w at n1 n2
    have g2 : gMul (.int w) (.int w) = some (.int (w * w)) := gMul_int _ _ (.inr (by omega))
    have g3 : gMul (.int 39373) (.int w) = some (.int (39373 * w)) := gMul_int _ _ (.inl (by decide))
    have n3 : 0 ≤ (w * w + 39373 * w + 7) % 2147483629 := Int.emod_nonneg _ (by decide)
    have n4 : (w * w + 39373 * w + 7) % 2147483629 < 2147483629 := Int.emod_lt_of_pos _ (by decide)
    generalize hx : (w * w + 39373 * w + 7) % 2147483629 = x at n3 n4
    have g4 : gMul (.int x) (.int x) = some (.int (x * x)) := gMul_int _ _ (.inr (by omega))
    have g5 : gMul (.int 16807) (.int x) = some (.int (16807 * x)) := gMul_int _ _ (.inl (by decide))
    refine ⟨(x * x + 16807 * x) % 2147483587 / 8 % m, stO w false, ?_, Int.emod_nonneg _ (by omega), Int.emod_lt_of_pos _ hm0, w, false, rfl, n1, (by intro _; omega)⟩
    simp [hm0, hm1, ixN, stO, g1, hw, g2, g3, hx, g4, g5]
theorem cell_ok (ns : List Int) (k : Nat) : ∃ c, f__law_cell_at [.fz (.scr (ns.map .int)), .fz (.int (k : Int))] = some (.fz (.int c), []) := by
  rw [fx__law_cell_at]
  unfold b__law_cell_at
  by_cases h : k < ns.length
  · refine ⟨ns[k], ?_⟩
    simp [h, atI_nat]
  · refine ⟨0, ?_⟩
    simp [h]
theorem state_ok (ns : List Int) (k : Nat) : ∃ o, f__law_state [.fz (.scr (ns.map .int)), .fz (.int (k : Int))] = some (o, []) ∧ StOk o := by
  obtain ⟨c, hc⟩ := cell_ok ns k
  rw [fx__law_state]
  unfold b__law_state
  have hp : gPow (.int 10) (.int 18) = some (.int 1000000000000000000) := rfl
  by_cases h : 1000000000000000000 ≤ c
  · refine ⟨stO (c - 1000000000000000000) true, ?_, c - 1000000000000000000, true, rfl, by omega, by simp⟩
    simp [hc, hp, h, stO, lim]
  · refine ⟨stO (c % 2147483647) false, ?_, c % 2147483647, false, rfl, Int.emod_nonneg _ (by decide), fun _ => Int.emod_lt_of_pos _ (by decide)⟩
    have h' : ¬ (1000000000000000000 ≤ c) := by omega
    simp [hc, hp, h', stO, lim]
end VL
set_option Elab.async false
set_option linter.all false
set_option maxRecDepth 100000
set_option maxHeartbeats 4000000
namespace VL
open PySem L2
abbrev nD (n : Nat) : D := .int (n : Int)
structure Fn where
  a : Nat
  b : Nat
  r : List Nat
deriving DecidableEq
def Fn.en (t : Fn) : D := .tup [nD t.a, nD t.b, .tup (t.r.map nD)]
structure Ty (sz : Nat → Nat) (t : Fn) : Prop where
  ha : t.a < 3
  hb : t.b < 3
  hl : t.r.length = sz t.a
  hr : ∀ x ∈ t.r, x < sz t.b
def SzOk (sz : Nat → Nat) : Prop := ∀ k, 1 ≤ sz k ∧ sz k ≤ 4
theorem take_nat {o : O} (m : Int) (h : StOk o) (h1 : 1 ≤ m := by omega) (h2 : m ≤ 1000 := by omega) : ∃ (r : Nat) (o' : O), f__law_take [o, .fz (.int m)] = some (.fz (nD r), [o']) ∧ (r : Int) < m ∧ StOk o' := by
  obtain ⟨r, o', e, h3, h4, h5⟩ := take_ok h h1 h2
  refine ⟨r.toNat, o', ?_, by omega, h5⟩
  rw [e]
  have : ((r.toNat : Nat) : Int) = r := by omega
  unfold nD
  rw [this]
theorem rgD_get {n i : Nat} {d : D} (h : (rgD 0 n)[i]? = some d) : i < n ∧ d = nD i := by
  unfold rgD at h
  rw [List.getElem?_map] at h
  cases q : (List.range n)[i]? with
  | none => rw [q] at h; cases h
  | some j =>
    rw [q] at h
    obtain ⟨h1, h2⟩ := List.getElem?_eq_some_iff.mp q
    simp at h1 h2
    subst h2
    cases h
    exact ⟨h1, by simp⟩
@[simp] theorem rgD_len (n : Nat) : (rgD 0 n).length = n := by simp [rgD]
theorem gRg_nat {n : Nat} (h : n ≤ 1000000) : gRg1 [nD n] = some (rgD 0 n) := by
  show (if (n : Int) ≤ big ∧ -big ≤ (n : Int) then some (rgD 0 (n : Int).toNat) else none) = _
  rw [if_pos (by unfold big; omega)]
  simp
theorem begun_1 {o w : O} {K : Nat} (h : StOk o) : ∃ (o' : O) (szs : List Nat), compL 14 [8] (gN 8) bYes e__law_begun_1 (rgD 0 K) [some o, some w, none, none, none, none, some (.fz (nD K)), none, none, none, none, none, none, none] =
    some (szs.map nD, [some o', some w, none, none, none, none, some (.fz (nD K)), none, none, none, none, none, none, none]) ∧ StOk o' ∧ szs.length = K ∧ ∀ x ∈ szs, 1 ≤ x ∧ x ≤ 3 := by
  obtain ⟨all, ρ', e, o', szs, h1, h2, h3, h4, h5⟩ := compL_inv (n := 14) (vs := [8]) (g := gN 8) (t := bYes) (e := e__law_begun_1) (ds := rgD 0 K) (ρ := [some o, some w, none, none, none, none, some (.fz (nD K)), none, none, none, none, none, none, none])
    (fun i ρ acc => ∃ (o' : O) (szs : List Nat), ρ = [some o', some w, none, none, none, none, some (.fz (nD K)), none, none, none, none, none, none, none] ∧ StOk o' ∧ acc = szs.map nD ∧ szs.length = i ∧ ∀ x ∈ szs, 1 ≤ x ∧ x ≤ 3)
    ⟨o, [], rfl, h, rfl, rfl, by simp⟩ (by
      rintro i d ρ acc hd ⟨o1, szs, rfl, ho, rfl, hl, hx⟩
      obtain ⟨hi, rfl⟩ := rgD_get hd
      obtain ⟨r, o2, he, hr, ho2⟩ := take_nat 3 ho
      refine ⟨rfl, _, _, [some o2, some w, none, none, none, none, some (.fz (nD K)), none, some (.fz (nD i)), none, none, none, none, none], nD (r + 1), rfl, rfl, ?_, o2, szs ++ [r + 1], rfl, ho2, by simp, by simp [hl], ?_⟩
      · unfold e__law_begun_1
        simp [wipeE, cal1_ap, he]
        omega
      · intro x hx1
        rcases List.mem_append.mp hx1 with h | h
        · exact hx x h
        · simp at h; omega)
  subst h1 h3
  rw [rgD_len] at h4
  exact ⟨o', szs, e, h2, h4, h5⟩

def szL (szs : List Nat) (k : Nat) : Nat := szs.getD k 1
theorem szL_ok {szs : List Nat} (h : ∀ x ∈ szs, 1 ≤ x ∧ x ≤ 3) : SzOk (szL szs) := fun k => by
  unfold szL
  rw [List.getD_eq_getElem?_getD]
  cases q : szs[k]? with
  | none => simp
  | some x =>
    have := h x (List.mem_of_getElem? q)
    simp; omega
theorem szL_get {szs : List Nat} {k : Nat} (h : k < szs.length) : (szs.map nD)[k]? = some (nD (szL szs k)) := by
  unfold szL
  rw [List.getElem?_map, List.getD_eq_getElem?_getD, List.getElem?_eq_getElem h]
  rfl
theorem begun_2 {o : O} {w1 w6 w9 w10 : Option O} {szs : List Nat} {a b n : Nat} (h : StOk o) (hb : b < szs.length) (hs : ∀ x ∈ szs, 1 ≤ x ∧ x ≤ 3) : ∃ (o' : O) (r : List Nat), compL 14 [13] (gN 13) bYes e__law_begun_2 (rgD 0 n) [some o, w1, none, none, none, none, w6, some (.fz (.lst (szs.map nD))), none, w9, w10, some (.fz (nD a)), some (.fz (nD b)), none] =
    some (r.map nD, [some o', w1, none, none, none, none, w6, some (.fz (.lst (szs.map nD))), none, w9, w10, some (.fz (nD a)), some (.fz (nD b)), none]) ∧ StOk o' ∧ r.length = n ∧ ∀ x ∈ r, x < szL szs b := by
  obtain ⟨all, ρ', e, o', r, h1, h2, h3, h4, h5⟩ := compL_inv (n := 14) (vs := [13]) (g := gN 13) (t := bYes) (e := e__law_begun_2) (ds := rgD 0 n) (ρ := [some o, w1, none, none, none, none, w6, some (.fz (.lst (szs.map nD))), none, w9, w10, some (.fz (nD a)), some (.fz (nD b)), none])
    (fun i ρ acc => ∃ (o' : O) (r : List Nat), ρ = [some o', w1, none, none, none, none, w6, some (.fz (.lst (szs.map nD))), none, w9, w10, some (.fz (nD a)), some (.fz (nD b)), none] ∧ StOk o' ∧ acc = r.map nD ∧ r.length = i ∧ ∀ x ∈ r, x < szL szs b)
    ⟨o, [], rfl, h, rfl, rfl, by simp⟩ (by
      rintro i d ρ acc hd ⟨o1, r, rfl, ho, rfl, hl, hx⟩
      obtain ⟨hi, rfl⟩ := rgD_get hd
      have hz := szL_ok hs b
      obtain ⟨x, o2, he, hr, ho2⟩ := take_nat (szL szs b : Nat) ho
      refine ⟨rfl, _, _, [some o2, w1, none, none, none, none, w6, some (.fz (.lst (szs.map nD))), none, w9, w10, some (.fz (nD a)), some (.fz (nD b)), some (.fz (nD i))], nD x, rfl, rfl, ?_, o2, r ++ [x], rfl, ho2, by simp, by simp [hl], ?_⟩
      · unfold e__law_begun_2
        simp [wipeE, cal1_ap, atI_nat, -List.getElem?_map, szL_get hb, he]
      · intro y hy
        rcases List.mem_append.mp hy with h | h
        · exact hx y h
        · simp at h; omega)
  subst h1 h3
  rw [rgD_len] at h4
  exact ⟨o', r, e, h2, h4, h5⟩
theorem begun_l {w1 w6 : Option O} {szs : List Nat} (hK : szs.length ≤ 3) (hK1 : 1 ≤ szs.length) (hs : ∀ x ∈ szs, 1 ≤ x ∧ x ≤ 3) (h6 : w6 = some (.fz (nD szs.length))) {o : O} (h : StOk o) (n : Nat) (hn : n ≤ 3) :
    ∃ (o' : O) (ts : List Fn) (v10 v11 v12 : Option O), forL (gN 10) l__law_begun_1 (rgD 0 n) [some o, w1, none, none, none, none, w6, some (.fz (.lst (szs.map nD))), none, some (.lst []), none, none, none, none] =
      some (.nx, [some o', w1, none, none, none, none, w6, some (.fz (.lst (szs.map nD))), none, some (.lst (ts.map fun t => .fz t.en)), v10, v11, v12, none]) ∧ StOk o' ∧ (∀ t ∈ ts, Ty (szL szs) t) ∧ ts.length = n := by
  subst h6
  obtain ⟨ρ', e, o', ts, v10, v11, v12, rfl, h1, h2, h3⟩ := forL_inv (g := gN 10) (b := l__law_begun_1) (ds := rgD 0 n) (ρ := [some o, w1, none, none, none, none, some (.fz (nD szs.length)), some (.fz (.lst (szs.map nD))), none, some (.lst []), none, none, none, none])
    (fun i ρ => ∃ (o' : O) (ts : List Fn) (v10 v11 v12 : Option O), ρ = [some o', w1, none, none, none, none, some (.fz (nD szs.length)), some (.fz (.lst (szs.map nD))), none, some (.lst (ts.map fun t => .fz t.en)), v10, v11, v12, none] ∧ StOk o' ∧ (∀ t ∈ ts, Ty (szL szs) t) ∧ ts.length = i)
    ⟨o, [], none, none, none, rfl, h, by simp, rfl⟩ (by
      rintro i d ρ hd ⟨o1, ts, v10, v11, v12, rfl, ho, ht, hl⟩
      obtain ⟨hi, rfl⟩ := rgD_get hd
      obtain ⟨a, o2, ea, ha, ho2⟩ := take_nat (szs.length : Nat) ho
      obtain ⟨b, o3, eb, hb, ho3⟩ := take_nat (szs.length : Nat) ho2
      have ha' : a < szs.length := by omega
      have hb' : b < szs.length := by omega
      have hz := szL_ok hs a
      obtain ⟨o4, r, er, ho4, hr1, hr2⟩ := begun_2 (o := o3) (w1 := w1) (w6 := some (.fz (nD szs.length))) (w9 := some (.lst (ts.map fun t => .fz t.en))) (w10 := some (.fz (nD i))) (szs := szs) (a := a) (b := b) (n := szL szs a) ho3 hb' hs
      refine ⟨_, [some o4, w1, none, none, none, none, some (.fz (nD szs.length)), some (.fz (.lst (szs.map nD))), none, some (.lst ((ts ++ [Fn.mk a b r]).map fun t : Fn => .fz t.en)), some (.fz (nD i)), some (.fz (nD a)), some (.fz (nD b)), none], rfl, ?_, o4, ts ++ [Fn.mk a b r], _, _, _, rfl, ho4, ?_, by simp [hl]⟩
      · have h1 : szL szs a ≤ 6000000 := by omega
        have h2 : ts.length < 6000000 := by omega
        have hen : (D.tup [nD a, nD b, D.tup (List.map nD r)]) = (Fn.mk a b r).en := rfl
        unfold l__law_begun_1
        simp [cal1_ap, ea, eb, atI_nat, -List.getElem?_map, szL_get ha', nLc_ap, gRg_nat (n := szL szs a) (by omega), er, hen, lim, hr1, h1, h2]
      · intro t ht1
        rcases List.mem_append.mp ht1 with h | h
        · exact ht t h
        · simp at h
          subst h
          exact ⟨by show a < 3; omega, by show b < 3; omega, hr1, hr2⟩)
  rw [rgD_len] at h3
  exact ⟨o', ts, v10, v11, v12, e, h1, h2, h3⟩

def knownL : List (List Fn) := [[⟨0, 1, [0, 1]⟩, ⟨0, 1, [1, 0]⟩], [⟨0, 1, [0, 0, 1, 1]⟩, ⟨0, 1, [0, 1, 0, 1]⟩, ⟨1, 0, [0, 3]⟩], [⟨0, 0, [1, 0]⟩], [⟨0, 0, [1, 2, 0]⟩], [⟨0, 0, [0, 0]⟩], [], [⟨0, 1, [0, 1]⟩, ⟨1, 2, [0, 0, 1]⟩]]
theorem begun_7 {o o1 : O} {w : Nat} {ts : List Fn} (ew : f__law_take [o, .fz (.int 12)] = some (.fz (nD w), [o1])) (h7 : w < 7) (e : knownL[w]? = some ts) : f__law_begun [o] = some (.fz (.lst (ts.map Fn.en)), [o1]) := by
  rw [fx__law_begun]
  unfold b__law_begun
  have h7' : (w : Int) < 7 := by omega
  have e2 := congrArg (fun x => x.map fun ts : List Fn => D.lst (ts.map Fn.en)) e
  simp only [Option.map_some] at e2
  rw [← List.getElem?_map] at e2
  unfold knownL at e2
  simp only [List.map_cons, List.map_nil, Fn.en, nD, Int.cast_ofNat_Int] at e2
  simp [cal1_ap, ew, h7', lim, atI_nat, e2]
theorem one_add (k : Nat) : (D.int (1 + (k : Int))) = nD (k + 1) := by
  have : 1 + (k : Int) = ((k + 1 : Nat) : Int) := by omega
  rw [this]
theorem begun_else {o o1 : O} {w : Nat} (ew : f__law_take [o, .fz (.int 12)] = some (.fz (nD w), [o1])) (h7 : ¬ w < 7) (ho1 : StOk o1) : ∃ (res o' : O) (ts : List Fn) (sz : Nat → Nat), f__law_begun [o] = some (res, [o']) ∧ StOk o' ∧ res.freeze = .lst (ts.map Fn.en) ∧ SzOk sz ∧ (∀ t ∈ ts, Ty sz t) ∧ ts.length ≤ 3 := by
  have h7' : ¬ ((w : Int) < 7) := by omega
  obtain ⟨k, o2, ek, hk, ho2⟩ := take_nat 3 ho1
  have e1 := one_add k
  obtain ⟨K, hK⟩ : ∃ K, K = k + 1 := ⟨_, rfl⟩
  rw [← hK] at e1
  obtain ⟨o3, szs, es, ho3, hl, hs⟩ := begun_1 (w := .fz (nD w)) (K := K) ho2
  obtain ⟨n, o4, en, hn, ho4⟩ := take_nat 4 ho3
  obtain ⟨o5, ts, v10, v11, v12, el, ho5, ht, htl⟩ := begun_l (w1 := some (.fz (nD w))) (w6 := some (.fz (nD szs.length))) (szs := szs) (by omega) (by omega) hs rfl ho4 n (by omega)
  have hk2 : K ≤ lim := by unfold lim; omega
  have hk3 : 0 ≤ lim := Nat.zero_le _
  rw [hl] at el
  refine ⟨.lst (ts.map fun t => .fz t.en), o5, ts, szL szs, ?_, ho5, by simp, szL_ok hs, ht, by omega⟩
  rw [fx__law_begun]
  unfold b__law_begun
  simp [cal1_ap, ew, h7', ek]
  rw [e1]
  simp [cal1_ap, nLc_ap, gRg_nat (n := K) (by omega), es, hk2, sFor_ap, en, gRg_nat (n := n) (by omega), el]
theorem begun_ok {o : O} (h : StOk o) : ∃ (res o' : O) (ts : List Fn) (sz : Nat → Nat), f__law_begun [o] = some (res, [o']) ∧ StOk o' ∧ res.freeze = .lst (ts.map Fn.en) ∧ SzOk sz ∧ (∀ t ∈ ts, Ty sz t) ∧ ts.length ≤ 3 := by
  obtain ⟨w, o1, ew, hw, ho1⟩ := take_nat 12 h
  by_cases h7 : w < 7
  · have key : ∀ (ts : List Fn) (sz : Nat → Nat), knownL[w]? = some ts → SzOk sz → (∀ t ∈ ts, Ty sz t) → ts.length ≤ 3 →
        ∃ (res o' : O) (ts : List Fn) (sz : Nat → Nat), f__law_begun [o] = some (res, [o']) ∧ StOk o' ∧ res.freeze = .lst (ts.map Fn.en) ∧ SzOk sz ∧ (∀ t ∈ ts, Ty sz t) ∧ ts.length ≤ 3 :=
      fun ts sz e hs ht hl => ⟨_, o1, ts, sz, begun_7 ew h7 e, ho1, by simp, hs, ht, hl⟩
    have cases7 : w = 0 ∨ w = 1 ∨ w = 2 ∨ w = 3 ∨ w = 4 ∨ w = 5 ∨ w = 6 := by omega
    have ty : ∀ (ts : List Fn) (f : Nat → Nat), (ts.all fun t => decide (t.a < 3) && decide (t.b < 3) && decide (t.r.length = f t.a) && t.r.all fun x => decide (x < f t.b)) = true → ∀ t ∈ ts, Ty f t := by
      intro ts f hh t ht
      have := List.all_eq_true.mp hh t ht
      simp only [Bool.and_eq_true, decide_eq_true_eq, List.all_eq_true] at this
      exact ⟨this.1.1.1, this.1.1.2, this.1.2, this.2⟩
    have so : ∀ a b c : Nat, 1 ≤ a ∧ a ≤ 4 → 1 ≤ b ∧ b ≤ 4 → 1 ≤ c ∧ c ≤ 4 → SzOk (fun k => if k = 0 then a else if k = 1 then b else c) := by
      intro a b c h1 h2 h3 k
      by_cases e : k = 0
      · simp [e, h1]
      · by_cases e' : k = 1
        · simp [e', h2]
        · simp [e, e', h3]
    rcases cases7 with rfl | rfl | rfl | rfl | rfl | rfl | rfl
    · exact key _ _ rfl (so 2 2 2 (by omega) (by omega) (by omega)) (ty _ _ (by decide)) (by decide)
    · exact key _ _ rfl (so 4 2 2 (by omega) (by omega) (by omega)) (ty _ _ (by decide)) (by decide)
    · exact key _ _ rfl (so 2 2 2 (by omega) (by omega) (by omega)) (ty _ _ (by decide)) (by decide)
    · exact key _ _ rfl (so 3 2 2 (by omega) (by omega) (by omega)) (ty _ _ (by decide)) (by decide)
    · exact key _ _ rfl (so 2 2 2 (by omega) (by omega) (by omega)) (ty _ _ (by decide)) (by decide)
    · exact key _ _ rfl (so 2 2 2 (by omega) (by omega) (by omega)) (ty _ _ (by decide)) (by decide)
    · exact key _ _ rfl (so 2 3 2 (by omega) (by omega) (by omega)) (ty _ _ (by decide)) (by decide)
  · exact begun_else ew h7 ho1
end VL
set_option Elab.async false
set_option linter.all false
set_option maxRecDepth 100000
set_option maxHeartbeats 4000000
namespace VL
open PySem L2
/-- a comprehension over encoded things that leaves the frame as it is -/
theorem compL_map {α : Type} {n : Nat} {vs : List Nat} {g : GF} {t : BF} {e : DF} {ρ : Env'} (enc : α → D) (p : α → Bool) (r : α → D) (hn : ρ.length = n) : ∀ {xs : List α}, (∀ x ∈ xs, ∃ ρ1 ρ2, g (enc x) (wipeE ρ vs) = some ρ1 ∧ t ρ1 = some (p x, ρ2) ∧ (p x = false → unwipe ρ ρ2 vs = ρ) ∧ (p x = true → ∃ ρ3, e ρ2 = some (r x, ρ3) ∧ unwipe ρ ρ3 vs = ρ)) →
    compL n vs g t e (xs.map enc) ρ = some ((xs.filter p).map r, ρ)
  | [], _ => rfl
  | d :: ds, h => by
    obtain ⟨ρ1, ρ2, e1, e2, h1, h2⟩ := h d List.mem_cons_self
    have ih := compL_map enc p r hn (xs := ds) fun x hx => h x (List.mem_cons_of_mem _ hx)
    rw [List.map_cons, compL_cons, if_pos hn, e1]
    simp only [Option.bind_some, e2]
    cases q : p d with
    | true =>
      obtain ⟨ρ3, e3, h3⟩ := h2 q
      simp [e3, h3, ih, List.filter_cons, q]
    | false => simp [h1 q, ih, List.filter_cons, q]
/-- without a test -/
theorem compL_all {α : Type} {n : Nat} {vs : List Nat} {g : GF} {e : DF} {ρ : Env'} (enc : α → D) (r : α → D) (hn : ρ.length = n) {xs : List α} (h : ∀ x ∈ xs, ∃ ρ1, g (enc x) (wipeE ρ vs) = some ρ1 ∧ ∃ ρ3, e ρ1 = some (r x, ρ3) ∧ unwipe ρ ρ3 vs = ρ) :
    compL n vs g bYes e (xs.map enc) ρ = some (xs.map r, ρ) := by
  have := compL_map (t := bYes) (vs := vs) (g := g) (e := e) enc (fun _ => true) r hn (xs := xs) fun x hx => by
    obtain ⟨ρ1, e1, ρ3, e3, h3⟩ := h x hx
    exact ⟨ρ1, ρ1, e1, rfl, (fun z => by cases z), fun _ => ⟨ρ3, e3, h3⟩⟩
  rw [List.filter_eq_self.mpr (by simp)] at this
  exact this
theorem nD_inj {a b : Nat} (h : nD a = nD b) : a = b := by
  have := D.int.inj h
  omega
theorem map_nD_inj {a b : List Nat} (h : a.map nD = b.map nD) : a = b := List.map_inj_right (fun _ _ h => nD_inj h) |>.mp h
theorem Fn.en_inj {s t : Fn} (h : s.en = t.en) : s = t := by
  obtain ⟨a, b, r⟩ := s
  obtain ⟨a', b', r'⟩ := t
  have h1 := D.tup.inj h
  simp only [List.cons.injEq, and_true] at h1
  have e1 := nD_inj h1.1
  have e2 := nD_inj h1.2.1
  have e3 := map_nD_inj (D.tup.inj h1.2.2)
  subst e1 e2 e3
  rfl
theorem plN_row (n : Nat) (r : List Nat) : plN (n + 1) (.tup (r.map nD)) := plN_tup fun x hx => by
  obtain ⟨i, _, rfl⟩ := List.mem_map.mp hx
  exact plN_int n i
theorem Fn.pl (t : Fn) : plN 2 t.en := plN_tup fun x hx => by
  simp only [List.mem_cons, List.not_mem_nil, or_false] at hx
  rcases hx with rfl | rfl | rfl
  · exact plN_int 1 _
  · exact plN_int 1 _
  · exact plN_row 0 _
theorem rgD_eq (n : Nat) : rgD 0 n = (List.range n).map nD := by
  unfold rgD
  congr 1
  funext i
  simp
theorem in_fns (t : Fn) (cs : List Fn) : inB t.en (.lst (cs.map Fn.en)) = some (decide (t ∈ cs)) := by
  rw [gIn_pl t.pl (fun d hd => by
    obtain ⟨c, _, rfl⟩ := List.mem_map.mp hd
    exact c.pl)]
  congr 1
  rw [decide_eq_decide]
  refine ⟨fun h => ?_, fun h => List.mem_map.mpr ⟨t, h, rfl⟩⟩
  obtain ⟨c, hc, e⟩ := List.mem_map.mp h
  rw [← Fn.en_inj e]; exact hc
theorem row_ne (r r' : List Nat) : gNe (.tup (r.map nD)) (.tup (r'.map nD)) = some (.bl (!decide (r = r'))) := by
  rw [gNe_pl (plN_row 0 r) (plN_row 0 r')]
  congr 3
  rw [decide_eq_decide]
  exact ⟨fun h => map_nD_inj (D.tup.inj h), fun h => by rw [h]⟩
def Fn.isId (t : Fn) : Bool := decide (t.a = t.b) && decide (t.r = List.range t.r.length)
def comp (s t : Fn) : Fn := ⟨s.a, t.b, s.r.map fun x => t.r.getD x 0⟩
def add1 (cs : List Fn) (t : Fn) : List Fn := if t.isId = false ∧ t ∉ cs then cs ++ [t] else cs
def add2 (cs : List Fn) (s t : Fn) : List Fn := if s.b = t.a then add1 cs (comp s t) else cs
abbrev fnsO (cs : List Fn) : O := .lst (cs.map fun t => .fz t.en)
theorem tupR {n : Nat} (h : n ≤ 1000000) : rgOk 0 (n : Int) = true := by unfold rgOk big; simp; omega
theorem tupR_at {i : Nat} {r : List Nat} {ρ : Env'} (h : ρ[i]? = some (some (.fz (.tup (r.map nD))))) (hr : r.length ≤ 1000) : dTupR1 (dA gLen (aCons (dVar i) aNil)) ρ = some (.tup ((List.range r.length).map nD), ρ) := by
  have h1 := tupR (n := r.length) (by omega)
  unfold dTupR1
  simp [h, h1, rgD_eq]
theorem ne_nat (a b : Nat) : gNe (nD a) (nD b) = some (.bl (!decide (a = b))) := by
  rw [gNe_int]
  congr 3
  rw [decide_eq_decide]
  omega
theorem eq_nat (a b : Nat) : gEq (nD a) (nD b) = some (.bl (decide (a = b))) := by
  rw [gEq_int]
  congr 2
  rw [decide_eq_decide]
  omega
theorem var_at {i : Nat} {d : D} {ρ : Env'} (h : ρ[i]? = some (some (.fz d))) : dVar i ρ = some (d, ρ) := by
  rw [ap_dVar, h]
theorem closed_1 {a0 : Option O} {cs : List Fn} {v5 v6 v7 v8 v10 : Option O} {t : Fn} (hl : cs.length < lim) (hr : t.r.length ≤ 1000) : l__law_closed_1 [a0, some (fnsO cs), some (.fz (nD t.a)), some (.fz (nD t.b)), some (.fz (.tup (t.r.map nD))), v5, v6, v7, v8, none, v10] =
    some (.nx, [a0, some (fnsO (add1 cs t)), some (.fz (nD t.a)), some (.fz (nD t.b)), some (.fz (.tup (t.r.map nD))), v5, v6, v7, v8, none, v10]) := by
  have h3 : 3 ≤ lim := by decide
  have hen : (D.tup [nD t.a, nD t.b, D.tup (List.map nD t.r)]) = t.en := rfl
  unfold l__law_closed_1
  rw [sIf_pure (x := (!decide (t.a = t.b) || !decide (t.r = List.range t.r.length)) && !decide (t ∈ cs)) (bAnd_pure (bOr_pure (bD_pure (d2_pure (var_at rfl) (var_at rfl) (ne_nat _ _))) (bD_pure (d2_pure (var_at rfl) (tupR_at rfl hr) (row_ne _ _)))) (bD_pure (by simp [h3, hen, in_fns])))]
  have hx : ((!decide (t.a = t.b) || !decide (t.r = List.range t.r.length)) && !decide (t ∈ cs)) = decide (t.isId = false ∧ t ∉ cs) := by
    unfold Fn.isId
    cases decide (t.a = t.b) <;> cases decide (t.r = List.range t.r.length) <;> by_cases c3 : t ∈ cs <;> simp [c3]
  rw [hx]
  unfold add1
  by_cases c : t.isId = false ∧ t ∉ cs
  · rw [if_pos c, if_pos (by simpa using c)]
    simp [hl, h3, hen]
  · rw [if_neg c, if_neg (by simpa using c)]
    simp

theorem getD_lt {r : List Nat} {x : Nat} (h : x < r.length) : (r.map nD)[x]? = some (nD (r.getD x 0)) := by
  rw [List.getElem?_map, List.getD_eq_getElem?_getD, List.getElem?_eq_getElem h]
  rfl
/-- the comprehension that puts one behind the other -/
theorem compose_l {s t : Fn} {sz : Nat → Nat} (hs : Ty sz s) (ht : Ty sz t) (hst : s.b = t.a) {a0 a1 v2 v3 v4 v5 v6 v10 : Option O} : compL 11 [9] (gN 9) bYes e__law_closed_1 (s.r.map nD) [a0, a1, v2, v3, v4, v5, v6, some (.fz s.en), some (.fz t.en), none, v10] =
    some ((comp s t).r.map nD, [a0, a1, v2, v3, v4, v5, v6, some (.fz s.en), some (.fz t.en), none, v10]) := by
  rw [compL_all (n := 11) nD (fun x => nD (t.r.getD x 0)) rfl fun x hx => ⟨_, rfl, [a0, a1, v2, v3, v4, v5, v6, some (.fz s.en), some (.fz t.en), some (.fz (nD x)), v10], ?_, rfl⟩]
  · unfold comp
    rw [List.map_map]
    rfl
  · have hx2 : x < t.r.length := by
      have := hs.hr x hx
      rw [hst] at this
      rw [ht.hl]; exact this
    unfold e__law_closed_1
    simp [wipeE, Fn.en, atI_nat, -List.getElem?_map, getD_lt hx2]
theorem comp_ty {s t : Fn} {sz : Nat → Nat} (hs : Ty sz s) (ht : Ty sz t) (hst : s.b = t.a) : Ty sz (comp s t) := by
  refine ⟨hs.ha, ht.hb, by unfold comp; simp [hs.hl], fun x hx => ?_⟩
  obtain ⟨y, hy, rfl⟩ := List.mem_map.mp hx
  have h1 := hs.hr y hy
  rw [hst, ← ht.hl] at h1
  rw [List.getD_eq_getElem?_getD, List.getElem?_eq_getElem h1]
  exact ht.hr _ (List.getElem_mem h1)
theorem closed_2 {a0 : Option O} {cs : List Fn} {v2 v3 v4 v5 v6 v10 : Option O} {s t : Fn} {sz : Nat → Nat} (hz : SzOk sz) (hs : Ty sz s) (ht : Ty sz t) (hl : cs.length < lim) : ∃ v4' v10', l__law_closed_2 [a0, some (fnsO cs), v2, v3, v4, v5, v6, some (.fz s.en), some (.fz t.en), none, v10] =
    some (.nx, [a0, some (fnsO (add2 cs s t)), v2, v3, v4', v5, v6, some (.fz s.en), some (.fz t.en), none, v10']) := by
  have h3 : 3 ≤ lim := by decide
  have h0 : 0 ≤ lim := by decide
  have hsl : s.r.length ≤ lim := by
    have := hz s.a
    rw [hs.hl]; unfold lim; omega
  have e1 : d2 gIx (dVar 7) (dC (.int 1)) [a0, some (fnsO cs), v2, v3, some (.fz (.tup [])), v5, v6, some (.fz s.en), some (.fz t.en), none, v10] = some (nD s.b, [a0, some (fnsO cs), v2, v3, some (.fz (.tup [])), v5, v6, some (.fz s.en), some (.fz t.en), none, v10]) := by simp [Fn.en]
  have e2 : d2 gIx (dVar 8) (dC (.int 0)) [a0, some (fnsO cs), v2, v3, some (.fz (.tup [])), v5, v6, some (.fz s.en), some (.fz t.en), none, v10] = some (nD t.a, [a0, some (fnsO cs), v2, v3, some (.fz (.tup [])), v5, v6, some (.fz s.en), some (.fz t.en), none, v10]) := by simp [Fn.en]
  unfold l__law_closed_2
  rw [ap_sSeq]
  have e0 : sAsg (dA gTup' aNil) (gN 4) [a0, some (fnsO cs), v2, v3, v4, v5, v6, some (.fz s.en), some (.fz t.en), none, v10] = some (.nx, [a0, some (fnsO cs), v2, v3, some (.fz (.tup [])), v5, v6, some (.fz s.en), some (.fz t.en), none, v10]) := by simp [h0]
  rw [e0]
  simp only [Option.bind_some]
  rw [ap_sSeq, sIf_pure (bD_pure (d2_pure e1 e2 (eq_nat _ _)))]
  unfold add2
  by_cases hst : s.b = t.a
  · rw [if_pos (by simpa using hst), if_pos hst]
    have hc := comp_ty hs ht hst
    have e3 : sAsg (dA gTuple (aCons (toD (nLc 11 [9] (iSeq (d2 gIx (dVar 7) (dC (.int 2)))) (gN 9) bYes e__law_closed_1)) aNil)) (gN 4) [a0, some (fnsO cs), v2, v3, some (.fz (.tup [])), v5, v6, some (.fz s.en), some (.fz t.en), none, v10] =
        some (.nx, [a0, some (fnsO cs), v2, v3, some (.fz (.tup ((comp s t).r.map nD))), v5, v6, some (.fz s.en), some (.fz t.en), none, v10]) := by
      have := compose_l hs ht hst (a0 := a0) (a1 := some (fnsO cs)) (v2 := v2) (v3 := v3) (v4 := some (.fz (.tup []))) (v5 := v5) (v6 := v6) (v10 := v10)
      have hi : d2 gIx (dVar 7) (dC (.int 2)) [a0, some (fnsO cs), v2, v3, some (.fz (.tup [])), v5, v6, some (.fz s.en), some (.fz t.en), none, v10] = some (.tup (s.r.map nD), [a0, some (fnsO cs), v2, v3, some (.fz (.tup [])), v5, v6, some (.fz s.en), some (.fz t.en), none, v10]) := by simp [Fn.en]
      simp only [ap_sAsg, ap_dA, ap_aCons, ap_toD, nLc_ap, ap_iSeq, hi, Option.bind_some, items_tup, Option.map_some, List.length_map, if_pos hsl, this]
      simp
    rw [e3]
    simp only [Option.bind_some]
    have e4 : ∀ a1 : Option O, sAsg (dA gTup' (aCons (d2 gIx (dVar 7) (dC (.int 0))) (aCons (d2 gIx (dVar 8) (dC (.int 1))) (aCons (dVar 4) aNil)))) (gN 10) [a0, a1, v2, v3, some (.fz (.tup ((comp s t).r.map nD))), v5, v6, some (.fz s.en), some (.fz t.en), none, v10] =
        some (.nx, [a0, a1, v2, v3, some (.fz (.tup ((comp s t).r.map nD))), v5, v6, some (.fz s.en), some (.fz t.en), none, some (.fz (comp s t).en)]) := fun a1 => by
      have e : (comp s t).en = D.tup [nD s.a, nD t.b, .tup ((comp s t).r.map nD)] := rfl
      rw [e]
      simp [Fn.en, h3]
    rw [ap_sSeq, e4]
    simp only [Option.bind_some]
    have hrow : (comp s t).r ≠ [] := by
      intro h
      have h1 := hc.hl
      have h2 := hz (comp s t).a
      rw [h] at h1
      simp at h1
      omega
    have hcl : (comp s t).r.length ≤ 1000 := by
      have := hz (comp s t).a
      rw [hc.hl]; omega
    have h7 : d2 gIx (dVar 10) (dC (.int 0)) [a0, some (fnsO cs), v2, v3, some (.fz (.tup ((comp s t).r.map nD))), v5, v6, some (.fz s.en), some (.fz t.en), none, some (.fz (comp s t).en)] = some (nD (comp s t).a, [a0, some (fnsO cs), v2, v3, some (.fz (.tup ((comp s t).r.map nD))), v5, v6, some (.fz s.en), some (.fz t.en), none, some (.fz (comp s t).en)]) := by simp [Fn.en]
    have h8 : d2 gIx (dVar 10) (dC (.int 1)) [a0, some (fnsO cs), v2, v3, some (.fz (.tup ((comp s t).r.map nD))), v5, v6, some (.fz s.en), some (.fz t.en), none, some (.fz (comp s t).en)] = some (nD (comp s t).b, [a0, some (fnsO cs), v2, v3, some (.fz (.tup ((comp s t).r.map nD))), v5, v6, some (.fz s.en), some (.fz t.en), none, some (.fz (comp s t).en)]) := by simp [Fn.en]
    have h9 : dA gTup' aNil [a0, some (fnsO cs), v2, v3, some (.fz (.tup ((comp s t).r.map nD))), v5, v6, some (.fz s.en), some (.fz t.en), none, some (.fz (comp s t).en)] = some (.tup (([] : List Nat).map nD), [a0, some (fnsO cs), v2, v3, some (.fz (.tup ((comp s t).r.map nD))), v5, v6, some (.fz s.en), some (.fz t.en), none, some (.fz (comp s t).en)]) := by simp [h0]
    have h10 : dInV true (dVar 10) 1 [a0, some (fnsO cs), v2, v3, some (.fz (.tup ((comp s t).r.map nD))), v5, v6, some (.fz s.en), some (.fz t.en), none, some (.fz (comp s t).en)] = some (.bl (!decide (comp s t ∈ cs)), [a0, some (fnsO cs), v2, v3, some (.fz (.tup ((comp s t).r.map nD))), v5, v6, some (.fz s.en), some (.fz t.en), none, some (.fz (comp s t).en)]) := by simp [in_fns]
    rw [sIf_pure (bAnd_pure (bD_pure (d2_pure (var_at rfl) h9 (row_ne _ _))) (bAnd_pure (bD_pure h10) (bOr_pure (bD_pure (d2_pure h7 h8 (ne_nat _ _))) (bD_pure (d2_pure (var_at rfl) (tupR_at rfl hcl) (row_ne _ _))))))]
    have hx : (!decide ((comp s t).r = []) && (!decide (comp s t ∈ cs) && (!decide ((comp s t).a = (comp s t).b) || !decide ((comp s t).r = List.range (comp s t).r.length)))) = decide ((comp s t).isId = false ∧ comp s t ∉ cs) := by
      rw [decide_eq_false hrow]
      unfold Fn.isId
      cases decide ((comp s t).a = (comp s t).b) <;> cases decide ((comp s t).r = List.range (comp s t).r.length) <;> by_cases c3 : comp s t ∈ cs <;> simp [c3]
    rw [hx]
    unfold add1
    by_cases c : (comp s t).isId = false ∧ comp s t ∉ cs
    · rw [if_pos c, if_pos (by simpa using c)]
      refine ⟨some (.fz (.tup ((comp s t).r.map nD))), some (.fz (comp s t).en), ?_⟩
      simp [hl]
    · rw [if_neg c, if_neg (by simpa using c)]
      exact ⟨_, _, rfl⟩
  · rw [if_neg (by simpa using hst), if_neg hst]
    have e4 : ∀ a1 : Option O, sAsg (dA gTup' (aCons (d2 gIx (dVar 7) (dC (.int 0))) (aCons (d2 gIx (dVar 8) (dC (.int 1))) (aCons (dVar 4) aNil)))) (gN 10) [a0, a1, v2, v3, some (.fz (.tup [])), v5, v6, some (.fz s.en), some (.fz t.en), none, v10] =
        some (.nx, [a0, a1, v2, v3, some (.fz (.tup [])), v5, v6, some (.fz s.en), some (.fz t.en), none, some (.fz (.tup [nD s.a, nD t.b, .tup []]))]) := fun a1 => by simp [Fn.en, h3]
    simp only [ap_sNil, Option.bind_some]
    rw [ap_sSeq, e4]
    simp only [Option.bind_some]
    have h9 : bD (d2 gNe (dVar 4) (dA gTup' aNil)) [a0, some (fnsO cs), v2, v3, some (.fz (.tup [])), v5, v6, some (.fz s.en), some (.fz t.en), none, some (.fz (.tup [nD s.a, nD t.b, .tup []]))] = some (false, [a0, some (fnsO cs), v2, v3, some (.fz (.tup [])), v5, v6, some (.fz s.en), some (.fz t.en), none, some (.fz (.tup [nD s.a, nD t.b, .tup []]))]) := by
      have := row_ne [] []
      simp at this
      simp [h0, this]
    refine ⟨some (.fz (.tup [])), some (.fz (.tup [nD s.a, nD t.b, .tup []])), ?_⟩
    rw [ap_sIf, ap_bAnd, h9]
    rfl
end VL
set_option Elab.async false
set_option linter.all false
set_option maxRecDepth 100000
set_option maxHeartbeats 4000000
namespace VL
open PySem L2
structure Good (sz : Nat → Nat) (cs : List Fn) : Prop where
  ty : ∀ t ∈ cs, Ty sz t
  nd : cs.Nodup
  no : ∀ t ∈ cs, t.isId = false
def Has (cs : List Fn) (s t : Fn) : Prop := s.b = t.a → comp s t ∈ cs ∨ (comp s t).isId = true
theorem Has.mono {cs cs' : List Fn} {s t : Fn} (h : Has cs s t) (p : cs <+: cs') : Has cs' s t := fun e => (h e).imp (fun m => p.subset m) id
theorem Good.nil {sz : Nat → Nat} : Good sz [] := ⟨by simp, List.nodup_nil, by simp⟩
theorem add1_ok {sz : Nat → Nat} {cs : List Fn} {t : Fn} (g : Good sz cs) (ht : Ty sz t) : Good sz (add1 cs t) ∧ cs <+: add1 cs t ∧ (t ∈ add1 cs t ∨ t.isId = true) ∧ (add1 cs t).length ≤ cs.length + 1 := by
  unfold add1
  by_cases c : t.isId = false ∧ t ∉ cs
  · rw [if_pos c]
    refine ⟨⟨fun x hx => ?_, ?_, fun x hx => ?_⟩, List.prefix_append _ _, .inl (by simp), by simp⟩
    · rcases List.mem_append.mp hx with h | h
      · exact g.ty x h
      · simp at h; subst h; exact ht
    · rw [List.nodup_append]
      exact ⟨g.nd, by simp, fun a ha b hb => by simp at hb; subst hb; intro e; subst e; exact c.2 ha⟩
    · rcases List.mem_append.mp hx with h | h
      · exact g.no x h
      · simp at h; subst h; exact c.1
  · rw [if_neg c]
    refine ⟨g, List.prefix_refl _, ?_, by simp⟩
    cases h : t.isId with
    | true => exact .inr rfl
    | false => exact .inl (Decidable.byContradiction fun z => c ⟨h, z⟩)
theorem add2_ok {sz : Nat → Nat} {cs : List Fn} {s t : Fn} (g : Good sz cs) (hs : Ty sz s) (ht : Ty sz t) : Good sz (add2 cs s t) ∧ cs <+: add2 cs s t ∧ Has (add2 cs s t) s t ∧ (add2 cs s t).length ≤ cs.length + 1 := by
  unfold add2 Has
  by_cases c : s.b = t.a
  · rw [if_pos c]
    obtain ⟨h1, h2, h3, h4⟩ := add1_ok g (comp_ty hs ht c)
    exact ⟨h1, h2, fun _ => h3, h4⟩
  · rw [if_neg c]
    exact ⟨g, List.prefix_refl _, fun e => absurd e c, by simp⟩
theorem fnsO_at {cs : List Fn} {k : Nat} {s : Fn} (h : cs[k]? = some s) : ixO (fnsO cs) (nD k) = some s.en := by
  show (atI (cs.map fun t => O.fz t.en) (k : Int)).bind O.data = _
  rw [atI_nat, List.getElem?_map, h]
  rfl
theorem ixv_at {i j k : Nat} {cs : List Fn} {s : Fn} {ρ : Env'} (h : ρ[i]? = some (some (fnsO cs))) (hj : ρ[j]? = some (some (.fz (nD k)))) (hk : cs[k]? = some s) : dIxV i (dVar j) ρ = some (s.en, ρ) := by
  rw [ap_dIxV, h]
  simp only [var_at hj, Option.bind_some, h, fnsO_at hk, Option.map_some]
theorem closed_3 {a0 : Option O} {cs : List Fn} {v2 v3 v4 v7 v8 v10 : Option O} {s t : Fn} {sz : Nat → Nat} {k j : Nat} (hz : SzOk sz) (g : Good sz cs) (hk : cs[k]? = some s) (hj : cs[j]? = some t) (hl : cs.length + 2 < lim) :
    ∃ cs' v4' v7' v8' v10', l__law_closed_3 [a0, some (fnsO cs), v2, v3, v4, some (.fz (nD k)), some (.fz (nD j)), v7, v8, none, v10] = some (.nx, [a0, some (fnsO cs'), v2, v3, v4', some (.fz (nD k)), some (.fz (nD j)), v7', v8', none, v10']) ∧
      Good sz cs' ∧ cs <+: cs' ∧ Has cs' s t ∧ Has cs' t s ∧ cs'.length ≤ cs.length + 2 := by
  have hs := g.ty s (List.mem_of_getElem? hk)
  have ht := g.ty t (List.mem_of_getElem? hj)
  obtain ⟨g1, p1, h1, l1⟩ := add2_ok g hs ht
  obtain ⟨g2, p2, h2, l2⟩ := add2_ok g1 ht hs
  obtain ⟨w4, w10, e1⟩ := closed_2 (a0 := a0) (v2 := v2) (v3 := v3) (v4 := v4) (v5 := some (.fz (nD k))) (v6 := some (.fz (nD j))) (v10 := v10) hz hs ht (by omega : cs.length < lim)
  obtain ⟨u4, u10, e2⟩ := closed_2 (a0 := a0) (cs := add2 cs s t) (v2 := v2) (v3 := v3) (v4 := w4) (v5 := some (.fz (nD k))) (v6 := some (.fz (nD j))) (v10 := w10) hz ht hs (by omega)
  refine ⟨add2 (add2 cs s t) t s, u4, some (.fz t.en), some (.fz s.en), u10, ?_, g2, p1.trans p2, h1.mono p2, h2, by omega⟩
  have h22 : 2 ≤ lim := by decide
  unfold l__law_closed_3
  have ek := ixv_at (i := 1) (j := 5) (ρ := [a0, some (fnsO cs), v2, v3, v4, some (.fz (nD k)), some (.fz (nD j)), v7, v8, none, v10]) rfl rfl hk
  have ej := ixv_at (i := 1) (j := 6) (ρ := [a0, some (fnsO cs), v2, v3, v4, some (.fz (nD k)), some (.fz (nD j)), v7, v8, none, v10]) rfl rfl hj
  simp only [sFor_ap, ap_iSeq, ap_toD, ap_nA, ap_aCons, ap_dA, ek, ej, ap_aNil, Option.bind_some, Option.map_some, gTup_ap, List.length_cons, List.length_nil, if_pos h22, gLst_ap, fz_lst, items_lst]
  simp [forL_cons, forL_nil, e1, e2]
theorem closed_4 {a0 : Option O} {cs : List Fn} {v2 v3 v4 v6 v7 v8 v10 : Option O} {s : Fn} {sz : Nat → Nat} {k : Nat} (hz : SzOk sz) (g : Good sz cs) (hk : cs[k]? = some s) (hl : cs.length ≤ 1000) :
    ∃ cs' v4' v6' v7' v8' v10', l__law_closed_4 [a0, some (fnsO cs), v2, v3, v4, some (.fz (nD k)), v6, v7, v8, none, v10] = some (.nx, [a0, some (fnsO cs'), v2, v3, v4', some (.fz (nD (k + 1))), v6', v7', v8', none, v10']) ∧
      Good sz cs' ∧ cs <+: cs' ∧ (∀ (j : Nat) (t : Fn), cs[j]? = some t → Has cs' s t ∧ Has cs' t s) ∧ cs'.length ≤ 3 * cs.length := by
  obtain ⟨ρ', e, cs', v4', v6', v7', v8', v10', rfl, h1, h2, h3, h4⟩ := forL_inv (g := gN 6) (b := l__law_closed_3) (ds := rgD 0 cs.length) (ρ := [a0, some (fnsO cs), v2, v3, v4, some (.fz (nD k)), v6, v7, v8, none, v10])
    (fun i ρ => ∃ (cs' : List Fn) (v4' v6' v7' v8' v10' : Option O), ρ = [a0, some (fnsO cs'), v2, v3, v4', some (.fz (nD k)), v6', v7', v8', none, v10'] ∧ Good sz cs' ∧ cs <+: cs' ∧ (∀ (j : Nat) (t : Fn), j < i → cs[j]? = some t → Has cs' s t ∧ Has cs' t s) ∧ cs'.length ≤ cs.length + 2 * i)
    ⟨cs, v4, v6, v7, v8, v10, rfl, g, List.prefix_refl _, by intro j t h; omega, by simp⟩ (by
      rintro i d ρ hd ⟨cs1, w4, w6, w7, w8, w10, rfl, g1, p1, q1, l1⟩
      obtain ⟨hi, rfl⟩ := rgD_get hd
      have hk1 : cs1[k]? = some s := by
        obtain ⟨r, rfl⟩ := p1
        have := (List.getElem?_eq_some_iff.mp hk).1
        rw [List.getElem?_append_left this]; exact hk
      have hti : cs[i]? = some cs[i] := List.getElem?_eq_getElem hi
      have hj1 : cs1[i]? = some cs[i] := by
        obtain ⟨r, rfl⟩ := p1
        rw [List.getElem?_append_left hi]; exact hti
      obtain ⟨cs2, u4, u7, u8, u10, e2, g2, p2, ha, hb, l2⟩ := closed_3 (a0 := a0) (v2 := v2) (v3 := v3) (v4 := w4) (v7 := w7) (v8 := w8) (v10 := w10) hz g1 hk1 hj1 (by unfold lim; omega)
      refine ⟨_, _, rfl, e2, cs2, u4, _, u7, u8, u10, rfl, g2, p1.trans p2, fun j t hj ht => ?_, by omega⟩
      by_cases hji : j = i
      · subst hji
        rw [hti] at ht
        cases ht
        exact ⟨ha, hb⟩
      · obtain ⟨x, y⟩ := q1 j t (by omega) ht
        exact ⟨x.mono p2, y.mono p2⟩)
  rw [rgD_len] at h3 h4
  refine ⟨cs', v4', v6', v7', v8', v10', ?_, h1, h2, fun j t ht => h3 j t (List.getElem?_eq_some_iff.mp ht).1 ht, by omega⟩
  unfold l__law_closed_4
  have e1 : (D.int ((k : Int) + 1)) = nD (k + 1) := rfl
  have el : dLenV 1 [a0, some (fnsO cs), v2, v3, v4, some (.fz (nD k)), v6, v7, v8, none, v10] = some (nD cs.length, [a0, some (fnsO cs), v2, v3, v4, some (.fz (nD k)), v6, v7, v8, none, v10]) := by simp
  simp only [ap_sSeq, sFor_ap, ap_iRg, ap_aCons, ap_aNil, el, Option.bind_some, Option.map_some, gRg_nat (n := cs.length) (by omega), e]
  simp
end VL
set_option Elab.async false
set_option linter.all false
set_option maxRecDepth 100000
set_option maxHeartbeats 4000000
namespace VL
open PySem L2
theorem sWhile_succ (t : BF) (b : SF) (n : Nat) (ρ : Env') : sWhile t b (n + 1) ρ = (t ρ).bind fun p => if p.1 then (b p.2).bind fun q => match q.1 with
      | .nx => sWhile t b n q.2
      | .ct => sWhile t b n q.2
      | .bk => some (.nx, q.2)
      | .rt o => some (.rt o, q.2)
    else some (.nx, p.2) := rfl
theorem sWhile_inv {t : BF} {b : SF} (I : Nat → Env' → Prop) (Q : Env' → Prop) (h : ∀ n ρ, I n ρ → (t ρ = some (false, ρ) ∧ Q ρ) ∨ (t ρ = some (true, ρ) ∧ ∃ m ρ2, m < n ∧ b ρ = some (.nx, ρ2) ∧ I m ρ2)) : ∀ (m n : Nat) (ρ : Env'), n < m → I n ρ → ∃ ρ', sWhile t b m ρ = some (.nx, ρ') ∧ Q ρ'
  | 0, _, _, hn, _ => absurd hn (Nat.not_lt_zero _)
  | m + 1, n, ρ, hn, hi => by
    rw [sWhile_succ]
    rcases h n ρ hi with ⟨e, q⟩ | ⟨e, k, ρ2, hk, e2, i2⟩
    · exact ⟨ρ, by rw [e]; rfl, q⟩
    · obtain ⟨ρ', e3, q⟩ := sWhile_inv I Q h m k ρ2 (by omega) i2
      exact ⟨ρ', by rw [e]; simp [e2, e3], q⟩
def Cl (cs : List Fn) : Prop := ∀ s ∈ cs, ∀ t ∈ cs, Has cs s t
theorem closed_w {a0 : Option O} {cs : List Fn} {v2 v3 v4 v6 v7 v8 v10 : Option O} {sz : Nat → Nat} (hz : SzOk sz) (g : Good sz cs) (hl : cs.length ≤ 3) :
    ∃ cs' v4' v5' v6' v7' v8' v10', sWhile w__law_closed_1 l__law_closed_4 1000 [a0, some (fnsO cs), v2, v3, v4, some (.fz (nD 0)), v6, v7, v8, none, v10] = some (.nx, [a0, some (fnsO cs'), v2, v3, v4', v5', v6', v7', v8', none, v10']) ∧
      Good sz cs' ∧ cs <+: cs' ∧ (cs'.length ≤ 5 → Cl cs') ∧ cs'.length ≤ 20 ∧ (cs = [] → cs' = []) := by
  obtain ⟨ρ', e, cs', v4', v5', v6', v7', v8', v10', rfl, h1, h2, h3, h4, h5⟩ := sWhile_inv (t := w__law_closed_1) (b := l__law_closed_4)
    (fun n ρ => ∃ (cs' : List Fn) (k : Nat) (v4' v6' v7' v8' v10' : Option O), ρ = [a0, some (fnsO cs'), v2, v3, v4', some (.fz (nD k)), v6', v7', v8', none, v10'] ∧ Good sz cs' ∧ cs <+: cs' ∧
      (∀ (i j : Nat) (s t : Fn), i < k → j ≤ i → cs'[i]? = some s → cs'[j]? = some t → Has cs' s t ∧ Has cs' t s) ∧ cs'.length ≤ 20 ∧ (cs = [] → cs' = []) ∧ n + k = 6 ∧ k ≤ cs'.length)
    (fun ρ => ∃ (cs' : List Fn) (v4' v5' v6' v7' v8' v10' : Option O), ρ = [a0, some (fnsO cs'), v2, v3, v4', v5', v6', v7', v8', none, v10'] ∧ Good sz cs' ∧ cs <+: cs' ∧ (cs'.length ≤ 5 → Cl cs') ∧ cs'.length ≤ 20 ∧ (cs = [] → cs' = [])) (by
      rintro n ρ ⟨cs1, k, w4, w6, w7, w8, w10, rfl, g1, p1, q1, l1, n1, nk, kl⟩
      have ht : w__law_closed_1 [a0, some (fnsO cs1), v2, v3, w4, some (.fz (nD k)), w6, w7, w8, none, w10] = some (decide (k < cs1.length) && decide (cs1.length < 6), [a0, some (fnsO cs1), v2, v3, w4, some (.fz (nD k)), w6, w7, w8, none, w10]) := by
        have el : dLenV 1 [a0, some (fnsO cs1), v2, v3, w4, some (.fz (nD k)), w6, w7, w8, none, w10] = some (nD cs1.length, [a0, some (fnsO cs1), v2, v3, w4, some (.fz (nD k)), w6, w7, w8, none, w10]) := by simp
        have c1 : decide ((k : Int) < (cs1.length : Int)) = decide (k < cs1.length) := by rw [decide_eq_decide]; omega
        have c2 : decide ((cs1.length : Int) < 6) = decide (cs1.length < 6) := by rw [decide_eq_decide]; omega
        unfold w__law_closed_1
        refine bAnd_pure (bD_pure (d2_pure (var_at rfl) el ?_)) (bD_pure (d2_pure el rfl ?_))
        · rw [gLt_int, c1]
        · rw [gLt_int, c2]
      by_cases c : k < cs1.length ∧ cs1.length < 6
      · refine .inr ⟨by rw [ht]; simp [c.1, c.2], ?_⟩
        have hk : cs1[k]? = some cs1[k] := List.getElem?_eq_getElem c.1
        obtain ⟨cs2, u4, u6, u7, u8, u10, e2, g2, p2, q2, l2⟩ := closed_4 (a0 := a0) (v2 := v2) (v3 := v3) (v4 := w4) (v6 := w6) (v7 := w7) (v8 := w8) (v10 := w10) hz g1 hk (by omega)
        refine ⟨n - 1, _, by omega, e2, cs2, k + 1, u4, u6, u7, u8, u10, rfl, g2, p1.trans p2, fun i j s t hi hj hs ht => ?_, by omega, fun z => ?_, by omega, ?_⟩
        · obtain ⟨r, rfl⟩ := p2
          have hi1 : i < cs1.length := by omega
          have hj1 : j < cs1.length := by omega
          have hs1 := hs
          have ht1 := ht
          rw [List.getElem?_append_left hi1] at hs1
          rw [List.getElem?_append_left hj1] at ht1
          by_cases hik : i = k
          · subst hik
            rw [hk] at hs1
            cases hs1
            exact q2 j t ht1
          · obtain ⟨x, y⟩ := q1 i j s t (by omega) hj hs1 ht1
            exact ⟨x.mono (List.prefix_append _ _), y.mono (List.prefix_append _ _)⟩
        · have := n1 z
          subst this
          simp at c
        · have := p2.length_le
          omega
      · refine .inl ⟨by rw [ht]; congr 2; rw [Bool.and_eq_false_iff, decide_eq_false_iff_not, decide_eq_false_iff_not]; omega, cs1, w4, _, w6, w7, w8, w10, rfl, g1, p1, fun h5 s hs t ht => ?_, l1, n1⟩
        obtain ⟨i, hi⟩ := List.mem_iff_getElem?.mp hs
        obtain ⟨j, hj⟩ := List.mem_iff_getElem?.mp ht
        have hi1 := (List.getElem?_eq_some_iff.mp hi).1
        have hj1 := (List.getElem?_eq_some_iff.mp hj).1
        rcases Nat.le_total j i with h | h
        · exact (q1 i j s t (by omega) h hi hj).1
        · exact (q1 j i t s (by omega) h hj hi).2)
    1000 6 [a0, some (fnsO cs), v2, v3, v4, some (.fz (nD 0)), v6, v7, v8, none, v10] (by decide) ⟨cs, 0, v4, v6, v7, v8, v10, rfl, g, List.prefix_refl _, by intro i j s t h; omega, by omega, fun z => z, rfl, Nat.zero_le _⟩
  exact ⟨cs', v4', v5', v6', v7', v8', v10', e, h1, h2, h3, h4, h5⟩
theorem closed_ok {ts : List Fn} {sz : Nat → Nat} (hz : SzOk sz) (ht : ∀ t ∈ ts, Ty sz t) (hl : ts.length ≤ 3) : ∃ cs, f__law_closed [.fz (.lst (ts.map Fn.en))] = some (fnsO cs, []) ∧ Good sz cs ∧ (cs.length ≤ 5 → Cl cs) ∧ cs.length ≤ 20 ∧ (ts = [] → cs = []) := by
  have h0 : 0 ≤ lim := Nat.zero_le _
  obtain ⟨ρ', e, cs, v2, v3, v4, rfl, g, l, n⟩ := forL_inv (g := gTu 3 (gsCons (gN 2) (gsCons (gN 3) (gsCons (gN 4) gsNil)))) (b := l__law_closed_1) (ds := ts.map Fn.en) (ρ := [some (.fz (.lst (ts.map Fn.en))), some (fnsO []), none, none, none, none, none, none, none, none, none])
    (fun i ρ => ∃ (cs : List Fn) (v2 v3 v4 : Option O), ρ = [some (.fz (.lst (ts.map Fn.en))), some (fnsO cs), v2, v3, v4, none, none, none, none, none, none] ∧ Good sz cs ∧ cs.length ≤ i ∧ (i = 0 → cs = []))
    ⟨[], none, none, none, rfl, .nil, by simp, fun _ => rfl⟩ (by
      rintro i d ρ hd ⟨cs, v2, v3, v4, rfl, g, l, n⟩
      rw [List.getElem?_map] at hd
      cases hi : ts[i]? with
      | none => rw [hi] at hd; cases hd
      | some t =>
        rw [hi] at hd
        cases hd
        have htt := ht t (List.mem_of_getElem? hi)
        have hi3 := (List.getElem?_eq_some_iff.mp hi).1
        have hr : t.r.length ≤ 1000 := by
          have := hz t.a
          rw [htt.hl]; omega
        have e1 := closed_1 (a0 := some (.fz (.lst (ts.map Fn.en)))) (cs := cs) (v5 := none) (v6 := none) (v7 := none) (v8 := none) (v10 := none) (t := t) (by unfold lim; omega) hr
        obtain ⟨g1, _, _, l1⟩ := add1_ok g htt
        exact ⟨_, _, rfl, e1, add1 cs t, _, _, _, rfl, g1, by omega, by omega⟩)
  rw [List.length_map] at l n
  obtain ⟨cs', v4', v5', v6', v7', v8', v10', ew, g', p', c', l', n'⟩ := closed_w (a0 := some (.fz (.lst (ts.map Fn.en)))) (v2 := v2) (v3 := v3) (v4 := v4) (v6 := none) (v7 := none) (v8 := none) (v10 := none) hz g (by omega)
  refine ⟨cs', ?_, g', c', l', fun z => n' (n (by rw [z]; rfl))⟩
  rw [fx__law_closed]
  unfold b__law_closed
  have e0 : (fnsO [] : O) = .lst [] := rfl
  rw [e0] at e
  simp [h0, sFor_ap, e]
  have e1 : (D.int 0) = nD 0 := rfl
  rw [e1, ew]
  simp
end VL
set_option Elab.async false
set_option linter.all false
set_option maxRecDepth 100000
set_option maxHeartbeats 4000000
namespace VL
open PySem L2
theorem cut_last {α : Type} (xs : List α) : cutL xs none (some (-1)) = xs.dropLast := by
  unfold cutL
  rw [List.dropLast_eq_take]
  cases xs with
  | nil => rfl
  | cons x xs =>
    simp [HT.sIx]
    try omega
def wv (cs : List Fn) (s t : Fn) : Int := if comp s t ∈ cs then ((cs.idxOf (comp s t) : Nat) : Int) else -1
def ent (cs : List Fn) (j k : Nat) : Option ((Nat × Nat) × Int) := match cs[j]?, cs[k]? with
  | some s, some t => if s.b = t.a then some ((j, k), wv cs s t) else none
  | _, _ => none
def rowT (cs : List Fn) (j n : Nat) : List ((Nat × Nat) × Int) := (List.range n).filterMap (ent cs j)
def tabT (cs : List Fn) (m : Nat) : List ((Nat × Nat) × Int) := (List.range m).flatMap fun j => rowT cs j cs.length
abbrev key2 (p : Nat × Nat) : List Key := [.inl (p.1 : Int), .inl (p.2 : Int)]
abbrev tbO (tb : List ((Nat × Nat) × Int)) : O := .dT (tb.map fun e => (key2 e.1, .fz (.int e.2)))
abbrev tbD (tb : List ((Nat × Nat) × Int)) : D := .dT (tb.map fun e => (key2 e.1, .int e.2))
theorem key2_inj {p q : Nat × Nat} (h : key2 p = key2 q) : p = q := by
  obtain ⟨a, b⟩ := p
  obtain ⟨c, d⟩ := q
  simp only [key2, List.cons.injEq, and_true] at h
  have h1 := Sum.inl.inj h.1
  have h2 := Sum.inl.inj h.2
  ext <;> simp <;> omega
theorem tbO_freeze (tb : List ((Nat × Nat) × Int)) : (tbO tb).freeze = tbD tb := by
  unfold tbO tbD
  rw [O.freeze]
  congr 1
  induction tb with
  | nil => rw [List.map_nil, O.freezeT]; rfl
  | cons e tb ih => rw [List.map_cons, O.freezeT, ih, fz_fz]; rfl
theorem rowT_succ (cs : List Fn) (j n : Nat) : rowT cs j (n + 1) = rowT cs j n ++ (ent cs j n).toList := by
  unfold rowT
  rw [List.range_succ, List.filterMap_append]
  cases h : ent cs j n <;> simp [h]
theorem tabT_succ (cs : List Fn) (m : Nat) : tabT cs (m + 1) = tabT cs m ++ rowT cs m cs.length := by
  unfold tabT
  rw [List.range_succ, List.flatMap_append]
  simp
theorem ent_key {cs : List Fn} {j k : Nat} {e : (Nat × Nat) × Int} (h : ent cs j k = some e) : e.1 = (j, k) := by
  unfold ent at h
  split at h
  · split at h
    · cases h; rfl
    · cases h
  · cases h
theorem rowT_key {cs : List Fn} {j n : Nat} {e : (Nat × Nat) × Int} (h : e ∈ rowT cs j n) : e.1.1 = j ∧ e.1.2 < n := by
  obtain ⟨k, hk, he⟩ := List.mem_filterMap.mp h
  rw [ent_key he]
  exact ⟨rfl, List.mem_range.mp hk⟩
theorem tabT_key {cs : List Fn} {m : Nat} {e : (Nat × Nat) × Int} (h : e ∈ tabT cs m) : e.1.1 < m ∧ e.1.2 < cs.length := by
  obtain ⟨j, hj, he⟩ := List.mem_flatMap.mp h
  obtain ⟨h1, h2⟩ := rowT_key he
  rw [h1]
  exact ⟨List.mem_range.mp hj, h2⟩
theorem rowT_len (cs : List Fn) (j n : Nat) : (rowT cs j n).length ≤ n := by
  unfold rowT
  have := List.length_filterMap_le (ent cs j) (List.range n)
  rwa [List.length_range] at this
theorem tabT_len (cs : List Fn) (m : Nat) : (tabT cs m).length ≤ m * cs.length := by
  induction m with
  | zero => simp [tabT]
  | succ m ih =>
    rw [tabT_succ, List.length_append]
    have := rowT_len cs m cs.length
    rw [Nat.succ_mul]
    omega
theorem put_fresh {tb : List ((Nat × Nat) × Int)} {p : Nat × Nat} {w : Int} (h : ∀ e ∈ tb, e.1 ≠ p) : putD (tb.map fun e => (key2 e.1, O.fz (.int e.2))) (key2 p) (.fz (.int w)) = (tb ++ [(p, w)]).map fun e => (key2 e.1, O.fz (.int e.2)) := by
  unfold putD
  rw [if_neg]
  · rw [List.map_append]; rfl
  · intro hh
    rw [List.any_eq_true] at hh
    obtain ⟨x, hx, hd⟩ := hh
    obtain ⟨e, he, rfl⟩ := List.mem_map.mp hx
    exact h e he (key2_inj (of_decide_eq_true hd))
theorem idx_map (cs : List Fn) (x : Fn) : (cs.map Fn.en).idxOf x.en = cs.idxOf x := by
  induction cs with
  | nil => rfl
  | cons c cs ih =>
    rw [List.map_cons, List.idxOf_cons, List.idxOf_cons, ih]
    by_cases e : c = x
    · subst e; simp
    · have e1 : (c == x) = false := by simpa using e
      have e2 : (c.en == x.en) = false := by simpa using fun h => e (Fn.en_inj h)
      rw [e1, e2]
theorem fns_pl (cs : List Fn) : ∀ d ∈ cs.map Fn.en, plN 2 d := fun d hd => by
  obtain ⟨c, _, rfl⟩ := List.mem_map.mp hd
  exact c.pl
theorem index_fn {i j : Nat} {cs : List Fn} {x : Fn} {ρ : Env'} (h : ρ[i]? = some (some (.fz (.lst (cs.map Fn.en))))) (hj : ρ[j]? = some (some (.fz x.en))) (hm : x ∈ cs) : dIndex (dVar i) (aCons (dVar j) aNil) ρ = some (nD (cs.idxOf x), ρ) := by
  unfold dIndex
  rw [var_at h]
  simp only [Option.bind_some, ap_aCons, var_at hj, ap_aNil, Option.map_some]
  rw [if_pos ⟨plN_dat (plN_lst (fns_pl cs)) (by decide), plN_dat x.pl (by decide)⟩, idx_pl x.pl (fns_pl cs) (List.mem_map.mpr ⟨x, hm, rfl⟩), idx_map]
  rfl
theorem ix_fn {i j k : Nat} {cs : List Fn} {s : Fn} {ρ : Env'} (h : ρ[i]? = some (some (.fz (.lst (cs.map Fn.en))))) (hj : ρ[j]? = some (some (.fz (nD k)))) (hk : cs[k]? = some s) : d2 gIx (dVar i) (dVar j) ρ = some (s.en, ρ) :=
  d2_pure (var_at h) (var_at hj) (by rw [gIx_lst, atI_nat, List.getElem?_map, hk]; rfl)
theorem fn_0 {f : DF} {s : Fn} {ρ : Env'} (h : f ρ = some (s.en, ρ)) : d2 gIx f (dC (.int 0)) ρ = some (nD s.a, ρ) := d2_pure h rfl (by simp [Fn.en])
theorem fn_1 {f : DF} {s : Fn} {ρ : Env'} (h : f ρ = some (s.en, ρ)) : d2 gIx f (dC (.int 1)) ρ = some (nD s.b, ρ) := d2_pure h rfl (by simp [Fn.en])
theorem fn_2 {f : DF} {s : Fn} {ρ : Env'} (h : f ρ = some (s.en, ρ)) : d2 gIx f (dC (.int 2)) ρ = some (.tup (s.r.map nD), ρ) := d2_pure h rfl (by simp [Fn.en])
theorem pattern_2 {a0 a1 v3 v10 : Option O} {cs : List Fn} {tb : List ((Nat × Nat) × Int)} {j k : Nat} {s t : Fn} {sz : Nat → Nat} (hz : SzOk sz) (g : Good sz cs) (hj : cs[j]? = some s) (hk : cs[k]? = some t) (hf : ∀ e ∈ tb, e.1 ≠ (j, k)) (hl : tb.length < lim) :
    ∃ v10', l__law_pattern_2 [a0, a1, some (.fz (.lst (cs.map Fn.en))), v3, none, none, none, some (tbO tb), some (.fz (nD j)), some (.fz (nD k)), v10, none] = some (.nx, [a0, a1, some (.fz (.lst (cs.map Fn.en))), v3, none, none, none, some (tbO (tb ++ (ent cs j k).toList)), some (.fz (nD j)), some (.fz (nD k)), v10', none]) := by
  have hs := g.ty s (List.mem_of_getElem? hj)
  have ht := g.ty t (List.mem_of_getElem? hk)
  have h3 : 3 ≤ lim := by decide
  have h2 : 2 ≤ lim := by decide
  have ee : ent cs j k = if s.b = t.a then some ((j, k), wv cs s t) else none := by unfold ent; rw [hj, hk]
  unfold l__law_pattern_2
  rw [sIf_pure (bD_pure (d2_pure (fn_1 (ix_fn (cs := cs) rfl rfl hj)) (fn_0 (ix_fn (cs := cs) rfl rfl hk)) (eq_nat _ _)))]
  by_cases hst : s.b = t.a
  · rw [if_pos (by simpa using hst), ee, if_pos hst]
    have hc := comp_ty hs ht hst
    have hsl : s.r.length ≤ lim := by
      have := hz s.a
      rw [hs.hl]; unfold lim; omega
    have hcomp : compL 12 [11] (gN 11) bYes e__law_pattern_2 (s.r.map nD) [a0, a1, some (.fz (.lst (cs.map Fn.en))), v3, none, none, none, some (tbO tb), some (.fz (nD j)), some (.fz (nD k)), v10, none] =
        some ((comp s t).r.map nD, [a0, a1, some (.fz (.lst (cs.map Fn.en))), v3, none, none, none, some (tbO tb), some (.fz (nD j)), some (.fz (nD k)), v10, none]) := by
      rw [compL_all (n := 12) nD (fun x => nD (t.r.getD x 0)) rfl fun x hx => ⟨_, rfl, [a0, a1, some (.fz (.lst (cs.map Fn.en))), v3, none, none, none, some (tbO tb), some (.fz (nD j)), some (.fz (nD k)), v10, some (.fz (nD x))], ?_, rfl⟩]
      · unfold comp
        rw [List.map_map]
        rfl
      · have hx2 : x < t.r.length := by
          have := hs.hr x hx
          rw [hst] at this
          rw [ht.hl]; exact this
        unfold e__law_pattern_2
        refine d2_pure (fn_2 (ix_fn (cs := cs) rfl rfl hk)) (var_at rfl) ?_
        rw [gIx_tup, atI_nat, getD_lt hx2]
    have hen : D.tup [nD s.a, nD t.b, .tup ((comp s t).r.map nD)] = (comp s t).en := rfl
    have e1 : sAsg (dA gTup' (aCons (d2 gIx (d2 gIx (dVar 2) (dVar 8)) (dC (.int 0))) (aCons (d2 gIx (d2 gIx (dVar 2) (dVar 9)) (dC (.int 1))) (aCons (dA gTuple (aCons (toD (nLc 12 [11] (iSeq (d2 gIx (d2 gIx (dVar 2) (dVar 8)) (dC (.int 2)))) (gN 11) bYes e__law_pattern_2)) aNil)) aNil)))) (gN 10) [a0, a1, some (.fz (.lst (cs.map Fn.en))), v3, none, none, none, some (tbO tb), some (.fz (nD j)), some (.fz (nD k)), v10, none] =
        some (.nx, [a0, a1, some (.fz (.lst (cs.map Fn.en))), v3, none, none, none, some (tbO tb), some (.fz (nD j)), some (.fz (nD k)), some (.fz (comp s t).en), none]) := by
      simp only [ap_sAsg, ap_dA, ap_aCons, fn_0 (ix_fn (cs := cs) (i := 2) (j := 8) (ρ := [a0, a1, some (.fz (.lst (cs.map Fn.en))), v3, none, none, none, some (tbO tb), some (.fz (nD j)), some (.fz (nD k)), v10, none]) rfl rfl hj),
        fn_1 (ix_fn (cs := cs) (i := 2) (j := 9) (ρ := [a0, a1, some (.fz (.lst (cs.map Fn.en))), v3, none, none, none, some (tbO tb), some (.fz (nD j)), some (.fz (nD k)), v10, none]) rfl rfl hk),
        fn_2 (ix_fn (cs := cs) (i := 2) (j := 8) (ρ := [a0, a1, some (.fz (.lst (cs.map Fn.en))), v3, none, none, none, some (tbO tb), some (.fz (nD j)), some (.fz (nD k)), v10, none]) rfl rfl hj),
        Option.bind_some, ap_toD, nLc_ap, ap_iSeq, items_tup, Option.map_some, List.length_map, if_pos hsl, hcomp, ap_aNil, fz_lst, gTuple_lst, gTup_ap, List.length_cons, List.length_nil, if_pos h3, hen, ap_gN]
      rfl
    refine ⟨some (.fz (comp s t).en), ?_⟩
    rw [ap_sSeq, e1]
    simp only [Option.bind_some]
    have hin : bD (d2 gIn (dVar 10) (dVar 2)) [a0, a1, some (.fz (.lst (cs.map Fn.en))), v3, none, none, none, some (tbO tb), some (.fz (nD j)), some (.fz (nD k)), some (.fz (comp s t).en), none] =
        some (decide (comp s t ∈ cs), [a0, a1, some (.fz (.lst (cs.map Fn.en))), v3, none, none, none, some (tbO tb), some (.fz (nD j)), some (.fz (nD k)), some (.fz (comp s t).en), none]) := bD_pure (d2_pure (var_at rfl) (var_at rfl) (by unfold gIn; rw [in_fns]; rfl))
    have hv : dIf (bD (d2 gIn (dVar 10) (dVar 2))) (dIndex (dVar 2) (aCons (dVar 10) aNil)) (dC (.int (-1))) [a0, a1, some (.fz (.lst (cs.map Fn.en))), v3, none, none, none, some (tbO tb), some (.fz (nD j)), some (.fz (nD k)), some (.fz (comp s t).en), none] =
        some (.int (wv cs s t), [a0, a1, some (.fz (.lst (cs.map Fn.en))), v3, none, none, none, some (tbO tb), some (.fz (nD j)), some (.fz (nD k)), some (.fz (comp s t).en), none]) := by
      rw [ap_dIf, hin]
      unfold wv
      by_cases c : comp s t ∈ cs
      · simp only [Option.bind_some, decide_eq_true c, if_true, if_pos c]
        exact index_fn rfl rfl c
      · simp only [Option.bind_some, decide_eq_false c, if_neg c]
        rfl
    rw [ap_sSetI, hv]
    have hset : setO (tbO tb) (.tup [nD j, nD k]) (.int (wv cs s t)) = some (tbO (tb ++ [((j, k), wv cs s t)])) := by
      unfold tbO setO
      simp only [keysD, keyD, Option.bind_some, Option.map_some]
      rw [if_pos (by simpa using hl)]
      have := put_fresh (w := wv cs s t) hf
      unfold key2 at this
      rw [this]
    simp [h2, hset]
  · rw [if_neg (by simpa using hst), ee, if_neg hst]
    exact ⟨v10, by simp⟩
end VL
set_option Elab.async false
set_option linter.all false
set_option maxRecDepth 100000
set_option maxHeartbeats 4000000
namespace VL
open PySem L2
theorem len_lst {i : Nat} {xs : List D} {ρ : Env'} (h : ρ[i]? = some (some (.fz (.lst xs)))) : dA gLen (aCons (dVar i) aNil) ρ = some (nD xs.length, ρ) := by
  simp only [ap_dA, ap_aCons, var_at h, Option.bind_some, ap_aNil, Option.map_some, gLen_lst]
theorem pattern_3 {a0 a1 v3 v9 v10 : Option O} {cs : List Fn} {j : Nat} {sz : Nat → Nat} (hz : SzOk sz) (g : Good sz cs) (hj : j < cs.length) (hl : cs.length ≤ 5) :
    ∃ v9' v10', l__law_pattern_3 [a0, a1, some (.fz (.lst (cs.map Fn.en))), v3, none, none, none, some (tbO (tabT cs j)), some (.fz (nD j)), v9, v10, none] = some (.nx, [a0, a1, some (.fz (.lst (cs.map Fn.en))), v3, none, none, none, some (tbO (tabT cs (j + 1))), some (.fz (nD j)), v9', v10', none]) := by
  obtain ⟨ρ', e, v9', v10', rfl⟩ := forL_inv (g := gN 9) (b := l__law_pattern_2) (ds := rgD 0 cs.length) (ρ := [a0, a1, some (.fz (.lst (cs.map Fn.en))), v3, none, none, none, some (tbO (tabT cs j)), some (.fz (nD j)), v9, v10, none])
    (fun k ρ => ∃ (v9' v10' : Option O), ρ = [a0, a1, some (.fz (.lst (cs.map Fn.en))), v3, none, none, none, some (tbO (tabT cs j ++ rowT cs j k)), some (.fz (nD j)), v9', v10', none])
    ⟨v9, v10, by simp [rowT]⟩ (by
      rintro k d ρ hd ⟨w9, w10, rfl⟩
      obtain ⟨hk, rfl⟩ := rgD_get hd
      obtain ⟨u10, e1⟩ := pattern_2 (a0 := a0) (a1 := a1) (v3 := v3) (v10 := w10) (cs := cs) (tb := tabT cs j ++ rowT cs j k) (j := j) (k := k) hz g (List.getElem?_eq_getElem hj) (List.getElem?_eq_getElem hk) (fun e he => by
        rcases List.mem_append.mp he with h | h
        · have := (tabT_key h).1
          intro z; rw [z] at this; simp at this
        · have := (rowT_key h).2
          intro z; rw [z] at this; simp at this) (by
        have h1 := tabT_len cs j
        have h2 := rowT_len cs j k
        rw [List.length_append]
        have h3 : j * cs.length ≤ 5 * 5 := Nat.mul_le_mul (by omega) hl
        unfold lim; omega)
      rw [List.append_assoc, ← rowT_succ] at e1
      exact ⟨_, _, rfl, e1, _, u10, rfl⟩)
  rw [rgD_len, ← tabT_succ] at e
  refine ⟨v9', v10', ?_⟩
  unfold l__law_pattern_3
  simp only [sFor_ap, ap_iRg, ap_aCons, len_lst (i := 2) (xs := cs.map Fn.en) (ρ := [a0, a1, some (.fz (.lst (cs.map Fn.en))), v3, none, none, none, some (tbO (tabT cs j)), some (.fz (nD j)), v9, v10, none]) rfl, ap_aNil, Option.bind_some, Option.map_some, List.length_map, gRg_nat (n := cs.length) (by omega), e]
theorem pattern_t {a0 a1 v3 : Option O} {cs : List Fn} {sz : Nat → Nat} (hz : SzOk sz) (g : Good sz cs) (hl : cs.length ≤ 5) :
    ∃ v8 v9 v10, forL (gN 8) l__law_pattern_3 (rgD 0 cs.length) [a0, a1, some (.fz (.lst (cs.map Fn.en))), v3, none, none, none, some (tbO []), none, none, none, none] = some (.nx, [a0, a1, some (.fz (.lst (cs.map Fn.en))), v3, none, none, none, some (tbO (tabT cs cs.length)), v8, v9, v10, none]) := by
  obtain ⟨ρ', e, v8, v9, v10, rfl⟩ := forL_inv (g := gN 8) (b := l__law_pattern_3) (ds := rgD 0 cs.length) (ρ := [a0, a1, some (.fz (.lst (cs.map Fn.en))), v3, none, none, none, some (tbO []), none, none, none, none])
    (fun k ρ => ∃ (v8 v9 v10 : Option O), ρ = [a0, a1, some (.fz (.lst (cs.map Fn.en))), v3, none, none, none, some (tbO (tabT cs k)), v8, v9, v10, none])
    ⟨none, none, none, by simp [tabT]⟩ (by
      rintro k d ρ hd ⟨w8, w9, w10, rfl⟩
      obtain ⟨hk, rfl⟩ := rgD_get hd
      obtain ⟨u9, u10, e1⟩ := pattern_3 (a0 := a0) (a1 := a1) (v3 := v3) (v9 := w9) (v10 := w10) hz g hk hl
      exact ⟨_, _, rfl, e1, _, u9, u10, rfl⟩)
  rw [rgD_len] at e
  exact ⟨v8, v9, v10, e⟩
theorem pattern_w {a0 : Option O} {ts cs : List Fn} {sz : Nat → Nat} (hz : SzOk sz) (ht : ∀ t ∈ ts, Ty sz t) (hl : ts.length ≤ 3) (g : Good sz cs) (hc : cs.length ≤ 5 → Cl cs) (h20 : cs.length ≤ 20) (hn : ts = [] → cs = []) :
    ∃ (ts' cs' : List Fn), sWhile w__law_pattern_1 l__law_pattern_1 1000 [a0, some (.fz (.lst (ts.map Fn.en))), some (.fz (.lst (cs.map Fn.en))), none, none, none, none, none, none, none, none, none] = some (.nx, [a0, some (.fz (.lst (ts'.map Fn.en))), some (.fz (.lst (cs'.map Fn.en))), none, none, none, none, none, none, none, none, none]) ∧
      Good sz cs' ∧ Cl cs' ∧ cs'.length ≤ 5 := by
  obtain ⟨ρ', e, ts', cs', rfl, h1, h2, h3⟩ := sWhile_inv (t := w__law_pattern_1) (b := l__law_pattern_1)
    (fun n ρ => ∃ (ts' cs' : List Fn), ρ = [a0, some (.fz (.lst (ts'.map Fn.en))), some (.fz (.lst (cs'.map Fn.en))), none, none, none, none, none, none, none, none, none] ∧ (∀ t ∈ ts', Ty sz t) ∧ ts'.length = n ∧ n ≤ 3 ∧ Good sz cs' ∧ (cs'.length ≤ 5 → Cl cs') ∧ cs'.length ≤ 20 ∧ (ts' = [] → cs' = []))
    (fun ρ => ∃ (ts' cs' : List Fn), ρ = [a0, some (.fz (.lst (ts'.map Fn.en))), some (.fz (.lst (cs'.map Fn.en))), none, none, none, none, none, none, none, none, none] ∧ Good sz cs' ∧ Cl cs' ∧ cs'.length ≤ 5) (by
      rintro n ρ ⟨ts1, cs1, rfl, t1, l1, n3, g1, c1, h1, z1⟩
      have hw : w__law_pattern_1 [a0, some (.fz (.lst (ts1.map Fn.en))), some (.fz (.lst (cs1.map Fn.en))), none, none, none, none, none, none, none, none, none] = some (decide (5 < cs1.length), [a0, some (.fz (.lst (ts1.map Fn.en))), some (.fz (.lst (cs1.map Fn.en))), none, none, none, none, none, none, none, none, none]) := by
        have c : decide ((5 : Int) < (cs1.length : Int)) = decide (5 < cs1.length) := by rw [decide_eq_decide]; omega
        unfold w__law_pattern_1
        refine bD_pure (d2_pure (len_lst rfl) rfl ?_)
        rw [List.length_map, gGt_int, c]
      by_cases c : 5 < cs1.length
      · refine .inr ⟨by rw [hw, decide_eq_true c], ?_⟩
        have hne : ts1 ≠ [] := fun z => by have := z1 z; subst this; simp at c
        have hlen : 0 < ts1.length := List.length_pos_iff.mpr hne
        obtain ⟨cs2, e2, g2, c2, l2, z2⟩ := closed_ok (ts := ts1.dropLast) hz (fun t h => t1 t ((List.dropLast_prefix ts1).subset h)) (by rw [List.length_dropLast]; omega)
        refine ⟨n - 1, _, by omega, ?_, ts1.dropLast, cs2, rfl, fun t h => t1 t ((List.dropLast_prefix ts1).subset h), by rw [List.length_dropLast, l1], by omega, g2, c2, l2, z2⟩
        unfold l__law_pattern_1
        have ec : dCut (dVar 1) pNone (pSome (dC (.int (-1)))) [a0, some (.fz (.lst (ts1.map Fn.en))), some (.fz (.lst (cs1.map Fn.en))), none, none, none, none, none, none, none, none, none] = some (.lst (ts1.dropLast.map Fn.en), [a0, some (.fz (.lst (ts1.map Fn.en))), some (.fz (.lst (cs1.map Fn.en))), none, none, none, none, none, none, none, none, none]) := by
          unfold dCut pNone pSome
          rw [var_at rfl]
          simp only [Option.bind_some, ap_dC, toInt_int, Option.map_some, gCut, cut_last, ← List.map_dropLast]
        simp only [ap_sSeq, ap_sAsg, ec, Option.bind_some, ap_gN, Option.map_some]
        simp [e2, -List.map_dropLast]
      · exact .inl ⟨by rw [hw, decide_eq_false c], ts1, cs1, rfl, g1, c1 (by omega), by omega⟩)
    1000 ts.length [a0, some (.fz (.lst (ts.map Fn.en))), some (.fz (.lst (cs.map Fn.en))), none, none, none, none, none, none, none, none, none] (by omega) ⟨ts, cs, rfl, ht, rfl, hl, g, hc, h20, hn⟩
  exact ⟨ts', cs', e, h1, h2, h3⟩
end VL
set_option Elab.async false
set_option linter.all false
set_option maxRecDepth 100000
set_option maxHeartbeats 4000000
namespace VL
open PySem L2
theorem ints_nD : ∀ xs : List Nat, intsD (xs.map nD) = some (xs.map fun n : Nat => (n : Int))
  | [] => rfl
  | x :: xs => by
    rw [List.map_cons, intsD, ints_nD xs]
    rfl
theorem max_nD (xs : List Nat) (h : xs ≠ []) : ∃ m : Nat, gMax [.lst (xs.map nD)] = some (nD m) ∧ m ∈ xs ∧ ∀ x ∈ xs, x ≤ m := by
  cases xs with
  | nil => exact absurd rfl h
  | cons x xs =>
    have e : maxI ((x :: xs).map fun n : Nat => (n : Int)) = some ((xs.map fun n : Nat => (n : Int)).foldl max (x : Int)) := rfl
    obtain ⟨h1, h2⟩ := maxI_is e
    obtain ⟨m, hm, hm2⟩ := List.mem_map.mp h1
    refine ⟨m, ?_, hm, fun y hy => ?_⟩
    · unfold gMax
      simp only
      rw [ints_nD, Option.bind_some, e, Option.map_some]
      rw [← hm2]
    · have := h2 (y : Int) (List.mem_map.mpr ⟨y, hy, rfl⟩)
      rw [← hm2] at this
      omega
def endsD (cs : List Fn) : D := .tup (cs.map fun t => .tup [nD t.a, nD t.b])
def patD (K : Nat) (cs : List Fn) : D := .tup [nD K, endsD cs, tbD (tabT cs cs.length)]
theorem tg3 {a0 a1 v2 v3 v7 v8 v9 v10 v11 : Option O} {t : Fn} : gTu 3 (gsCons (gN 4) (gsCons (gN 5) (gsCons (gN 6) gsNil))) t.en (wipeE [a0, a1, v2, v3, none, none, none, v7, v8, v9, v10, v11] [4, 5, 6]) = some [a0, a1, v2, v3, some (.fz (nD t.a)), some (.fz (nD t.b)), some (.fz (.tup (t.r.map nD))), v7, v8, v9, v10, v11] := rfl
theorem pattern_ok {o : O} (h : StOk o) : ∃ (o' : O) (cs : List Fn) (sz : Nat → Nat) (K : Nat), f__law_pattern [o] = some (.fz (patD K cs), [o']) ∧ StOk o' ∧ SzOk sz ∧ Good sz cs ∧ Cl cs ∧ cs.length ≤ 5 ∧ 1 ≤ K ∧ K ≤ 3 ∧ ∀ t ∈ cs, t.a < K ∧ t.b < K := by
  obtain ⟨res, o1, ts, sz, e1, ho1, er, hz, ht, hl⟩ := begun_ok h
  obtain ⟨cs0, e2, g0, c0, l0, z0⟩ := closed_ok hz ht hl
  obtain ⟨ts', cs, e3, g, hc, h5⟩ := pattern_w (a0 := some o1) hz ht hl g0 c0 l0 z0
  have hlim : cs.length ≤ lim := by unfold lim; omega
  have h1 : 1 ≤ lim := by decide
  have h2 : 2 ≤ lim := by decide
  have h3 : 3 ≤ lim := by decide
  have h0 : 0 ≤ lim := by decide
  -- the kinds
  have ek : compL 12 [4, 5, 6] (gTu 3 (gsCons (gN 4) (gsCons (gN 5) (gsCons (gN 6) gsNil)))) bYes e__law_pattern_1 (cs.map Fn.en) [some o1, some (.fz (.lst (ts'.map Fn.en))), some (.fz (.lst (cs.map Fn.en))), none, none, none, none, none, none, none, none, none] =
      some (cs.map fun t => nD (max t.a t.b), [some o1, some (.fz (.lst (ts'.map Fn.en))), some (.fz (.lst (cs.map Fn.en))), none, none, none, none, none, none, none, none, none]) := by
    refine compL_all (n := 12) Fn.en (fun t => nD (max t.a t.b)) rfl fun t _ => ⟨_, tg3, [some o1, some (.fz (.lst (ts'.map Fn.en))), some (.fz (.lst (cs.map Fn.en))), none, some (.fz (nD t.a)), some (.fz (nD t.b)), some (.fz (.tup (t.r.map nD))), none, none, none, none, none], ?_, rfl⟩
    unfold e__law_pattern_1
    simp only [ap_dA, ap_aCons, var_at (i := 4) (d := nD t.a) (ρ := [some o1, some (.fz (.lst (ts'.map Fn.en))), some (.fz (.lst (cs.map Fn.en))), none, some (.fz (nD t.a)), some (.fz (nD t.b)), some (.fz (.tup (t.r.map nD))), none, none, none, none, none]) rfl,
      var_at (i := 5) (d := nD t.b) (ρ := [some o1, some (.fz (.lst (ts'.map Fn.en))), some (.fz (.lst (cs.map Fn.en))), none, some (.fz (nD t.a)), some (.fz (nD t.b)), some (.fz (.tup (t.r.map nD))), none, none, none, none, none]) rfl, ap_aNil, Option.bind_some, Option.map_some]
    have : gMax [nD t.a, nD t.b] = some (nD (max t.a t.b)) := by
      show some (D.int (if (t.b : Int) > (t.a : Int) then (t.b : Int) else (t.a : Int))) = _
      congr 2
      split <;> omega
    rw [this]
    rfl
  obtain ⟨m, em, hm, hm2⟩ := max_nD ((cs.map fun t => max t.a t.b) ++ [0]) (by simp)
  have em' : gMax [.lst ((cs.map fun t => nD (max t.a t.b)) ++ [D.int 0])] = some (nD m) := by
    rw [← em, List.map_append, List.map_map]
    rfl
  have hm3 : m ≤ 2 := by
    rcases List.mem_append.mp hm with hh | hh
    · obtain ⟨t, ht1, rfl⟩ := List.mem_map.mp hh
      have := (g.ty t ht1).ha
      have := (g.ty t ht1).hb
      omega
    · simp at hh; omega
  have hb : ∀ t ∈ cs, t.a ≤ m ∧ t.b ≤ m := fun t ht1 => by
    have := hm2 (max t.a t.b) (List.mem_append_left _ (List.mem_map.mpr ⟨t, ht1, rfl⟩))
    omega
  -- what follows behind the kinds
  have fin1 : ∀ (o2 : O) (K : Nat), fin [0] (sSeq (sSetN 7 nDT0) (sSeq (sFor (iRg gRg1 (aCons (dA gLen (aCons (dVar 2) aNil)) aNil)) (gN 8) l__law_pattern_3)
      (sRet (toO (dA gTup' (aCons (dVar 3) (aCons (dA gTuple (aCons (toD (nLc 12 [4, 5, 6] (iSeq (dVar 2)) (gTu 3 (gsCons (gN 4) (gsCons (gN 5) (gsCons (gN 6) gsNil)))) bYes e__law_pattern_3)) aNil)) (aCons (dFz 7) aNil))))))) [some o2, some (.fz (.lst (ts'.map Fn.en))), some (.fz (.lst (cs.map Fn.en))), some (.fz (nD K)), none, none, none, none, none, none, none, none]) = some (.fz (patD K cs), [o2]) := by
    intro o2 K
    obtain ⟨v8, v9, v10, et⟩ := pattern_t (a0 := some o2) (a1 := some (.fz (.lst (ts'.map Fn.en)))) (v3 := some (.fz (nD K))) hz g h5
    have el : compL 12 [4, 5, 6] (gTu 3 (gsCons (gN 4) (gsCons (gN 5) (gsCons (gN 6) gsNil)))) bYes e__law_pattern_3 (cs.map Fn.en) [some o2, some (.fz (.lst (ts'.map Fn.en))), some (.fz (.lst (cs.map Fn.en))), some (.fz (nD K)), none, none, none, some (tbO (tabT cs cs.length)), v8, v9, v10, none] =
        some (cs.map fun t => .tup [nD t.a, nD t.b], [some o2, some (.fz (.lst (ts'.map Fn.en))), some (.fz (.lst (cs.map Fn.en))), some (.fz (nD K)), none, none, none, some (tbO (tabT cs cs.length)), v8, v9, v10, none]) := by
      refine compL_all (n := 12) Fn.en (fun t => .tup [nD t.a, nD t.b]) rfl fun t _ => ⟨_, tg3, [some o2, some (.fz (.lst (ts'.map Fn.en))), some (.fz (.lst (cs.map Fn.en))), some (.fz (nD K)), some (.fz (nD t.a)), some (.fz (nD t.b)), some (.fz (.tup (t.r.map nD))), some (tbO (tabT cs cs.length)), v8, v9, v10, none], ?_, rfl⟩
      unfold e__law_pattern_3
      simp [h2]
    have e0 : (sSetN 7 nDT0) [some o2, some (.fz (.lst (ts'.map Fn.en))), some (.fz (.lst (cs.map Fn.en))), some (.fz (nD K)), none, none, none, none, none, none, none, none] = some (.nx, [some o2, some (.fz (.lst (ts'.map Fn.en))), some (.fz (.lst (cs.map Fn.en))), some (.fz (nD K)), none, none, none, some (tbO []), none, none, none, none]) := rfl
    rw [ap_sSeq, e0]
    simp only [Option.bind_some]
    rw [ap_sSeq]
    simp only [sFor_ap, ap_iRg, ap_aCons, len_lst (i := 2) (xs := cs.map Fn.en) (ρ := [some o2, some (.fz (.lst (ts'.map Fn.en))), some (.fz (.lst (cs.map Fn.en))), some (.fz (nD K)), none, none, none, some (tbO []), none, none, none, none]) rfl, ap_aNil, Option.bind_some, Option.map_some, List.length_map, gRg_nat (n := cs.length) (by omega), et]
    have e9 : dFz 7 [some o2, some (.fz (.lst (ts'.map Fn.en))), some (.fz (.lst (cs.map Fn.en))), some (.fz (nD K)), none, none, none, some (tbO (tabT cs cs.length)), v8, v9, v10, none] = some (tbD (tabT cs cs.length), [some o2, some (.fz (.lst (ts'.map Fn.en))), some (.fz (.lst (cs.map Fn.en))), some (.fz (nD K)), none, none, none, some (.fz (tbD (tabT cs cs.length))), v8, v9, v10, none]) := by
      rw [ap_dFz]
      show some ((tbO (tabT cs cs.length)).freeze, _) = _
      rw [tbO_freeze]
      rfl
    simp only [ap_sRet, ap_toO, ap_dA, ap_aCons, var_at (i := 3) (d := nD K) (ρ := [some o2, some (.fz (.lst (ts'.map Fn.en))), some (.fz (.lst (cs.map Fn.en))), some (.fz (nD K)), none, none, none, some (tbO (tabT cs cs.length)), v8, v9, v10, none]) rfl, ap_toD, nLc_ap, ap_iSeq,
      var_at (i := 2) (d := .lst (cs.map Fn.en)) (ρ := [some o2, some (.fz (.lst (ts'.map Fn.en))), some (.fz (.lst (cs.map Fn.en))), some (.fz (nD K)), none, none, none, some (tbO (tabT cs cs.length)), v8, v9, v10, none]) rfl, Option.bind_some, items_lst, Option.map_some, List.length_map, if_pos hlim, el, ap_aNil, fz_lst, gTuple_lst, e9, gTup_ap, List.length_cons, List.length_nil, if_pos h3]
    rfl
  -- the kinds, told
  have kin : sAsg (d2 gAdd (dC (.int 1)) (dA gMax (aCons (d2 gAdd (toD (nLc 12 [4, 5, 6] (iSeq (dVar 2)) (gTu 3 (gsCons (gN 4) (gsCons (gN 5) (gsCons (gN 6) gsNil)))) bYes e__law_pattern_1)) (toD (nA gLst' (aCons (dC (.int 0)) aNil)))) aNil))) (gN 3) [some o1, some (.fz (.lst (ts'.map Fn.en))), some (.fz (.lst (cs.map Fn.en))), none, none, none, none, none, none, none, none, none] =
      some (.nx, [some o1, some (.fz (.lst (ts'.map Fn.en))), some (.fz (.lst (cs.map Fn.en))), some (.fz (nD (m + 1))), none, none, none, none, none, none, none, none]) := by
    have hl2 : cs.length + 1 ≤ lim := by unfold lim; omega
    have ea : gAdd (.lst (cs.map fun t => nD (max t.a t.b))) (.lst [D.int 0]) = some (.lst ((cs.map fun t => nD (max t.a t.b)) ++ [D.int 0])) := by
      rw [gAdd_lst, if_pos (by simpa using hl2)]
    simp only [ap_sAsg, ap_d2, ap_dC, ap_dA, ap_aCons, ap_toD, nLc_ap, ap_iSeq, var_at (i := 2) (d := .lst (cs.map Fn.en)) (ρ := [some o1, some (.fz (.lst (ts'.map Fn.en))), some (.fz (.lst (cs.map Fn.en))), none, none, none, none, none, none, none, none, none]) rfl, Option.bind_some, items_lst, Option.map_some, List.length_map, if_pos hlim, ek, fz_lst, ap_nA, ap_aNil, gLst_ap, List.length_cons, List.length_nil, if_pos h1, ea, em', gAdd_int, one_add, ap_gN]
    rfl
  -- the whole
  have start : ∀ (g' : SF), sSeq (sAsg (toD (cal1 0 0 f__law_begun (mOwn 0 aNil))) (gN 1)) (sSeq (sAsg (toD (nA (cal f__law_closed) (aCons (dVar 1) aNil))) (gN 2)) (sSeq (sWhile w__law_pattern_1 l__law_pattern_1 1000) g')) [some o, none, none, none, none, none, none, none, none, none, none, none] =
      g' [some o1, some (.fz (.lst (ts'.map Fn.en))), some (.fz (.lst (cs.map Fn.en))), none, none, none, none, none, none, none, none, none] := by
    intro g'
    have e4 : sAsg (toD (cal1 0 0 f__law_begun (mOwn 0 aNil))) (gN 1) [some o, none, none, none, none, none, none, none, none, none, none, none] = some (.nx, [some o1, some (.fz (.lst (ts.map Fn.en))), none, none, none, none, none, none, none, none, none, none]) := by
      simp [cal1_ap, e1, er]
    have e5 : sAsg (toD (nA (cal f__law_closed) (aCons (dVar 1) aNil))) (gN 2) [some o1, some (.fz (.lst (ts.map Fn.en))), none, none, none, none, none, none, none, none, none, none] = some (.nx, [some o1, some (.fz (.lst (ts.map Fn.en))), some (.fz (.lst (cs0.map Fn.en))), none, none, none, none, none, none, none, none, none]) := by
      simp [e2]
    rw [ap_sSeq, e4]
    simp only [Option.bind_some]
    rw [ap_sSeq, e5]
    simp only [Option.bind_some]
    rw [ap_sSeq, e3]
    rfl
  rw [fx__law_pattern]
  unfold b__law_pattern
  rw [start, ap_sSeq, kin]
  simp only [Option.bind_some]
  have hnil : bD (d2 gEq (dVar 2) (toD (nA gLst' aNil))) [some o1, some (.fz (.lst (ts'.map Fn.en))), some (.fz (.lst (cs.map Fn.en))), some (.fz (nD (m + 1))), none, none, none, none, none, none, none, none] = some (decide (cs = []), [some o1, some (.fz (.lst (ts'.map Fn.en))), some (.fz (.lst (cs.map Fn.en))), some (.fz (nD (m + 1))), none, none, none, none, none, none, none, none]) := by
    refine bD_pure (d2_pure (b := .lst []) (var_at rfl) (by simp [h0]) ?_)
    rw [gEq_pl (plN_lst (fns_pl cs)) (plN_lst (n := 2) (by simp))]
    congr 2
    rw [decide_eq_decide]
    simp
  rw [ap_sSeq, sIf_pure hnil]
  by_cases c : cs = []
  · obtain ⟨k, o2, ek2, hk, ho2⟩ := take_nat 3 ho1
    have e6 : sAsg (d2 gAdd (dC (.int 1)) (toD (cal1 0 0 f__law_take (mOwn 0 (aCons (dC (.int 3)) aNil))))) (gN 3) [some o1, some (.fz (.lst (ts'.map Fn.en))), some (.fz (.lst (cs.map Fn.en))), some (.fz (nD (m + 1))), none, none, none, none, none, none, none, none] = some (.nx, [some o2, some (.fz (.lst (ts'.map Fn.en))), some (.fz (.lst (cs.map Fn.en))), some (.fz (nD (k + 1))), none, none, none, none, none, none, none, none]) := by
      have hm : mOwn 0 (aCons (dC (.int 3)) aNil) [some o1, some (.fz (.lst (ts'.map Fn.en))), some (.fz (.lst (cs.map Fn.en))), some (.fz (nD (m + 1))), none, none, none, none, none, none, none, none] = some (([], [.int 3]), [some o1, some (.fz (.lst (ts'.map Fn.en))), some (.fz (.lst (cs.map Fn.en))), some (.fz (nD (m + 1))), none, none, none, none, none, none, none, none]) := rfl
      have hc1 : cal1 0 0 f__law_take (mOwn 0 (aCons (dC (.int 3)) aNil)) [some o1, some (.fz (.lst (ts'.map Fn.en))), some (.fz (.lst (cs.map Fn.en))), some (.fz (nD (m + 1))), none, none, none, none, none, none, none, none] = some (.fz (nD k), [some o2, some (.fz (.lst (ts'.map Fn.en))), some (.fz (.lst (cs.map Fn.en))), some (.fz (nD (m + 1))), none, none, none, none, none, none, none, none]) := by
        rw [cal1_ap, hm]
        simp [ek2]
      simp only [ap_sAsg, ap_d2, ap_dC, ap_toD, hc1, Option.bind_some, Option.map_some, fz_fz, gAdd_int, one_add, ap_gN]
      rfl
    rw [if_pos (by simpa using c), e6]
    simp only [Option.bind_some]
    refine ⟨o2, cs, sz, k + 1, fin1 o2 (k + 1), ho2, hz, g, hc, h5, by omega, by omega, fun t ht1 => ?_⟩
    rw [c] at ht1
    cases ht1
  · rw [if_neg (by simpa using c)]
    simp only [ap_sNil, Option.bind_some]
    exact ⟨o1, cs, sz, m + 1, fin1 o1 (m + 1), ho1, hz, g, hc, h5, by omega, by omega, fun t ht1 => by have := hb t ht1; omega⟩
end VL
set_option Elab.async false
set_option linter.all false
set_option maxRecDepth 100000
set_option maxHeartbeats 4000000
namespace VL
open PySem L2
/-! ### ways, and what two that meet come to -/
def IsWay (cs : List Fn) (k : Nat) (w : Int) (l : Nat) : Prop := (w = -1 ∧ k = l) ∨ ∃ (n : Nat) (t : Fn), w = (n : Int) ∧ cs[n]? = some t ∧ t.a = k ∧ t.b = l
def bh (cs : List Fn) (i j : Int) : Int := if i = -1 then j else if j = -1 then i else match cs[i.toNat]?, cs[j.toNat]? with
  | some s, some t => wv cs s t
  | _, _ => -1
theorem bh_l (cs : List Fn) (j : Int) : bh cs (-1) j = j := by unfold bh; simp
theorem bh_r (cs : List Fn) (i : Int) : bh cs i (-1) = i := by
  unfold bh
  by_cases h : i = -1
  · simp [h]
  · simp [h]
theorem bh_n {cs : List Fn} {i j : Nat} {s t : Fn} (hs : cs[i]? = some s) (ht : cs[j]? = some t) : bh cs i j = wv cs s t := by
  unfold bh
  have h1 : ¬ ((i : Int) = -1) := by omega
  have h2 : ¬ ((j : Int) = -1) := by omega
  rw [if_neg h1, if_neg h2]
  simp [hs, ht]
theorem idx_get {cs : List Fn} {x : Fn} (h : x ∈ cs) : cs[cs.idxOf x]? = some x := by
  have := List.idxOf_lt_length_of_mem h
  rw [List.getElem?_eq_getElem this]
  congr 1
  exact List.getElem_idxOf this
structure PatOk (sz : Nat → Nat) (cs : List Fn) : Prop where
  z : SzOk sz
  g : Good sz cs
  c : Cl cs
theorem wv_way {sz : Nat → Nat} {cs : List Fn} {s t : Fn} (P : PatOk sz cs) (hs : s ∈ cs) (ht : t ∈ cs) (h : s.b = t.a) : IsWay cs s.a (wv cs s t) t.b := by
  unfold wv
  by_cases c : comp s t ∈ cs
  · rw [if_pos c]
    exact .inr ⟨_, comp s t, rfl, idx_get c, rfl, rfl⟩
  · rw [if_neg c]
    rcases P.c s hs t ht h with h1 | h1
    · exact absurd h1 c
    · unfold Fn.isId at h1
      rw [Bool.and_eq_true, decide_eq_true_eq] at h1
      exact .inl ⟨rfl, h1.1⟩
theorem bh_way {sz : Nat → Nat} {cs : List Fn} {i j : Int} {k l m : Nat} (P : PatOk sz cs) (hi : IsWay cs k i l) (hj : IsWay cs l j m) : IsWay cs k (bh cs i j) m := by
  rcases hi with ⟨rfl, rfl⟩ | ⟨n, s, rfl, hs, rfl, rfl⟩
  · rw [bh_l]; exact hj
  · rcases hj with ⟨rfl, rfl⟩ | ⟨n', t, rfl, ht, h1, rfl⟩
    · rw [bh_r]; exact .inr ⟨n, s, rfl, hs, rfl, rfl⟩
    · rw [bh_n hs ht]
      exact wv_way P (List.mem_of_getElem? hs) (List.mem_of_getElem? ht) h1.symm
/-- the function of a way -/
def fnW (sz : Nat → Nat) (cs : List Fn) (k : Nat) (w : Int) : List Nat := if w = -1 then List.range (sz k) else match cs[w.toNat]? with
  | some t => t.r
  | none => []
theorem fnW_n {sz : Nat → Nat} {cs : List Fn} {k n : Nat} {t : Fn} (h : cs[n]? = some t) : fnW sz cs k n = t.r := by
  unfold fnW
  rw [if_neg (by omega)]
  simp [h]
theorem fnW_id {sz : Nat → Nat} {cs : List Fn} {k : Nat} : fnW sz cs k (-1) = List.range (sz k) := by
  unfold fnW; simp
theorem fnW_ty {sz : Nat → Nat} {cs : List Fn} {k l : Nat} {w : Int} (P : PatOk sz cs) (h : IsWay cs k w l) : (fnW sz cs k w).length = sz k ∧ ∀ x ∈ fnW sz cs k w, x < sz l := by
  rcases h with ⟨rfl, rfl⟩ | ⟨n, t, rfl, ht, rfl, rfl⟩
  · rw [fnW_id]; simp
  · rw [fnW_n ht]
    have := P.g.ty t (List.mem_of_getElem? ht)
    exact ⟨this.hl, this.hr⟩
theorem nodup_get {α : Type} {l : List α} (h : l.Nodup) {i j : Nat} {x : α} (hi : l[i]? = some x) (hj : l[j]? = some x) : i = j := by
  obtain ⟨h1, e1⟩ := List.getElem?_eq_some_iff.mp hi
  obtain ⟨h2, e2⟩ := List.getElem?_eq_some_iff.mp hj
  exact (List.getElem_inj h).mp (e1.trans e2.symm)
theorem fnW_inj {sz : Nat → Nat} {cs : List Fn} {k l : Nat} {w w' : Int} (P : PatOk sz cs) (h : IsWay cs k w l) (h' : IsWay cs k w' l) (e : fnW sz cs k w = fnW sz cs k w') : w = w' := by
  have no : ∀ (n : Nat) (t : Fn), cs[n]? = some t → t.a = t.b → t.r = List.range (sz t.a) → False := by
    intro n t ht h1 h2
    have hm := List.mem_of_getElem? ht
    have := P.g.no t hm
    unfold Fn.isId at this
    have hl := (P.g.ty t hm).hl
    rw [hl, decide_eq_true h1, decide_eq_true h2] at this
    cases this
  rcases h with ⟨rfl, rfl⟩ | ⟨n, t, rfl, ht, h1, h2⟩
  · rcases h' with ⟨rfl, _⟩ | ⟨n', t', rfl, ht', h1', h2'⟩
    · rfl
    · rw [fnW_id, fnW_n ht'] at e
      exact (no n' t' ht' (h1'.trans h2'.symm) (by rw [h1']; exact e.symm)).elim
  · rcases h' with ⟨rfl, h3⟩ | ⟨n', t', rfl, ht', h1', h2'⟩
    · rw [fnW_id, fnW_n ht] at e
      exact (no n t ht (by rw [h1, h2, h3]) (by rw [h1]; exact e)).elim
    · rw [fnW_n ht, fnW_n ht'] at e
      have : t = t' := by
        obtain ⟨a, b, r⟩ := t
        obtain ⟨a', b', r'⟩ := t'
        simp only at h1 h2 h1' h2' e
        rw [h1, h2, h1', h2', e]
      subst this
      rw [nodup_get P.g.nd ht ht']
def cmpL (f g : List Nat) : List Nat := f.map fun x => g.getD x 0
theorem cmpL_assoc (f g h : List Nat) (hx : ∀ x ∈ f, x < g.length) : cmpL (cmpL f g) h = cmpL f (cmpL g h) := by
  unfold cmpL
  rw [List.map_map]
  refine List.map_congr_left fun x hx1 => ?_
  have := hx x hx1
  simp only [Function.comp_apply, List.getD_eq_getElem?_getD, List.getElem?_map, List.getElem?_eq_getElem this, Option.map_some, Option.getD_some]
theorem range_getD {n x : Nat} (h : x < n) : (List.range n).getD x 0 = x := by
  rw [List.getD_eq_getElem?_getD, List.getElem?_eq_getElem (by simpa using h)]
  simp
theorem fnW_bh {sz : Nat → Nat} {cs : List Fn} {i j : Int} {k l m : Nat} (P : PatOk sz cs) (hi : IsWay cs k i l) (hj : IsWay cs l j m) : fnW sz cs k (bh cs i j) = cmpL (fnW sz cs k i) (fnW sz cs l j) := by
  have ti := fnW_ty P hi
  have tj := fnW_ty P hj
  by_cases c : i = -1
  · subst c
    have hkl : k = l := by
      rcases hi with ⟨_, h⟩ | ⟨n, t, h, _⟩
      · exact h
      · omega
    subst hkl
    rw [bh_l, fnW_id]
    unfold cmpL
    apply List.ext_getElem
    · rw [List.length_map, List.length_range, tj.1]
    · intro x h1 h2
      rw [List.getElem_map, List.getElem_range, List.getD_eq_getElem?_getD, List.getElem?_eq_getElem h1]
      rfl
  · by_cases c2 : j = -1
    · subst c2
      rw [bh_r, fnW_id]
      unfold cmpL
      refine (List.map_id'' (fun x => ?_) _).symm.trans (List.map_congr_left fun x hx => (range_getD (ti.2 x hx)).symm)
      rfl
    · rcases hi with ⟨h, _⟩ | ⟨n, s, rfl, hs, rfl, rfl⟩
      · exact absurd h c
      rcases hj with ⟨h, _⟩ | ⟨n', t, rfl, ht, h1, rfl⟩
      · exact absurd h c2
      rw [bh_n hs ht, fnW_n hs, fnW_n ht]
      unfold wv
      have hms := List.mem_of_getElem? hs
      have hmt := List.mem_of_getElem? ht
      have hc := comp_ty (P.g.ty s hms) (P.g.ty t hmt) h1.symm
      by_cases cc : comp s t ∈ cs
      · rw [if_pos cc, fnW_n (idx_get cc)]
        rfl
      · rw [if_neg cc, fnW_id]
        rcases P.c s hms t hmt h1.symm with h2 | h2
        · exact absurd h2 cc
        · unfold Fn.isId at h2
          rw [Bool.and_eq_true, decide_eq_true_eq, decide_eq_true_eq] at h2
          have h3 := h2.2
          rw [hc.hl] at h3
          exact h3.symm
theorem bh_assoc {sz : Nat → Nat} {cs : List Fn} {i j h : Int} {k l m n : Nat} (P : PatOk sz cs) (hi : IsWay cs k i l) (hj : IsWay cs l j m) (hh : IsWay cs m h n) : bh cs (bh cs i j) h = bh cs i (bh cs j h) := by
  refine fnW_inj P (bh_way P (bh_way P hi hj) hh) (bh_way P hi (bh_way P hj hh)) ?_
  rw [fnW_bh P (bh_way P hi hj) hh, fnW_bh P hi hj, fnW_bh P hi (bh_way P hj hh), fnW_bh P hj hh]
  refine cmpL_assoc _ _ _ fun x hx => ?_
  rw [(fnW_ty P hj).1]
  exact (fnW_ty P hi).2 x hx
end VL
set_option Elab.async false
set_option linter.all false
set_option maxRecDepth 100000
set_option maxHeartbeats 4000000
namespace VL
open PySem L2
abbrev objF (K : Nat) (cs : List Fn) : List (Str × D) := [("count", nD K), ("doing_list", endsD cs), ("table", tbD (tabT cs cs.length))]
theorem look3 {a b c : D} (m : Str) (h1 : (m == ("count" : Str)) = false) (h2 : (m == ("doing_list" : Str)) = false) (h3 : (m == ("table" : Str)) = false) : ([("count", a), ("doing_list", b), ("table", c)] : List (Str × D)).lookup m = none := by
  simp only [List.lookup, h1, h2, h3]
theorem lk_kinds {K : Nat} {cs : List Fn} : (objF K cs).lookup ("kinds" : Str) = none := look3 "kinds" (by decide +kernel) (by decide +kernel) (by decide +kernel)
theorem lk_doings {K : Nat} {cs : List Fn} : (objF K cs).lookup ("doings" : Str) = none := look3 "doings" (by decide +kernel) (by decide +kernel) (by decide +kernel)
theorem lk_behind {K : Nat} {cs : List Fn} : (objF K cs).lookup ("behind" : Str) = none := look3 "behind" (by decide +kernel) (by decide +kernel) (by decide +kernel)
theorem lk_ways {K : Nat} {cs : List Fn} : (objF K cs).lookup ("ways" : Str) = none := look3 "ways" (by decide +kernel) (by decide +kernel) (by decide +kernel)
theorem lk_end {K : Nat} {cs : List Fn} : (objF K cs).lookup ("end" : Str) = none := look3 "end" (by decide +kernel) (by decide +kernel) (by decide +kernel)
theorem meth_pure {c m : Str} {F : FF} {fo : DF} {g : LF} {ρ : Env'} {fs : List (Str × D)} {ds : List D} {r : O} (ho : fo ρ = some (.ins c fs, ρ)) (hm : fs.lookup m = none) (ha : g ρ = some (ds, ρ)) (hf : F ((D.ins c fs :: ds).map .fz) = some (r, [])) : nMeth c m F fo g ρ = some (r, ρ) := by
  unfold nMeth
  rw [ho]
  simp only [Option.bind_some]
  rw [if_pos (by simpa using hm), ha]
  simp only [Option.bind_some]
  rw [cal_ap, hf]
  rfl
theorem toD_pure {fo : OF} {ρ : Env'} {r : O} {d : D} (h : fo ρ = some (r, ρ)) (hd : r.freeze = d) : toD fo ρ = some (d, ρ) := by
  rw [ap_toD, h, ← hd]; rfl
theorem aCons_pure {f : DF} {g : LF} {ρ : Env'} {d : D} {ds : List D} (h : f ρ = some (d, ρ)) (h2 : g ρ = some (ds, ρ)) : aCons f g ρ = some (d :: ds, ρ) := by
  rw [ap_aCons, h]; simp [h2]
theorem aOne_pure {f : DF} {ρ : Env'} {d : D} (h : f ρ = some (d, ρ)) : aCons f aNil ρ = some ([d], ρ) := aCons_pure h rfl
theorem aTwo_pure {f g : DF} {ρ : Env'} {d e : D} (h : f ρ = some (d, ρ)) (h2 : g ρ = some (e, ρ)) : aCons f (aCons g aNil) ρ = some ([d, e], ρ) := aCons_pure h (aOne_pure h2)
theorem dA_pure {k : List D → Option D} {g : LF} {ρ : Env'} {c : D} {ds : List D} (h : g ρ = some (ds, ρ)) (h2 : k ds = some c) : dA k g ρ = some (c, ρ) := by
  rw [ap_dA, h]; simp [h2]
theorem nA_pure {k : List D → Option O} {g : LF} {ρ : Env'} {c : O} {ds : List D} (h : g ρ = some (ds, ρ)) (h2 : k ds = some c) : nA k g ρ = some (c, ρ) := by
  rw [ap_nA, h]; simp [h2]
theorem cal_pure {F : FF} {g : LF} {ρ : Env'} {r : O} {ds : List D} {os : List O} (h : g ρ = some (ds, ρ)) (h2 : F (ds.map .fz) = some (r, os)) : nA (cal F) g ρ = some (r, ρ) := nA_pure h (by rw [cal_ap, h2]; rfl)
theorem ends_get {cs : List Fn} {n : Nat} {t : Fn} (h : cs[n]? = some t) : gIx (endsD cs) (nD n) = some (.tup [nD t.a, nD t.b]) := by
  unfold endsD
  rw [gIx_tup, atI_nat, List.getElem?_map, h]
  rfl
/-- the doing's start, its end -/
theorem ends_0 {f g : DF} {ρ : Env'} {cs : List Fn} {n : Nat} {t : Fn} (hf : f ρ = some (endsD cs, ρ)) (hg : g ρ = some (nD n, ρ)) (h : cs[n]? = some t) : d2 gIx (d2 gIx f g) (dC (.int 0)) ρ = some (nD t.a, ρ) := d2_pure (d2_pure hf hg (ends_get h)) rfl (by simp)
theorem ends_1 {f g : DF} {ρ : Env'} {cs : List Fn} {n : Nat} {t : Fn} (hf : f ρ = some (endsD cs, ρ)) (hg : g ρ = some (nD n, ρ)) (h : cs[n]? = some t) : d2 gIx (d2 gIx f g) (dC (.int 1)) ρ = some (nD t.b, ρ) := d2_pure (d2_pure hf hg (ends_get h)) rfl (by simp)
theorem ends_len {f : DF} {ρ : Env'} {cs : List Fn} (hf : f ρ = some (endsD cs, ρ)) : dA gLen (aCons f aNil) ρ = some (nD cs.length, ρ) := dA_pure (aCons_pure hf rfl) (by unfold endsD; simp)
section
variable {K : Nat} {cs : List Fn} {sz : Nat → Nat}
theorem tab_mem {m : Nat} {e : (Nat × Nat) × Int} : e ∈ tabT cs m ↔ ∃ j, j < m ∧ ∃ k, k < cs.length ∧ ent cs j k = some e := by
  unfold tabT rowT
  rw [List.mem_flatMap]
  constructor
  · rintro ⟨j, hj, he⟩
    obtain ⟨k, hk, h⟩ := List.mem_filterMap.mp he
    exact ⟨j, List.mem_range.mp hj, k, List.mem_range.mp hk, h⟩
  · rintro ⟨j, hj, k, hk, h⟩
    exact ⟨j, List.mem_range.mpr hj, List.mem_filterMap.mpr ⟨k, List.mem_range.mpr hk, h⟩⟩
theorem valD_tb {tb : List ((Nat × Nat) × Int)} {p : Nat × Nat} {w : Int} (hm : (p, w) ∈ tb) (hu : ∀ e ∈ tb, e.1 = p → e.2 = w) : valD (tb.map fun e => (key2 e.1, D.int e.2)) (key2 p) = some (.int w) := by
  unfold valD
  rw [List.find?_map]
  cases q : tb.find? ((fun kv : List Key × D => decide (kv.1 = key2 p)) ∘ fun e => (key2 e.1, D.int e.2)) with
  | none =>
    have := List.find?_eq_none.mp q _ hm
    simp at this
  | some e =>
    have h1 := List.find?_some q
    have h2 := List.mem_of_find?_eq_some q
    have h3 : e.1 = p := key2_inj (by simpa using h1)
    simp [hu e h2 h3]
theorem tab_get {i j : Nat} {s t : Fn} (hs : cs[i]? = some s) (ht : cs[j]? = some t) (h : s.b = t.a) : gIx (tbD (tabT cs cs.length)) (.tup [nD i, nD j]) = some (.int (wv cs s t)) := by
  have hi := (List.getElem?_eq_some_iff.mp hs).1
  have hj := (List.getElem?_eq_some_iff.mp ht).1
  have he : ent cs i j = some ((i, j), wv cs s t) := by unfold ent; rw [hs, ht]; simp [h]
  have hv : valD ((tabT cs cs.length).map fun e => (key2 e.1, D.int e.2)) (key2 (i, j)) = some (.int (wv cs s t)) := by
    refine valD_tb (tab_mem.mpr ⟨i, hi, j, hj, he⟩) fun e hm e1 => ?_
    obtain ⟨j', _, k', _, h'⟩ := tab_mem.mp hm
    have := ent_key h'
    rw [e1] at this
    cases this
    rw [he] at h'
    cases h'
    rfl
  unfold tbD
  rw [gIx_dT]
  simp only [keysD, keyD, Option.bind_some, Option.map_some]
  exact hv
/-- the ways from a kind, where they end -/
def isFrom (cs : List Fn) (k n : Nat) : Bool := match cs[n]? with
  | some t => decide (t.a = k)
  | none => false
def wys (cs : List Fn) (k : Nat) : List Int := -1 :: ((List.range cs.length).filter (isFrom cs k)).map fun n : Nat => (n : Int)
def endW (cs : List Fn) (k : Nat) (w : Int) : Nat := if w = -1 then k else match cs[w.toNat]? with
  | some t => t.b
  | none => 0
theorem wys_way {k : Nat} {w : Int} (h : w ∈ wys cs k) : IsWay cs k w (endW cs k w) := by
  unfold wys at h
  rcases List.mem_cons.mp h with rfl | h
  · exact .inl ⟨rfl, by unfold endW; simp⟩
  · obtain ⟨n, hn, rfl⟩ := List.mem_map.mp h
    obtain ⟨h1, h2⟩ := List.mem_filter.mp hn
    unfold isFrom at h2
    cases q : cs[n]? with
    | none => rw [q] at h2; cases h2
    | some t =>
      rw [q] at h2
      refine .inr ⟨n, t, rfl, q, of_decide_eq_true h2, ?_⟩
      unfold endW
      rw [if_neg (by omega)]
      simp [q]
theorem way_wys {k l : Nat} {w : Int} (h : IsWay cs k w l) : w ∈ wys cs k ∧ endW cs k w = l := by
  rcases h with ⟨rfl, rfl⟩ | ⟨n, t, rfl, ht, rfl, rfl⟩
  · exact ⟨List.mem_cons_self, by unfold endW; simp⟩
  · refine ⟨List.mem_cons_of_mem _ (List.mem_map.mpr ⟨n, List.mem_filter.mpr ⟨List.mem_range.mpr (List.getElem?_eq_some_iff.mp ht).1, by unfold isFrom; rw [ht]; simp⟩, rfl⟩), ?_⟩
    unfold endW
    rw [if_neg (by omega)]
    simp [ht]
theorem ways_comp {ρ0 : Env'} {f : DF} {t : BF} {n : Nat} {k : Nat} (hn : ρ0.length = n) (sl : Nat) (hsl : ρ0[sl]? = some none) (hsn : sl < n) (ht : ∀ m : Nat, m < cs.length → t (ρ0.set sl (some (.fz (nD m)))) = some (isFrom cs k m, ρ0.set sl (some (.fz (nD m))))) (hf : f = dVar sl) :
    compL n [sl] (gN sl) t f (rgD 0 cs.length) ρ0 = some ((((List.range cs.length).filter (isFrom cs k)).map fun n : Nat => (n : Int)).map .int, ρ0) := by
  have hid : ∀ x : Option O, (ρ0.set sl x).set sl none = ρ0 := fun x => by
    rw [List.set_set]
    apply List.ext_getElem?
    intro i
    by_cases h : sl = i
    · subst h
      rw [List.getElem?_set_self (by omega), hsl]
    · rw [List.getElem?_set_ne h]
  have hset : ρ0.set sl none = ρ0 := by have := hid none; rwa [List.set_set] at this
  have hun : ∀ x : Option O, unwipe ρ0 (ρ0.set sl x) [sl] = ρ0 := fun x => by
    unfold unwipe unwipe
    rw [hsl]
    exact hid x
  rw [rgD_eq, compL_map (n := n) nD (isFrom cs k) nD hn fun m hm => ⟨ρ0.set sl (some (.fz (nD m))), ρ0.set sl (some (.fz (nD m))), ?_, ht m (List.mem_range.mp hm), fun _ => hun _, fun _ => ⟨ρ0.set sl (some (.fz (nD m))), ?_, hun _⟩⟩]
  · rw [List.map_map]
    rfl
  · unfold wipeE wipeE
    rw [hset]
    rfl
  · rw [hf]
    exact var_at (List.getElem?_set_self (by omega))
end
end VL
set_option Elab.async false
set_option linter.all false
set_option maxRecDepth 100000
set_option maxHeartbeats 4000000
namespace VL
open PySem L2
section
variable {K : Nat} {cs : List Fn} {sz : Nat → Nat}
structure PatK (sz : Nat → Nat) (cs : List Fn) (K : Nat) : Prop extends PatOk sz cs where
  l5 : cs.length ≤ 5
  k1 : 1 ≤ K
  k3 : K ≤ 3
  en : ∀ t ∈ cs, t.a < K ∧ t.b < K
def rowW (cs : List Fn) (k e : Nat) : List Int := (wys cs k).filter fun w => decide (endW cs k w = e)
theorem wys_len (k : Nat) (h : cs.length ≤ 5) : (wys cs k).length ≤ 6 := by
  unfold wys
  have := List.length_filter_le (isFrom cs k) (List.range cs.length)
  simp at this ⊢
  omega
theorem int_inj {a b : Int} (h : D.int a = D.int b) : a = b := D.int.inj h
theorem idx_int (r : List Int) (w : Int) : (r.map D.int).idxOf (D.int w) = r.idxOf w := by
  induction r with
  | nil => rfl
  | cons c r ih =>
    rw [List.map_cons, List.idxOf_cons, List.idxOf_cons, ih]
    by_cases e : c = w
    · subst e; simp
    · have e1 : (c == w) = false := by simpa using e
      have e2 : (D.int c == D.int w) = false := by simpa using e
      rw [e1, e2]
theorem bh_row {k n : Nat} {w : Int} {t : Fn} (P : PatK sz cs K) (ht : cs[n]? = some t) (hw : w ∈ rowW cs k t.a) : IsWay cs k w t.a ∧ IsWay cs t.a n t.b ∧ bh cs w n ∈ rowW cs k t.b := by
  obtain ⟨h1, h2⟩ := List.mem_filter.mp hw
  have h3 := wys_way h1
  rw [of_decide_eq_true h2] at h3
  have h4 : IsWay cs t.a n t.b := .inr ⟨n, t, rfl, ht, rfl, rfl⟩
  obtain ⟨h5, h6⟩ := way_wys (bh_way P.toPatOk h3 h4)
  exact ⟨h3, h4, List.mem_filter.mpr ⟨h5, by simpa using h6⟩⟩
end
end VL
set_option Elab.async false
set_option linter.all false
set_option maxRecDepth 100000
set_option maxHeartbeats 4000000
namespace VL
open PySem L2
section
variable {K : Nat} {cs : List Fn} {sz : Nat → Nat}
theorem pat_0 {f : DF} {ρ : Env'} (h : f ρ = some (patD K cs, ρ)) : d2 gIx f (dC (.int 0)) ρ = some (nD K, ρ) := d2_pure h rfl (by unfold patD; simp)
theorem pat_1 {f : DF} {ρ : Env'} (h : f ρ = some (patD K cs, ρ)) : d2 gIx f (dC (.int 1)) ρ = some (endsD cs, ρ) := d2_pure h rfl (by unfold patD; simp)
theorem pat_2 {f : DF} {ρ : Env'} (h : f ρ = some (patD K cs, ρ)) : d2 gIx f (dC (.int 2)) ρ = some (tbD (tabT cs cs.length), ρ) := d2_pure h rfl (by unfold patD; simp)
theorem lways_ok {k : Nat} (hl : cs.length ≤ 5) : f__law_ways [.fz (patD K cs), .fz (nD k)] = some (.fz (.lst ((wys cs k).map .int)), []) := by
  have h1 : 1 ≤ lim := by decide
  have hlim : cs.length ≤ lim := by unfold lim; omega
  rw [fx__law_ways]
  unfold b__law_ways
  have ec := ways_comp (cs := cs) (ρ0 := [some (.fz (patD K cs)), some (.fz (nD k)), none]) (f := e__law_ways_1) (t := t__law_ways_1) (n := 3) (k := k) rfl 2 rfl (by decide) (fun m hm => by
    unfold t__law_ways_1
    have ht : cs[m]? = some cs[m] := List.getElem?_eq_getElem hm
    have : isFrom cs k m = decide (cs[m].a = k) := by unfold isFrom; rw [ht]
    rw [this]
    exact bD_pure (d2_pure (ends_0 (pat_1 (K := K) (var_at rfl)) (var_at rfl) ht) (var_at rfl) (eq_nat _ _))) rfl
  have e1 : toD (nLc 3 [2] (iRg gRg1 (aCons (dA gLen (aCons (d2 gIx (dVar 0) (dC (.int 1))) aNil)) aNil)) (gN 2) t__law_ways_1 e__law_ways_1) [some (.fz (patD K cs)), some (.fz (nD k)), none] = some (.lst ((((List.range cs.length).filter (isFrom cs k)).map fun n : Nat => (n : Int)).map .int), [some (.fz (patD K cs)), some (.fz (nD k)), none]) := by
    rw [ap_toD, nLc_ap, ap_iRg, aOne_pure (ends_len (pat_1 (K := K) (var_at rfl)))]
    simp only [Option.bind_some, gRg_nat (n := cs.length) (by omega), Option.map_some, rgD_len, if_pos hlim, ec, fz_lst]
  have e2 : toD (nA gLst' (aCons (dC (.int (-1))) aNil)) [some (.fz (patD K cs)), some (.fz (nD k)), none] = some (.lst [.int (-1)], [some (.fz (patD K cs)), some (.fz (nD k)), none]) := by simp [h1]
  have hf := List.length_filter_le (isFrom cs k) (List.range cs.length)
  rw [List.length_range] at hf
  have ea : gAdd (.lst [.int (-1)]) (.lst ((((List.range cs.length).filter (isFrom cs k)).map fun n : Nat => (n : Int)).map .int)) = some (.lst ((wys cs k).map .int)) := by
    rw [gAdd_lst, if_pos (by simp only [List.length_map, List.length_cons, List.length_nil]; unfold lim; omega)]
    rfl
  rw [ap_sRet, ap_toO, d2_pure e2 e1 ea]
  rfl
theorem lend_ok {k l : Nat} {w : Int} (h : IsWay cs k w l) : f__law_end [.fz (patD K cs), .fz (nD k), .fz (.int w)] = some (.fz (nD l), []) := by
  rw [fx__law_end]
  unfold b__law_end
  rw [ap_sRet, ap_toO, ap_dIf, bD_pure (d2_pure (var_at (i := 2) rfl) rfl (gLt_int _ _))]
  rcases h with ⟨rfl, rfl⟩ | ⟨n, t, rfl, ht, rfl, rfl⟩
  · simp
  · have hn : ¬ ((n : Int) < 0) := by omega
    simp only [Option.bind_some, decide_eq_false hn]
    rw [if_neg (by decide), ends_1 (pat_1 (K := K) (var_at rfl)) (var_at (i := 2) rfl) ht]
    rfl
theorem lbehind_ok {i j : Int} {k l m : Nat} (hi : IsWay cs k i l) (hj : IsWay cs l j m) : f__law_behind [.fz (patD K cs), .fz (.int i), .fz (.int j)] = some (.fz (.int (bh cs i j)), []) := by
  have h2 : 2 ≤ lim := by decide
  rw [fx__law_behind]
  unfold b__law_behind
  rw [ap_sSeq, sIf_pure (bOr_pure (bD_pure (d2_pure (var_at (i := 1) rfl) rfl (gLt_int _ _))) (bD_pure (d2_pure (var_at (i := 2) rfl) rfl (gLt_int _ _))))]
  rcases hi with ⟨rfl, rfl⟩ | ⟨n, s, rfl, hs, rfl, rfl⟩
  · rw [if_pos (by simp), bh_l, ap_sRet, ap_toO, d2_pure (d2_pure (var_at (i := 1) rfl) (var_at (i := 2) rfl) (gAdd_int _ _)) rfl (gAdd_int _ _)]
    have : (-1 + j + 1 : Int) = j := by omega
    rw [this]
    rfl
  · rcases hj with ⟨rfl, rfl⟩ | ⟨n', t, rfl, ht, h1, rfl⟩
    · rw [if_pos (by simp), bh_r, ap_sRet, ap_toO, d2_pure (d2_pure (var_at (i := 1) rfl) (var_at (i := 2) rfl) (gAdd_int _ _)) rfl (gAdd_int _ _)]
      have : ((n : Int) + -1 + 1 : Int) = n := by omega
      rw [this]
      rfl
    · have hn : ¬ ((n : Int) < 0) := by omega
      have hn' : ¬ ((n' : Int) < 0) := by omega
      rw [decide_eq_false hn, decide_eq_false hn', if_neg (by decide)]
      simp only [ap_sNil, Option.bind_some]
      rw [bh_n hs ht, ap_sRet, ap_toO, d2_pure (pat_2 (K := K) (var_at rfl)) (dA_pure (aTwo_pure (var_at (i := 1) rfl) (var_at (i := 2) rfl)) (by rw [gTup_ap]; exact if_pos h2)) (tab_get hs ht h1.symm)]
      rfl
end
end VL
set_option Elab.async false
set_option linter.all false
set_option maxRecDepth 100000
set_option maxHeartbeats 4000000
namespace VL
open PySem L2
/-! ### _law_same of a thing with itself -/
theorem isi_pure {Ts : List String} {f : DF} {ρ : Env'} {d : D} {t : String} (h : f ρ = some (d, ρ)) (ht : tyD d = some t) : dIsi Ts f ρ = some (.bl (Ts.any fun T => isB t T), ρ) := by
  unfold dIsi
  rw [h]
  simp [ht]
/-- wide enough for every list -/
def small : Nat → D → Prop
  | 0, d => ∃ i, d = .int i
  | n + 1, d => (∃ i, d = .int i) ∨ ∃ xs, (d = .tup xs ∨ d = .lst xs ∨ d = .tz xs) ∧ xs.length ≤ lim ∧ ∀ x ∈ xs, small n x
end VL
set_option Elab.async false
set_option linter.all false
set_option maxRecDepth 100000
set_option maxHeartbeats 4000000
namespace VL
open PySem L2
section
variable {K : Nat} {cs : List Fn} {sz : Nat → Nat}
/-! ### the pairs that meet -/
end
end VL
set_option Elab.async false
set_option linter.all false
set_option maxRecDepth 100000
set_option maxHeartbeats 4000000
namespace VL
open PySem L2
section
variable {K : Nat} {cs : List Fn} {sz : Nat → Nat}
end
end VL
set_option Elab.async false
set_option linter.all false
set_option maxRecDepth 100000
set_option maxHeartbeats 4000000
namespace VL
open PySem L2
/-! ### steps that leave the frame as it is -/
section
variable {f g h : DF} {ρ ρ' : Env'} {s : SF} {fo : OF} {d a b : D} {i j : Nat}
theorem st_asg (e : f ρ = some (d, ρ)) : sSeq (sAsg f (gN i)) s ρ = s (ρ.set i (some (.fz d))) := by
  rw [ap_sSeq, ap_sAsg, e]; rfl
theorem st_asg2 (e : f ρ = some (.tup [a, b], ρ)) : sSeq (sAsg f (gTu 2 (gsCons (gN i) (gsCons (gN j) gsNil)))) s ρ = s ((ρ.set i (some (.fz a))).set j (some (.fz b))) := by
  rw [ap_sSeq, ap_sAsg, e]; rfl
theorem st_set {o : O} (e : fo ρ = some (o, ρ)) : sSeq (sSetN i fo) s ρ = s (ρ.set i (some o)) := by
  rw [ap_sSeq, ap_sSetN, e]; rfl
theorem st_for {k : GF} {it : IF} {b : SF} {ds : List D} (e : it ρ = some (ds, ρ)) (l : forL k b ds ρ = some (.nx, ρ')) : sSeq (sFor it k b) s ρ = s ρ' := by
  rw [ap_sSeq, sFor_ap, e]
  simp only [Option.bind_some, l]
theorem st_run {b : SF} (e : b ρ = some (.nx, ρ')) : sSeq b s ρ = s ρ' := by
  rw [ap_sSeq, e]; rfl
theorem st_seti {o o' : O} {k : D} (e : g ρ = some (d, ρ)) (e2 : f ρ = some (k, ρ)) (e3 : ρ[i]? = some (some o)) (e4 : setO o k d = some o') : sSetI i f g ρ = some (.nx, ρ.set i (some o')) := by
  rw [ap_sSetI, e]
  simp only [Option.bind_some, e3, e2, e4, Option.map_some]
theorem ixv_pure {o : O} {k : D} (e : ρ[i]? = some (some o)) (e2 : f ρ = some (k, ρ)) (e3 : ixO o k = some d) : dIxV i f ρ = some (d, ρ) := by
  rw [ap_dIxV, e]
  simp only [e2, Option.bind_some, e, e3, Option.map_some]
theorem getv_pure {o : O} {k : D} {w : Option D} (e : ρ[i]? = some (some o)) (e0 : (lookO o (.int 0)).isSome = true) (e2 : f ρ = some (k, ρ)) (e3 : g ρ = some (d, ρ)) (e4 : lookO o k = some w) : dGetV i f g ρ = some (w.getD d, ρ) := by
  unfold dGetV
  rw [e]
  simp only [if_pos (Or.inl e0), e2, Option.bind_some, e3, e, e4, Option.map_some]
theorem rg_pure {ag : LF} {n : Nat} (e : ag ρ = some ([nD n], ρ)) (h : n ≤ 1000000) : iRg gRg1 ag ρ = some (rgD 0 n, ρ) := by
  rw [ap_iRg, e]
  simp only [Option.bind_some, gRg_nat h, Option.map_some]
end
theorem atI_map {α : Type} {f : α → D} {xs : List α} {k : Nat} {x : α} (h : xs[k]? = some x) : atI (xs.map f) (k : Int) = some (f x) := by
  rw [atI_nat, List.getElem?_map, h]; rfl
theorem max_nat (a b : Nat) : gMax [nD a, nD b] = some (nD (max a b)) := by
  unfold gMax
  by_cases h : (b : Int) > a
  · simp only [if_pos h]; congr 2; omega
  · simp only [if_neg h]; congr 2; omega
theorem min_nat (a b : Nat) : gMin [nD a, nD b] = some (nD (min a b)) := by
  unfold gMin
  by_cases h : (b : Int) < a
  · simp only [if_pos h]; congr 2; omega
  · simp only [if_neg h]; congr 2; omega

/-! ### rows of numbers -/
abbrev rowL (r : List Nat) : D := .lst (r.map nD)
abbrev mkO (ms : List (List Nat)) : O := .lst (ms.map fun r => .fz (rowL r))
abbrev mkD (ms : List (List Nat)) : D := .lst (ms.map rowL)
theorem mkO_freeze (ms : List (List Nat)) : (mkO ms).freeze = mkD ms := by
  unfold mkO
  rw [fz_lst', freezes_fun]
theorem mkO_ix {ms : List (List Nat)} {k : Nat} {r : List Nat} (h : ms[k]? = some r) : ixO (mkO ms) (nD k) = some (rowL r) := by
  rw [ixO_lst, atI_nat, List.getElem?_map, h]; rfl
theorem rowL_ix {r : List Nat} {k x : Nat} (h : r[k]? = some x) : gIx (rowL r) (nD k) = some (nD x) := by
  rw [gIx_lst]; exact atI_map h
theorem mkD_ix {ms : List (List Nat)} {k : Nat} {r : List Nat} (h : ms[k]? = some r) : gIx (mkD ms) (nD k) = some (rowL r) := by
  rw [gIx_lst]; exact atI_map h
theorem mkO_set {ms : List (List Nat)} {k : Nat} {r : List Nat} (h : k < ms.length) : setO (mkO ms) (nD k) (rowL r) = some (mkO (ms.set k r)) := by
  rw [setO_lst, List.length_map, ixN_nat h]
  simp only [Option.map_some]
  unfold mkO
  rw [List.map_set]
/-- everything that is hi becomes lo -/
def relab (lo hi : Nat) (r : List Nat) : List Nat := r.map fun x => if x = hi then lo else x
/-- a dict of numbers, by what it tells -/
def Tells (kvs : List (Key × O)) (f : Nat → Option Nat) : Prop := ∀ m : Nat, valD kvs (.inl (m : Int)) = (f m).map fun e => O.fz (nD e)
theorem tells_nil : Tells [] fun _ => none := fun m => rfl
theorem putD_len {κt : Type} [DecidableEq κt] {α : Type} (kvs : List (κt × α)) (k : κt) (v : α) : (putD kvs k v).length ≤ kvs.length + 1 := by
  unfold putD
  split
  · rw [List.length_map]; omega
  · rw [List.length_append]; exact Nat.le_refl _
theorem valD_cons {κt : Type} [DecidableEq κt] {α : Type} (e : κt × α) (kvs : List (κt × α)) (k : κt) : valD (e :: kvs) k = if e.1 = k then some e.2 else valD kvs k := by
  unfold valD
  rw [List.find?_cons]
  by_cases h : e.1 = k
  · simp [h]
  · simp [h]
theorem valD_app {κt : Type} [DecidableEq κt] {α : Type} (l : List (κt × α)) (k k' : κt) (v : α) : valD (l ++ [(k, v)]) k' = match valD l k' with
  | some z => some z
  | none => if k = k' then some v else none := by
  induction l with
  | nil => simp [valD]
  | cons e l ih =>
    rw [List.cons_append, valD_cons, valD_cons]
    split
    · rfl
    · exact ih
theorem valD_none {κt : Type} [DecidableEq κt] {α : Type} {l : List (κt × α)} {k : κt} (h : l.any (fun kv => decide (kv.1 = k)) = false) : valD l k = none := by
  induction l with
  | nil => rfl
  | cons e l ih =>
    rw [List.any_cons, Bool.or_eq_false_iff] at h
    rw [valD_cons, if_neg (of_decide_eq_false h.1), ih h.2]
theorem valD_map {κt : Type} [DecidableEq κt] {α : Type} (l : List (κt × α)) (k k' : κt) (v : α) (h : l.any (fun kv => decide (kv.1 = k)) = true) : valD (l.map fun kv => if kv.1 = k then (kv.1, v) else kv) k' = if k = k' then some v else valD l k' := by
  induction l with
  | nil => cases h
  | cons e l ih =>
    rw [List.map_cons, valD_cons, valD_cons]
    by_cases h1 : e.1 = k
    · simp only [h1, if_true]
      by_cases h2 : k = k'
      · simp only [h2, if_true]
      · simp only [h2, if_false]
        by_cases h3 : l.any (fun kv => decide (kv.1 = k)) = true
        · rw [ih h3, if_neg h2]
        · have e2 : (l.map fun kv => if kv.1 = k then (kv.1, v) else kv) = l := by
            refine (List.map_congr_left fun x hx => ?_).trans (List.map_id l)
            have : ¬ x.1 = k := fun e3 => h3 (List.any_eq_true.mpr ⟨x, hx, by simpa using e3⟩)
            simp [this]
          rw [e2]
    · rw [List.any_cons, decide_eq_false h1, Bool.false_or] at h
      simp only [h1, if_false]
      rw [ih h]
      by_cases h2 : e.1 = k'
      · have : ¬ k = k' := fun e => h1 (h2.trans e.symm)
        simp only [h2, if_true, this, if_false]
      · simp only [h2, if_false]
theorem valD_put {κt : Type} [DecidableEq κt] {α : Type} (l : List (κt × α)) (k k' : κt) (v : α) : valD (putD l k v) k' = if k = k' then some v else valD l k' := by
  unfold putD
  split
  · rename_i h; exact valD_map l k k' v h
  · rename_i h
    have h := eq_false_of_ne_true h
    rw [valD_app]
    by_cases h2 : k = k'
    · subst h2
      rw [valD_none h]
    · simp only [h2, if_false]
      cases valD l k' <;> rfl
theorem Tells.put {kvs : List (Key × O)} {f : Nat → Option Nat} (h : Tells kvs f) (k e : Nat) : Tells (putD kvs (.inl (k : Int)) (.fz (nD e))) fun m => if k = m then some e else f m := fun m => by
  rw [valD_put]
  by_cases q : k = m
  · subst q; simp only [if_true, Option.map_some]
  · have : ¬ ((Sum.inl (k : Int) : Key) = Sum.inl (m : Int)) := by
      intro z
      injection z with z
      exact q (by omega)
    simp only [q, if_false, this]
    exact h m
theorem Tells.look {kvs : List (Key × O)} {f : Nat → Option Nat} (h : Tells kvs f) (k : Nat) : lookO (.dK kvs) (nD k) = some ((f k).map nD) := by
  unfold lookO keyD
  simp only [Option.bind_some]
  rw [h k]
  cases f k <;> rfl
theorem Tells.ix {kvs : List (Key × O)} {f : Nat → Option Nat} (h : Tells kvs f) {k e : Nat} (q : f k = some e) : ixO (.dK kvs) (nD k) = some (nD e) := by
  unfold ixO keyD
  simp only [Option.bind_some]
  rw [h k, q]
  rfl
theorem dK_isD (kvs : List (Key × O)) (h : Tells kvs f) : (lookO (.dK kvs) (.int 0)).isSome = true := by
  have := h.look 0
  show (lookO (.dK kvs) (nD 0)).isSome = true
  rw [this]; rfl
end VL
set_option Elab.async false
set_option linter.all false
set_option maxRecDepth 100000
set_option maxHeartbeats 4000000
namespace VL
open PySem L2
/-! ### _law_merged: one look at a thing -/
theorem relab_at {lo hi x l : Nat} {r : List Nat} (h : r[x]? = some l) : (relab lo hi r)[x]? = some (if l = hi then lo else l) := by
  unfold relab; rw [List.getElem?_map, h]; rfl
theorem relab_e {ρ : Env'} {n v hi lo : Nat} {h l : Nat} {r : List Nat} {f : DF} (hn : ρ.length = n) {w : Option O} (ew : ρ[v]? = some w) (hk : keepD (some w) = w) (h1 : hi ≠ v) (h2 : lo ≠ v) (e1 : ρ[hi]? = some (some (.fz (nD h)))) (e2 : ρ[lo]? = some (some (.fz (nD l)))) (ef : f = dIf (bD (d2 gEq (dVar v) (dVar hi))) (dVar lo) (dVar v)) :
    compL n [v] (gN v) bYes f (r.map nD) ρ = some ((relab l h r).map nD, ρ) := by
  subst ef
  have hv : v < ρ.length := (List.getElem?_eq_some_iff.mp ew).1
  have := compL_all (n := n) (vs := [v]) (g := gN v) (e := dIf (bD (d2 gEq (dVar v) (dVar hi))) (dVar lo) (dVar v)) (ρ := ρ) nD (fun x => nD (if x = h then l else x)) hn (xs := r) (fun x _ => by
    refine ⟨ρ.set v (some (.fz (nD x))), ?_, ?_⟩
    · show some ((ρ.set v none).set v (some (.fz (nD x)))) = _
      rw [List.set_set]
    · refine ⟨ρ.set v (some (.fz (nD x))), ?_, ?_⟩
      · have a1 : dVar v (ρ.set v (some (.fz (nD x)))) = some (nD x, _) := var_at (List.getElem?_set_self (by omega))
        have a2 : dVar hi (ρ.set v (some (.fz (nD x)))) = some (nD h, _) := var_at (by rw [List.getElem?_set_ne (Ne.symm h1)]; exact e1)
        have a3 : dVar lo (ρ.set v (some (.fz (nD x)))) = some (nD l, _) := var_at (by rw [List.getElem?_set_ne (Ne.symm h2)]; exact e2)
        rw [ap_dIf, bD_pure (d2_pure a1 a2 (eq_nat x h))]
        simp only [Option.bind_some]
        by_cases q : x = h
        · simp only [q, decide_true, if_true]; rw [q] at a3; rw [a3]
        · simp only [q, decide_false, if_false, Bool.false_eq_true]; exact a1
      · show ((ρ.set v (some (.fz (nD x)))).set v (keepD ρ[v]?)) = ρ
        rw [List.set_set, ew, hk]
        obtain ⟨h5, h6⟩ := List.getElem?_eq_some_iff.mp ew
        rw [← h6]
        exact List.set_getElem_self h5)
  rw [this]
  unfold relab
  rw [List.map_map]; rfl

theorem mg_1 {a0 v3 v9 v10 v11 v12 : Option O} {ms as : List (List Nat)} {kvs : List (Key × O)} {f : Nat → Option Nat} {k o t i m x e : Nat} {ro rt ra : List Nat} (h1 : ms[o]? = some ro) (h2 : ro[i]? = some m) (h3 : ms[t]? = some rt) (h4 : as[k]? = some ra) (h5 : ra[i]? = some x) (h6 : rt[x]? = some e)
    (hf : Tells kvs f) (hl : kvs.length < lim) (hz : rt.length ≤ lim) (ht : t < ms.length) :
    l__law_merged_1 [a0, some (mkO ms), some (.fz (mkD as)), v3, some (.fz (nD k)), some (.fz (nD o)), some (.fz (nD t)), some (.dK kvs), some (.fz (nD i)), v9, v10, v11, v12, none] =
    if (f m).getD e = e then some (.nx, [a0, some (mkO ms), some (.fz (mkD as)), v3, some (.fz (nD k)), some (.fz (nD o)), some (.fz (nD t)), some (.dK (putD kvs (.inl (m : Int)) (.fz (nD e)))), some (.fz (nD i)), some (.fz (nD m)), some (.fz (nD e)), v11, v12, none])
    else some (.bk, [a0, some (mkO (ms.set t (relab (min ((f m).getD e) e) (max ((f m).getD e) e) rt))), some (.fz (mkD as)), some (.fz (.bl true)), some (.fz (nD k)), some (.fz (nD o)), some (.fz (nD t)), some (.dK []), some (.fz (nD i)), some (.fz (nD m)), some (.fz (nD e)), some (.fz (nD (min ((f m).getD e) e))), some (.fz (nD (max ((f m).getD e) e))), none]) := by
  unfold l__law_merged_1
  rw [st_asg (d := nD m) (d2_pure (ixv_pure rfl (var_at rfl) (mkO_ix h1)) (var_at rfl) (rowL_ix h2))]
  rw [st_asg (d := nD e) (d2_pure (ixv_pure rfl (var_at rfl) (mkO_ix h3)) (d2_pure (d2_pure (var_at rfl) (var_at rfl) (mkD_ix h4)) (var_at rfl) (rowL_ix h5)) (rowL_ix h6))]
  have lk : (Option.map nD (f m)).getD (nD e) = nD ((f m).getD e) := by cases f m <;> rfl
  have eg := getv_pure (i := 7) (f := dVar 9) (g := dVar 10) (d := nD e) (k := nD m) (ρ := [a0, some (mkO ms), some (.fz (mkD as)), v3, some (.fz (nD k)), some (.fz (nD o)), some (.fz (nD t)), some (.dK kvs), some (.fz (nD i)), some (.fz (nD m)), some (.fz (nD e)), v11, v12, none]) rfl (dK_isD kvs hf) (var_at rfl) (var_at rfl) (hf.look m)
  rw [lk] at eg
  have et : bD (d2 gNe (dGetV 7 (dVar 9) (dVar 10)) (dVar 10)) [a0, some (mkO ms), some (.fz (mkD as)), v3, some (.fz (nD k)), some (.fz (nD o)), some (.fz (nD t)), some (.dK kvs), some (.fz (nD i)), some (.fz (nD m)), some (.fz (nD e)), v11, v12, none] = some (!decide ((f m).getD e = e), _) := bD_pure (d2_pure eg (var_at rfl) (ne_nat _ _))
  show sSeq (sIf _ _ _) _ [a0, some (mkO ms), some (.fz (mkD as)), v3, some (.fz (nD k)), some (.fz (nD o)), some (.fz (nD t)), some (.dK kvs), some (.fz (nD i)), some (.fz (nD m)), some (.fz (nD e)), v11, v12, none] = _
  by_cases q : (f m).getD e = e
  · rw [if_pos q]
    rw [decide_eq_true q] at et
    rw [st_run (by rw [sIf_pure et]; rfl)]
    exact st_seti (o := .dK kvs) (k := nD m) (var_at rfl) (var_at rfl) rfl (by unfold setO keyD; simp only [Option.bind_some, if_pos hl])
  · rw [if_neg q]
    rw [decide_eq_false q] at et
    obtain ⟨e0, he0⟩ : ∃ e0, f m = some e0 := by
      cases z : f m with
      | none => rw [z] at q; exact absurd rfl q
      | some e0 => exact ⟨e0, rfl⟩
    rw [he0]
    simp only [Option.getD_some]
    rw [ap_sSeq, sIf_pure et, if_pos (show (!false) = true from rfl)]
    rw [st_asg (d := nD (min e0 e)) (dA_pure (aTwo_pure (ixv_pure rfl (var_at rfl) (hf.ix he0)) (var_at rfl)) (min_nat _ _))]
    rw [st_asg (d := nD (max e0 e)) (dA_pure (aTwo_pure (ixv_pure rfl (var_at rfl) (hf.ix he0)) (var_at rfl)) (max_nat _ _))]
    have er := relab_e (ρ := [a0, some (mkO ms), some (.fz (mkD as)), v3, some (.fz (nD k)), some (.fz (nD o)), some (.fz (nD t)), some (.dK kvs), some (.fz (nD i)), some (.fz (nD m)), some (.fz (nD e)), some (.fz (nD (min e0 e))), some (.fz (nD (max e0 e))), none]) (n := 14) (v := 13) (hi := 12) (lo := 11) (r := rt) (f := e__law_merged_1) rfl rfl rfl (by decide) (by decide) rfl rfl rfl
    have ec : toD (nLc 14 [13] (iSeq (dIxV 1 (dVar 6))) (gN 13) bYes e__law_merged_1) [a0, some (mkO ms), some (.fz (mkD as)), v3, some (.fz (nD k)), some (.fz (nD o)), some (.fz (nD t)), some (.dK kvs), some (.fz (nD i)), some (.fz (nD m)), some (.fz (nD e)), some (.fz (nD (min e0 e))), some (.fz (nD (max e0 e))), none] = some (rowL (relab (min e0 e) (max e0 e) rt), [a0, some (mkO ms), some (.fz (mkD as)), v3, some (.fz (nD k)), some (.fz (nD o)), some (.fz (nD t)), some (.dK kvs), some (.fz (nD i)), some (.fz (nD m)), some (.fz (nD e)), some (.fz (nD (min e0 e))), some (.fz (nD (max e0 e))), none]) := by
      rw [ap_toD, nLc_ap, ap_iSeq, ixv_pure (o := mkO ms) (k := nD t) rfl (var_at rfl) (mkO_ix h3)]
      simp only [Option.bind_some, items_lst, Option.map_some]
      rw [if_pos (by rw [List.length_map]; exact hz), er]
      simp only [Option.map_some, fz_lst]
    simp only [List.set_cons_succ, List.set_cons_zero]
    rw [st_run (st_seti (i := 1) (f := dVar 6) (o := mkO ms) (o' := mkO (ms.set t (relab (min e0 e) (max e0 e) rt))) (k := nD t) ec (var_at rfl) rfl (mkO_set ht))]
    rfl
end VL
set_option Elab.async false
set_option linter.all false
set_option maxRecDepth 100000
set_option maxHeartbeats 4000000
namespace VL
open PySem L2
/-! ### _law_merged: its loops -/
/-- a loop that may break -/
theorem forL_brk {g : GF} {b : SF} {ds : List D} (I : Nat → Env' → Prop) (Q : Env' → Prop) {ρ : Env'} (h0 : I 0 ρ)
    (hs : ∀ (i : Nat) (d : D) (ρ : Env'), ds[i]? = some d → I i ρ → ∃ ρ1, g d ρ = some ρ1 ∧ ((∃ ρ2, b ρ1 = some (.nx, ρ2) ∧ I (i + 1) ρ2) ∨ ∃ ρ2, b ρ1 = some (.bk, ρ2) ∧ Q ρ2)) :
    ∃ ρ', forL g b ds ρ = some (.nx, ρ') ∧ (I ds.length ρ' ∨ Q ρ') := by
  induction ds generalizing ρ I with
  | nil => exact ⟨ρ, rfl, .inl h0⟩
  | cons d ds ih =>
    obtain ⟨ρ1, e1, h⟩ := hs 0 d ρ rfl h0
    rcases h with ⟨ρ2, e2, h1⟩ | ⟨ρ2, e2, h1⟩
    · obtain ⟨ρ', e3, h3⟩ := ih (fun i => I (i + 1)) h1 fun i d' ρ' hd hI => hs (i + 1) d' ρ' (by simpa using hd) hI
      refine ⟨ρ', ?_, by simpa using h3⟩
      rw [forL_cons, e1]
      simp only [Option.bind_some, e2, e3]
    · refine ⟨ρ2, ?_, .inr h1⟩
      rw [forL_cons, e1]
      simp only [Option.bind_some, e2]
def Idem (r : List Nat) : Prop := ∀ x l : Nat, r[x]? = some l → r[l]? = some l
theorem relab_len (lo hi : Nat) (r : List Nat) : (relab lo hi r).length = r.length := by unfold relab; rw [List.length_map]
theorem relab_idem {lo hi : Nat} {r : List Nat} (h : Idem r) (hl : r[lo]? = some lo) : Idem (relab lo hi r) := by
  intro x l' e
  unfold relab at e
  rw [List.getElem?_map] at e
  cases q : r[x]? with
  | none => rw [q] at e; cases e
  | some l =>
    rw [q] at e
    have e : (if l = hi then lo else l) = l' := Option.some.inj e
    by_cases c : l = hi
    · rw [if_pos c] at e
      rw [← e, relab_at hl]
      congr 1
      split <;> rfl
    · rw [if_neg c] at e
      rw [← e, relab_at (h x l q), if_neg c]
theorem relab_sum {lo hi : Nat} (hlt : lo < hi) : ∀ (r : List Nat), (relab lo hi r).sum ≤ r.sum ∧ (hi ∈ r → (relab lo hi r).sum < r.sum)
  | [] => ⟨Nat.le_refl _, fun h => by cases h⟩
  | a :: r => by
    obtain ⟨h1, h2⟩ := relab_sum hlt r
    unfold relab at *
    rw [List.map_cons, List.sum_cons, List.sum_cons]
    by_cases c : a = hi
    · rw [if_pos c]
      exact ⟨by omega, fun _ => by omega⟩
    · rw [if_neg c]
      refine ⟨by omega, fun h => ?_⟩
      rcases List.mem_cons.mp h with h | h
      · exact absurd h.symm c
      · have := h2 h; omega
def total (ms : List (List Nat)) : Nat := (ms.map List.sum).sum
theorem total_set {r r' : List Nat} (hlt : r'.sum < r.sum) : ∀ {ms : List (List Nat)} {t : Nat}, ms[t]? = some r → total (ms.set t r') < total ms
  | [], t, h => by cases h
  | a :: ms, 0, h => by
    have h : a = r := Option.some.inj h
    subst h
    show ((r' :: ms).map List.sum).sum < ((a :: ms).map List.sum).sum
    rw [List.map_cons, List.map_cons, List.sum_cons, List.sum_cons]; omega
  | a :: ms, t + 1, h => by
    have ih := total_set hlt (ms := ms) (t := t) (by simpa using h)
    unfold total at *
    rw [List.set_cons_succ, List.map_cons, List.map_cons, List.sum_cons, List.sum_cons]; omega
/-- marks: rows of the lengths L, each mark its own mark -/
structure Mk (L : List Nat) (ms : List (List Nat)) : Prop where
  len : ms.map List.length = L
  id : ∀ r ∈ ms, Idem r
theorem Mk.get {L : List Nat} {ms : List (List Nat)} (M : Mk L ms) {e n : Nat} (h : L[e]? = some n) : ∃ r, ms[e]? = some r ∧ r.length = n ∧ Idem r := by
  rw [← M.len, List.getElem?_map] at h
  cases q : ms[e]? with
  | none => rw [q] at h; cases h
  | some r =>
    rw [q] at h
    exact ⟨r, rfl, Option.some.inj h, M.id r (List.mem_of_getElem? q)⟩
theorem Mk.relab {L : List Nat} {ms : List (List Nat)} (M : Mk L ms) {t lo hi : Nat} {r : List Nat} (h : ms[t]? = some r) (hl : r[lo]? = some lo) : Mk L (ms.set t (relab lo hi r)) := by
  constructor
  · rw [← M.len, List.map_set, relab_len]
    obtain ⟨h1, h2⟩ := List.getElem?_eq_some_iff.mp h
    have : (ms.map List.length)[t]'(by rw [List.length_map]; exact h1) = r.length := by rw [List.getElem_map, h2]
    rw [← this]
    exact List.set_getElem_self _
  · intro r' hr'
    rcases List.mem_or_eq_of_mem_set hr' with h1 | h1
    · exact M.id r' h1
    · rw [h1]; exact relab_idem (M.id r (List.mem_of_getElem? h)) hl
/-- where a thing's mark's doing leads: the mark there -/
def eM (ra rt : List Nat) (x : Nat) : Option Nat := ra[x]?.bind fun y => rt[y]?
/-- things of one mark are led to things of one mark -/
def Con (ro ra rt : List Nat) : Prop := ∀ x y m : Nat, ro[x]? = some m → ro[y]? = some m → eM ra rt x = eM ra rt y
structure Acts (cs : List Fn) (L : List Nat) (as : List (List Nat)) : Prop where
  act : ∀ (k : Nat) (t : Fn), cs[k]? = some t → ∃ ra la lb, as[k]? = some ra ∧ L[t.a]? = some la ∧ L[t.b]? = some lb ∧ ra.length = la ∧ ∀ x ∈ ra, x < lb
  few : ∀ n ∈ L, n ≤ 7
  len : L.length ≤ 3
theorem mg_2 {cs : List Fn} {L : List Nat} {as ms : List (List Nat)} {a0 v3 v8 v9 v10 v11 v12 : Option O} {k : Nat} {t : Fn} (A : Acts cs L as) (M : Mk L ms) (hk : cs[k]? = some t) :
    ∃ ro ra rt v3' v7' v8' v9' v10' v11' v12' ms', ms[t.a]? = some ro ∧ as[k]? = some ra ∧ ms[t.b]? = some rt ∧
      forL (gN 8) l__law_merged_1 (rgD 0 ro.length) [a0, some (mkO ms), some (.fz (mkD as)), v3, some (.fz (nD k)), some (.fz (nD t.a)), some (.fz (nD t.b)), some (.dK []), v8, v9, v10, v11, v12, none] =
        some (.nx, [a0, some (mkO ms'), some (.fz (mkD as)), v3', some (.fz (nD k)), some (.fz (nD t.a)), some (.fz (nD t.b)), v7', v8', v9', v10', v11', v12', none]) ∧ Mk L ms' ∧
      ((ms' = ms ∧ v3' = v3 ∧ Con ro ra rt) ∨ (v3' = some (.fz (.bl true)) ∧ total ms' < total ms)) := by
  obtain ⟨ra, la, lb, hra, hla, hlb, hlen, hend⟩ := A.act k t hk
  obtain ⟨ro, hro, hrl, hri⟩ := M.get hla
  obtain ⟨rt, hrt, htl, hti⟩ := M.get hlb
  have l7 := A.few la (List.mem_of_getElem? hla)
  have l8 := A.few lb (List.mem_of_getElem? hlb)
  have htm : t.b < ms.length := (List.getElem?_eq_some_iff.mp hrt).1
  have eE : ∀ x : Nat, x < ro.length → ∃ y e, ra[x]? = some y ∧ rt[y]? = some e ∧ eM ra rt x = some e := fun x hx => by
    have h1 : ra[x]? = some ra[x] := List.getElem?_eq_getElem (by omega)
    have h2 := hend _ (List.getElem_mem (show x < ra.length by omega))
    have h3 : rt[ra[x]]? = some rt[ra[x]] := List.getElem?_eq_getElem (by omega)
    exact ⟨_, _, h1, h3, by unfold eM; rw [h1]; exact h3⟩
  obtain ⟨ρ', e, hI⟩ := forL_brk (g := gN 8) (b := l__law_merged_1) (ds := rgD 0 ro.length) (ρ := [a0, some (mkO ms), some (.fz (mkD as)), v3, some (.fz (nD k)), some (.fz (nD t.a)), some (.fz (nD t.b)), some (.dK []), v8, v9, v10, v11, v12, none])
    (fun i ρ => ∃ kvs f v8 v9 v10 v11 v12, ρ = [a0, some (mkO ms), some (.fz (mkD as)), v3, some (.fz (nD k)), some (.fz (nD t.a)), some (.fz (nD t.b)), some (.dK kvs), v8, v9, v10, v11, v12, none] ∧ Tells kvs f ∧ kvs.length ≤ i ∧
      (∀ m e, f m = some e → ∃ x, x < i ∧ ro[x]? = some m ∧ eM ra rt x = some e) ∧ ∀ x m, x < i → ro[x]? = some m → f m = eM ra rt x)
    (fun ρ => ∃ v8 v9 v10 v11 v12 lo hi, ρ = [a0, some (mkO (ms.set t.b (relab lo hi rt))), some (.fz (mkD as)), some (.fz (.bl true)), some (.fz (nD k)), some (.fz (nD t.a)), some (.fz (nD t.b)), some (.dK []), v8, v9, v10, v11, v12, none] ∧ lo < hi ∧ rt[lo]? = some lo ∧ rt[hi]? = some hi)
    ⟨[], fun _ => none, v8, v9, v10, v11, v12, rfl, tells_nil, Nat.le_refl _, (fun m e h => by cases h), fun x m h => absurd h (Nat.not_lt_zero _)⟩ (by
      rintro i d ρ hd ⟨kvs, f, w8, w9, w10, w11, w12, rfl, hf, hkl, h1, h2⟩
      obtain ⟨hi, rfl⟩ := rgD_get hd
      obtain ⟨y, e, hy, he, hE⟩ := eE i hi
      have hm : ro[i]? = some ro[i] := List.getElem?_eq_getElem hi
      have st := mg_1 (a0 := a0) (v3 := v3) (v9 := w9) (v10 := w10) (v11 := w11) (v12 := w12) (k := k) (o := t.a) (i := i) hro hm hrt hra hy he hf (by unfold lim; omega) (by unfold lim; omega) htm
      refine ⟨_, rfl, ?_⟩
      by_cases q : (f ro[i]).getD e = e
      · rw [if_pos q] at st
        refine .inl ⟨_, st, _, _, _, _, _, _, _, rfl, hf.put _ _, Nat.le_trans (putD_len _ _ _) (by omega), fun m e' h => ?_, fun x m hx hxm => ?_⟩
        · by_cases c : ro[i] = m
          · simp only [c, if_true, Option.some.injEq] at h
            subst h
            exact ⟨i, by omega, by rw [hm, c], hE⟩
          · simp only [c, if_false] at h
            obtain ⟨x, hx, z⟩ := h1 m e' h
            exact ⟨x, by omega, z⟩
        · by_cases c : ro[i] = m
          · simp only [c, if_true]
            by_cases c2 : x = i
            · rw [c2, hE]
            · have z := h2 x m (by omega) hxm
              cases q2 : f ro[i] with
              | none =>
                rw [c, z] at q2
                obtain ⟨_, _, _, _, z2⟩ := eE x (by omega)
                rw [q2] at z2; cases z2
              | some e2 =>
                rw [q2] at q
                have q : e2 = e := q
                rw [← z, ← c, q2, q]
          · simp only [c, if_false]
            have : x ≠ i := fun e => c (by rw [e] at hxm; exact Option.some.inj (hm.symm.trans hxm))
            exact h2 x m (by omega) hxm
      · rw [if_neg q] at st
        cases q2 : f ro[i] with
        | none => rw [q2] at q; exact absurd rfl q
        | some e2 =>
          rw [q2] at st q
          have q : e2 ≠ e := q
          simp only [Option.getD_some] at st
          obtain ⟨x, hx, _, hx2⟩ := h1 _ _ q2
          obtain ⟨y2, e3, _, he3, hE3⟩ := eE x (by omega)
          have e5 : e3 = e2 := Option.some.inj (hE3.symm.trans hx2)
          subst e5
          have i1 := hti _ _ he3
          have i2 := hti _ _ he
          refine .inr ⟨_, st, _, _, _, _, _, _, _, rfl, by omega, ?_, ?_⟩
          · by_cases z : e3 ≤ e
            · rw [Nat.min_eq_left z]; exact i1
            · rw [Nat.min_eq_right (by omega)]; exact i2
          · by_cases z : e3 ≤ e
            · rw [Nat.max_eq_right z]; exact i2
            · rw [Nat.max_eq_left (by omega)]; exact i1)
  rcases hI with ⟨kvs, f, w8, w9, w10, w11, w12, rfl, hf, hkl, h1, h2⟩ | ⟨w8, w9, w10, w11, w12, lo, hi, rfl, hlt, hlo, hhi⟩
  · refine ⟨ro, ra, rt, v3, _, _, _, _, _, _, ms, hro, hra, hrt, e, M, .inl ⟨rfl, rfl, fun x y m hx hy => ?_⟩⟩
    rw [rgD_len] at h2
    rw [← h2 x m (List.getElem?_eq_some_iff.mp hx).1 hx, ← h2 y m (List.getElem?_eq_some_iff.mp hy).1 hy]
  · exact ⟨ro, ra, rt, _, _, _, _, _, _, _, _, hro, hra, hrt, e, M.relab hrt hlo, .inr ⟨rfl, total_set ((relab_sum hlt rt).2 (List.mem_of_getElem? hhi)) hrt⟩⟩
end VL
set_option Elab.async false
set_option linter.all false
set_option maxRecDepth 100000
set_option maxHeartbeats 4000000
namespace VL
open PySem L2
/-- all doings lead things of one mark to things of one mark -/
def Cons (cs : List Fn) (as ms : List (List Nat)) (n : Nat) : Prop := ∀ j : Nat, j < n → ∀ t : Fn, cs[j]? = some t → ∀ ro ra rt, ms[t.a]? = some ro → as[j]? = some ra → ms[t.b]? = some rt → Con ro ra rt
theorem mg_3 {cs : List Fn} {K : Nat} {L : List Nat} {as ms : List (List Nat)} {v4 v5 v6 v7 v8 v9 v10 v11 v12 : Option O} (A : Acts cs L as) (M : Mk L ms) (h5 : cs.length ≤ 5) :
    ∃ ch w4 w5 w6 w7 w8 w9 w10 w11 w12 ms', forL (gN 4) l__law_merged_2 (rgD 0 cs.length) [some (.fz (patD K cs)), some (mkO ms), some (.fz (mkD as)), some (.fz (.bl false)), v4, v5, v6, v7, v8, v9, v10, v11, v12, none] =
      some (.nx, [some (.fz (patD K cs)), some (mkO ms'), some (.fz (mkD as)), some (.fz (.bl ch)), w4, w5, w6, w7, w8, w9, w10, w11, w12, none]) ∧ Mk L ms' ∧
      ((ch = false ∧ ms' = ms ∧ Cons cs as ms cs.length) ∨ (ch = true ∧ total ms' < total ms)) := by
  obtain ⟨ρ', e, ch, w4, w5, w6, w7, w8, w9, w10, w11, w12, ms', rfl, M', h⟩ := forL_inv (g := gN 4) (b := l__law_merged_2) (ds := rgD 0 cs.length) (ρ := [some (.fz (patD K cs)), some (mkO ms), some (.fz (mkD as)), some (.fz (.bl false)), v4, v5, v6, v7, v8, v9, v10, v11, v12, none])
    (fun k ρ => ∃ ch v4 v5 v6 v7 v8 v9 v10 v11 v12 ms', ρ = [some (.fz (patD K cs)), some (mkO ms'), some (.fz (mkD as)), some (.fz (.bl ch)), v4, v5, v6, v7, v8, v9, v10, v11, v12, none] ∧ Mk L ms' ∧
      ((ch = false ∧ ms' = ms ∧ Cons cs as ms k) ∨ (ch = true ∧ total ms' < total ms)))
    ⟨_, _, _, _, _, _, _, _, _, _, _, rfl, M, .inl ⟨rfl, rfl, fun j h => absurd h (Nat.not_lt_zero _)⟩⟩ (by
      rintro k d ρ hd ⟨ch, w4, w5, w6, w7, w8, w9, w10, w11, w12, ms', rfl, M', h⟩
      obtain ⟨hk, rfl⟩ := rgD_get hd
      have hs : cs[k]? = some cs[k] := List.getElem?_eq_getElem hk
      obtain ⟨ro, ra, rt, v3', v7', v8', v9', v10', v11', v12', ms2, hro, hra, hrt, e, M2, h2⟩ := mg_2 (a0 := some (.fz (patD K cs))) (v3 := some (.fz (.bl ch))) (v8 := w8) (v9 := w9) (v10 := w10) (v11 := w11) (v12 := w12) A M' hs
      have l7 : ro.length ≤ 7 := by
        obtain ⟨_, la, _, _, hla, _⟩ := A.act k _ hs
        obtain ⟨r, hr, hrl, _⟩ := M'.get hla
        rw [hro] at hr
        cases hr
        rw [hrl]
        exact A.few la (List.mem_of_getElem? hla)
      have st : l__law_merged_2 [some (.fz (patD K cs)), some (mkO ms'), some (.fz (mkD as)), some (.fz (.bl ch)), some (.fz (nD k)), w5, w6, w7, w8, w9, w10, w11, w12, none] =
          some (.nx, [some (.fz (patD K cs)), some (mkO ms2), some (.fz (mkD as)), v3', some (.fz (nD k)), some (.fz (nD cs[k].a)), some (.fz (nD cs[k].b)), v7', v8', v9', v10', v11', v12', none]) := by
        unfold l__law_merged_2
        rw [st_asg2 (a := nD cs[k].a) (b := nD cs[k].b) (d2_pure (pat_1 (K := K) (var_at rfl)) (var_at rfl) (ends_get hs))]
        rw [st_set (o := .dK []) rfl]
        simp only [List.set_cons_succ, List.set_cons_zero]
        rw [sFor_ap, rg_pure (n := ro.length) (aOne_pure (dA_pure (aOne_pure (ixv_pure rfl (var_at rfl) (mkO_ix hro))) (by rw [gLen_lst, List.length_map]))) (by omega)]
        simp only [Option.bind_some]
        exact e
      refine ⟨_, _, rfl, st, ?_⟩
      rcases h2 with ⟨rfl, rfl, c⟩ | ⟨rfl, c⟩
      · refine ⟨_, _, _, _, _, _, _, _, _, _, _, rfl, M2, ?_⟩
        rcases h with ⟨h1, rfl, h3⟩ | ⟨h1, h3⟩
        · refine .inl ⟨h1, rfl, fun j hj t ht ro' ra' rt' q1 q2 q3 => ?_⟩
          by_cases z : j = k
          · subst z
            rw [hs] at ht
            cases ht
            rw [hro] at q1; rw [hra] at q2; rw [hrt] at q3
            cases q1; cases q2; cases q3
            exact c
          · exact h3 j (by omega) t ht ro' ra' rt' q1 q2 q3
        · exact .inr ⟨h1, h3⟩
      · refine ⟨_, _, _, _, _, _, _, _, _, _, _, rfl, M2, .inr ⟨rfl, ?_⟩⟩
        rcases h with ⟨_, rfl, _⟩ | ⟨_, h3⟩
        · exact c
        · omega)
  rw [rgD_len] at h
  exact ⟨ch, w4, w5, w6, w7, w8, w9, w10, w11, w12, ms', e, M', h⟩
theorem row_sum {b : Nat} : ∀ (r : List Nat), (∀ x ∈ r, x ≤ b) → r.sum ≤ r.length * b
  | [], _ => Nat.zero_le _
  | x :: r, h => by
    have := row_sum r fun y hy => h y (List.mem_cons_of_mem _ hy)
    have h2 := h x List.mem_cons_self
    rw [List.sum_cons, List.length_cons, Nat.add_mul, Nat.one_mul]; omega
theorem total_few {L : List Nat} {ms : List (List Nat)} (M : Mk L ms) (hL : L.length ≤ 3) (h7 : ∀ n ∈ L, n ≤ 7) : total ms ≤ 147 := by
  have h1 : ∀ r ∈ ms, r.sum ≤ 49 := fun r hr => by
    have hl : r.length ≤ 7 := h7 _ (by rw [← M.len]; exact List.mem_map_of_mem hr)
    have hb : ∀ x ∈ r, x ≤ 7 := fun x hx => by
      obtain ⟨i, hi⟩ := List.mem_iff_getElem?.mp hx
      have := (List.getElem?_eq_some_iff.mp (M.id r hr i x hi)).1
      omega
    have := row_sum r hb
    have := Nat.mul_le_mul_right 7 hl
    omega
  have h2 := row_sum (b := 49) (ms.map List.sum) fun x hx => by
    obtain ⟨r, hr, rfl⟩ := List.mem_map.mp hx
    exact h1 r hr
  have hm : ms.length = L.length := by rw [← M.len, List.length_map]
  rw [List.length_map] at h2
  have := Nat.mul_le_mul_right 49 (show ms.length ≤ 3 by omega)
  unfold total
  omega
theorem merged_ok {cs : List Fn} {K : Nat} {L : List Nat} {as ms : List (List Nat)} (A : Acts cs L as) (M : Mk L ms) (h5 : cs.length ≤ 5) :
    ∃ ms', f__law_merged [.fz (patD K cs), mkO ms, .fz (mkD as)] = some (mkO ms', []) ∧ Mk L ms' ∧ Cons cs as ms' cs.length := by
  have key := sWhile_inv (t := w__law_merged_1) (b := l__law_merged_3)
    (fun n ρ => ∃ ch v4 v5 v6 v7 v8 v9 v10 v11 v12 ms', ρ = [some (.fz (patD K cs)), some (mkO ms'), some (.fz (mkD as)), some (.fz (.bl ch)), v4, v5, v6, v7, v8, v9, v10, v11, v12, none] ∧ Mk L ms' ∧ ((ch = true ∧ n = total ms' + 1) ∨ (ch = false ∧ n = 0 ∧ Cons cs as ms' cs.length)))
    (fun ρ => ∃ v3 v4 v5 v6 v7 v8 v9 v10 v11 v12 ms', ρ = [some (.fz (patD K cs)), some (mkO ms'), some (.fz (mkD as)), v3, v4, v5, v6, v7, v8, v9, v10, v11, v12, none] ∧ Mk L ms' ∧ Cons cs as ms' cs.length)
    (by
      rintro n ρ ⟨ch, v4, v5, v6, v7, v8, v9, v10, v11, v12, ms1, rfl, M1, h⟩
      have et : ∀ c : Bool, w__law_merged_1 [some (.fz (patD K cs)), some (mkO ms1), some (.fz (mkD as)), some (.fz (.bl c)), v4, v5, v6, v7, v8, v9, v10, v11, v12, none] = some (c, [some (.fz (patD K cs)), some (mkO ms1), some (.fz (mkD as)), some (.fz (.bl c)), v4, v5, v6, v7, v8, v9, v10, v11, v12, none]) := fun c => bD_pure (var_at rfl)
      rcases h with ⟨rfl, hn⟩ | ⟨rfl, hn, hc⟩
      · refine .inr ⟨et _, ?_⟩
        obtain ⟨ch, w4, w5, w6, w7, w8, w9, w10, w11, w12, ms2, e, M2, h2⟩ := mg_3 (K := K) (v4 := v4) (v5 := v5) (v6 := v6) (v7 := v7) (v8 := v8) (v9 := v9) (v10 := v10) (v11 := v11) (v12 := v12) A M1 h5
        have st : l__law_merged_3 [some (.fz (patD K cs)), some (mkO ms1), some (.fz (mkD as)), some (.fz (.bl true)), v4, v5, v6, v7, v8, v9, v10, v11, v12, none] = some (.nx, [some (.fz (patD K cs)), some (mkO ms2), some (.fz (mkD as)), some (.fz (.bl ch)), w4, w5, w6, w7, w8, w9, w10, w11, w12, none]) := by
          unfold l__law_merged_3
          rw [st_asg (d := .bl false) rfl]
          simp only [List.set_cons_succ, List.set_cons_zero]
          rw [sFor_ap, rg_pure (n := cs.length) (aOne_pure (ends_len (pat_1 (K := K) (var_at rfl)))) (by omega)]
          exact e
        rcases h2 with ⟨h2, rfl, h3⟩ | ⟨h2, h3⟩
        · exact ⟨0, _, by omega, st, _, _, _, _, _, _, _, _, _, _, _, rfl, M2, .inr ⟨h2, rfl, h3⟩⟩
        · exact ⟨total ms2 + 1, _, by omega, st, _, _, _, _, _, _, _, _, _, _, _, rfl, M2, .inl ⟨h2, rfl⟩⟩
      · exact .inl ⟨et _, _, _, _, _, _, _, _, _, _, _, _, rfl, M1, hc⟩)
    1000 (total ms + 1) [some (.fz (patD K cs)), some (mkO ms), some (.fz (mkD as)), some (.fz (.bl true)), none, none, none, none, none, none, none, none, none, none]
    (by have := total_few M A.len A.few; omega) ⟨_, _, _, _, _, _, _, _, _, _, _, rfl, M, .inl ⟨rfl, rfl⟩⟩
  obtain ⟨ρ', e, v3, v4, v5, v6, v7, v8, v9, v10, v11, v12, ms', rfl, M', hc⟩ := key
  refine ⟨ms', ?_, M', hc⟩
  rw [fx__law_merged]
  unfold b__law_merged
  rw [st_asg (d := .bl true) rfl]
  simp only [List.set_cons_succ, List.set_cons_zero]
  rw [st_run e]
  rfl
end VL
set_option Elab.async false
set_option linter.all false
set_option maxRecDepth 100000
set_option maxHeartbeats 4000000
namespace VL
open PySem L2
/-! ### drawing, as a step -/
section
variable {f : DF} {ρ ρ' : Env'} {s : SF} {d : D} {i : Nat}
theorem st_asg' (e : f ρ = some (d, ρ')) : sSeq (sAsg f (gN i)) s ρ = s (ρ'.set i (some (.fz d))) := by
  rw [ap_sSeq, ap_sAsg, e]; rfl
theorem take_d {o : O} {m : Int} (h0 : ρ[0]? = some (some o)) (h : StOk o) (ef : f ρ = some (.int m, ρ)) (h1 : 1 ≤ m) (h2 : m ≤ 1000) :
    ∃ (r : Nat) (o' : O), (r : Int) < m ∧ StOk o' ∧ toD (cal1 0 0 f__law_take (mOwn 0 (aCons f aNil))) ρ = some (nD r, ρ.set 0 (some o')) := by
  obtain ⟨r, o', e, hr, ho⟩ := take_nat m h h1 h2
  refine ⟨r, o', hr, ho, ?_⟩
  rw [ap_toD, cal1_ap, ap_mOwn, h0]
  simp only [aOne_pure ef, Option.map_some, Option.bind_some, h0, List.length_nil, if_true, List.map_nil, List.nil_append, List.map_cons, e, fz_fz]
end
/-- what a name keeps over a comprehension of its own -/
def Kp (w : Option O) : Prop := keepD (some w) = w
theorem Kp.none : Kp none := rfl
theorem Kp.fz (d : D) : Kp (some (.fz d)) := rfl

/-! ### the drawn rows -/
abbrev Tr := Nat × Nat × Int
def trD (x : Tr) : D := .tup [nD x.1, nD x.2.1, .int x.2.2]
/-- the things of kind e that the seeds S hold -/
def rowS (cs : List Fn) (S : List (Nat × Nat)) (e : Nat) : List Tr := S.flatMap fun p => (rowW cs p.2 e).map fun w => (p.1, p.2, w)
abbrev trL (r : List Tr) : D := .lst (r.map trD)
abbrev trO (rs : List (List Tr)) : O := .lst (rs.map fun r => .lst (r.map fun x => .fz (trD x)))
def rowsS (cs : List Fn) (K : Nat) (S : List (Nat × Nat)) : List (List Tr) := (List.range K).map (rowS cs S)
theorem trO_freeze (rs : List (List Tr)) : (trO rs).freeze = .lst (rs.map trL) := by
  unfold trO
  rw [fz_lst']
  congr 1
  induction rs with
  | nil => rfl
  | cons r rs ih =>
    rw [List.map_cons, freezes_cons, ih, List.map_cons, fz_lst', freezes_fun]
theorem rowS_snoc {cs : List Fn} {S : List (Nat × Nat)} {p : Nat × Nat} {e : Nat} : rowS cs (S ++ [p]) e = rowS cs S e ++ (rowW cs p.2 e).map fun w => (p.1, p.2, w) := by
  unfold rowS
  rw [List.flatMap_append]
  simp
theorem rowsS_at {cs : List Fn} {K e : Nat} {S : List (Nat × Nat)} (h : e < K) : (rowsS cs K S)[e]? = some (rowS cs S e) := by
  unfold rowsS
  rw [List.getElem?_map, List.getElem?_range h]
  rfl
/-- one more thing at the end of a row -/
theorem metAt_pure {i j : Nat} {ρ : Env'} {f g : DF} {os us : List O} {d : D} (h0 : ρ[i]? = some (some (.lst os))) (h1 : f ρ = some (nD j, ρ)) (h2 : os[j]? = some (.lst us)) (h3 : g (ρ.set i none) = some (d, ρ.set i none)) (hl : us.length < lim) :
    sExpr (dMetAt i mApp f (aCons g aNil)) ρ = some (.nx, ρ.set i (some (.lst (os.set j (.lst (us ++ [.fz d])))))) := by
  have hj : j < os.length := (List.getElem?_eq_some_iff.mp h2).1
  rw [ap_sExpr]
  unfold dMetAt
  rw [h0]
  simp only [h1, Option.bind_some, h0, ixN_nat hj, h2, aOne_pure h3, ap_mApp, if_pos hl, Option.map_some]
  rw [List.set_set]
/-- the inner loop: a seed's things are put into the rows -/
theorem wl_1 {cs : List Fn} {K n k : Nat} {rs : List (List Tr)} {a0 a2 v6 v7 v8 v9 v10 v11 v12 v13 v14 v15 v16 v17 v18 v19 v20 v21 : Option O} (hK : rs.length = K) (hb : ∀ w ∈ wys cs k, endW cs k w < K) (hl : ∀ r ∈ rs, r.length ≤ 7) (h5 : cs.length ≤ 5) :
    ∃ v7' v9', forL (gTu 2 (gsCons (gN 9) (gsCons (gN 7) gsNil))) l__law_world_1 ((wys cs k).map fun w => .tup [nD (endW cs k w), .int w]) [a0, some (.fz (patD K cs)), a2, some (trO rs), some (.fz (nD k)), some (.fz (nD n)), v6, v7, v8, v9, v10, v11, v12, v13, v14, v15, v16, v17, v18, v19, v20, v21] =
      some (.nx, [a0, some (.fz (patD K cs)), a2, some (trO ((List.range K).map fun e => rs.getD e [] ++ (rowW cs k e).map fun w => (n, k, w))), some (.fz (nD k)), some (.fz (nD n)), v6, v7', v8, v9', v10, v11, v12, v13, v14, v15, v16, v17, v18, v19, v20, v21]) ∧ (Kp v7 → Kp v7') := by
  have hw6 := wys_len (cs := cs) k h5
  obtain ⟨ρ', e, v7', v9', rfl, hk⟩ := forL_inv (g := gTu 2 (gsCons (gN 9) (gsCons (gN 7) gsNil))) (b := l__law_world_1) (ds := (wys cs k).map fun w => .tup [nD (endW cs k w), .int w])
    (ρ := [a0, some (.fz (patD K cs)), a2, some (trO rs), some (.fz (nD k)), some (.fz (nD n)), v6, v7, v8, v9, v10, v11, v12, v13, v14, v15, v16, v17, v18, v19, v20, v21])
    (fun i ρ => ∃ v7' v9', ρ = [a0, some (.fz (patD K cs)), a2, some (trO ((List.range K).map fun e => rs.getD e [] ++ (((wys cs k).take i).filter fun w => decide (endW cs k w = e)).map fun w => (n, k, w))), some (.fz (nD k)), some (.fz (nD n)), v6, v7', v8, v9', v10, v11, v12, v13, v14, v15, v16, v17, v18, v19, v20, v21] ∧ (Kp v7 → Kp v7'))
    ⟨v7, v9, by
      have : (List.range K).map (fun e => rs.getD e [] ++ (((wys cs k).take 0).filter fun w => decide (endW cs k w = e)).map fun w => ((n, k, w) : Tr)) = rs := by
        apply List.ext_getElem
        · rw [List.length_map, List.length_range, hK]
        · intro i h1 h2
          rw [List.getElem_map, List.getElem_range, List.take_zero, List.getD_eq_getElem?_getD, List.getElem?_eq_getElem h2]
          simp
      rw [this], id⟩ (by
      rintro i d ρ hd ⟨w7, w9, rfl, hk7⟩
      rw [List.getElem?_map] at hd
      cases hw : (wys cs k)[i]? with
      | none => rw [hw] at hd; cases hd
      | some w =>
        rw [hw] at hd
        cases hd
        have hwm := List.mem_of_getElem? hw
        have hE := hb w hwm
        have hi : i < (wys cs k).length := (List.getElem?_eq_some_iff.mp hw).1
        refine ⟨[a0, some (.fz (patD K cs)), a2, some (trO ((List.range K).map fun e => rs.getD e [] ++ (((wys cs k).take i).filter fun w => decide (endW cs k w = e)).map fun w => (n, k, w))), some (.fz (nD k)), some (.fz (nD n)), v6, some (.fz (.int w)), v8, some (.fz (nD (endW cs k w))), v10, v11, v12, v13, v14, v15, v16, v17, v18, v19, v20, v21], _, rfl, ?_, some (.fz (.int w)), some (.fz (nD (endW cs k w))), rfl, fun _ => .fz _⟩
        have hrow : (rs.getD (endW cs k w) []).length ≤ 7 := by
          rw [List.getD_eq_getElem?_getD, List.getElem?_eq_getElem (by omega)]
          exact hl _ (List.getElem_mem _)
        have hf := List.length_filter_le (fun z => decide (endW cs k z = endW cs k w)) ((wys cs k).take i)
        rw [List.length_take] at hf
        have := metAt_pure (i := 3) (j := endW cs k w) (f := dVar 9) (g := dA gTup' (aCons (dVar 5) (aCons (dVar 4) (aCons (dVar 7) aNil)))) (d := trD (n, k, w)) (us := (rs.getD (endW cs k w) [] ++ (((wys cs k).take i).filter fun z => decide (endW cs k z = endW cs k w)).map fun w => (n, k, w)).map fun x => .fz (trD x))
          (ρ := [a0, some (.fz (patD K cs)), a2, some (trO ((List.range K).map fun e => rs.getD e [] ++ (((wys cs k).take i).filter fun w => decide (endW cs k w = e)).map fun w => (n, k, w))), some (.fz (nD k)), some (.fz (nD n)), v6, some (.fz (.int w)), v8, some (.fz (nD (endW cs k w))), v10, v11, v12, v13, v14, v15, v16, v17, v18, v19, v20, v21]) rfl (var_at rfl)
          (by rw [List.getElem?_map, List.getElem?_map, List.getElem?_range hE]; rfl)
          (dA_pure (aCons_pure (var_at rfl) (aTwo_pure (var_at rfl) (var_at rfl))) (by rw [gTup_ap]; exact if_pos (by unfold lim; simp))) (by simp only [List.length_map, List.length_append]; unfold lim; omega)
        show l__law_world_1 _ = _
        unfold l__law_world_1
        rw [this]
        simp only [List.set_cons_succ, List.set_cons_zero]
        congr 7
        show O.lst _ = O.lst _
        congr 1
        apply List.ext_getElem
        · simp
        · intro j h1 h2
          simp only [List.length_set, List.length_map, List.length_range] at h1
          rw [List.getElem_set]
          by_cases q : endW cs k w = j
          · subst q
            simp only [if_true, List.getElem_map, List.getElem_range]
            rw [List.take_add_one, hw]
            simp
          · simp only [q, if_false, List.getElem_map, List.getElem_range]
            rw [List.take_add_one, hw]
            simp [q])
  refine ⟨v7', v9', ?_, hk⟩
  rw [e]
  rw [List.length_map, List.take_length]
  rfl
end VL
set_option Elab.async false
set_option linter.all false
set_option maxRecDepth 100000
set_option maxHeartbeats 4000000
namespace VL
open PySem L2
/-! ### comprehensions over one name -/
section
variable {n v : Nat} {ρ : Env'} {w : Option O}
theorem lc1 {α : Type} {enc r : α → D} {xs : List α} {e : DF} (hn : ρ.length = n) (ew : ρ[v]? = some w) (hk : Kp w) (h : ∀ x ∈ xs, e (ρ.set v (some (.fz (enc x)))) = some (r x, ρ.set v (some (.fz (enc x))))) :
    compL n [v] (gN v) bYes e (xs.map enc) ρ = some (xs.map r, ρ) := by
  refine compL_all enc r hn fun x hx => ⟨ρ.set v (some (.fz (enc x))), ?_, ρ.set v (some (.fz (enc x))), h x hx, ?_⟩
  · show some ((ρ.set v none).set v (some (.fz (enc x)))) = _
    rw [List.set_set]
  · show ((ρ.set v (some (.fz (enc x)))).set v (keepD ρ[v]?)) = ρ
    rw [List.set_set, ew]
    have hk : keepD (some w) = w := hk
    rw [hk]
    obtain ⟨h5, h6⟩ := List.getElem?_eq_some_iff.mp ew
    rw [← h6]
    exact List.set_getElem_self h5
theorem nLc1 {α : Type} {enc r : α → D} {xs : List α} {e : DF} {it : IF} (hi : it ρ = some (xs.map enc, ρ)) (hl : xs.length ≤ lim) (hn : ρ.length = n) (ew : ρ[v]? = some w) (hk : Kp w) (h : ∀ x ∈ xs, e (ρ.set v (some (.fz (enc x)))) = some (r x, ρ.set v (some (.fz (enc x))))) :
    nLc n [v] it (gN v) bYes e ρ = some (.lst ((xs.map r).map .fz), ρ) := by
  rw [nLc_ap, hi]
  simp only [Option.bind_some, List.length_map, if_pos hl, lc1 hn ew hk h, Option.map_some]
theorem toD_lst {fo : OF} {ds : List D} (h : fo ρ = some (.lst (ds.map .fz), ρ)) : toD fo ρ = some (.lst ds, ρ) := by
  rw [ap_toD, h]
  simp only [Option.map_some, fz_lst]
theorem st_frz {fo : OF} {ds : List D} {s : SF} {i : Nat} (h : fo ρ = some (.lst (ds.map .fz), ρ)) (hi : i < ρ.length) : sSeq (sFrz i (sSetN i fo)) s ρ = s (ρ.set i (some (.fz (.lst ds)))) := by
  rw [ap_sSeq, ap_sFrz, ap_sSetN, h]
  simp only [Option.map_some, List.getElem?_set_self hi, fz_lst, List.set_set, Option.bind_some]
theorem iSeq_lst {f : DF} {ds : List D} (h : f ρ = some (.lst ds, ρ)) : iSeq f ρ = some (ds, ρ) := by
  rw [ap_iSeq, h]; rfl
theorem iSeq_tup {f : DF} {ds : List D} (h : f ρ = some (.tup ds, ρ)) : iSeq f ρ = some (ds, ρ) := by
  rw [ap_iSeq, h]; rfl
end
theorem gTup2 (a b : D) : gTup' [a, b] = some (.tup [a, b]) := if_pos (show 2 ≤ lim from by decide)
theorem gTup3 (a b c : D) : gTup' [a, b, c] = some (.tup [a, b, c]) := if_pos (show 3 ≤ lim from by decide)
theorem lensO_tr : ∀ rs : List (List Tr), lensO (rs.map fun r => O.lst (r.map fun x => .fz (trD x))) = some (rs.map fun r => (r.length : Int))
  | [] => rfl
  | r :: rs => by
    rw [List.map_cons]
    unfold lensO
    rw [lensO_tr rs, lenO_lst, List.length_map]
    rfl
/-- seeds one behind another, each where there was room -/
inductive Sq (cs : List Fn) (K : Nat) : List (Nat × Nat) → Prop
  | nil : Sq cs K []
  | snoc {S : List (Nat × Nat)} {p : Nat × Nat} : Sq cs K S → (∀ e, e < K → (rowS cs S e).length + (wys cs p.2).length ≤ 7) → Sq cs K (S ++ [p])
structure Seeds (cs : List Fn) (K i : Nat) (S : List (Nat × Nat)) : Prop where
  num : ∀ p ∈ S, p.1 < i ∧ p.2 < K
  nd : (S.map (·.1)).Nodup
  few : ∀ e, e < K → (rowS cs S e).length ≤ 7
  sq : Sq cs K S
  len : S.length ≤ i
theorem endW_lt {sz : Nat → Nat} {cs : List Fn} {K k : Nat} {w : Int} (P : PatK sz cs K) (hk : k < K) (h : w ∈ wys cs k) : endW cs k w < K := by
  rcases wys_way h with ⟨_, e⟩ | ⟨n, t, _, ht, _, e⟩
  · rw [← e]; exact hk
  · rw [← e]; exact (P.en t (List.mem_of_getElem? ht)).2
theorem wl_2 {sz : Nat → Nat} {cs : List Fn} {K N : Nat} {o : O} {v2 v4 v5 v6 v7 v9 : Option O} (P : PatK sz cs K) (h : StOk o) (k4 : Kp v4) (k5 : Kp v5) (k7 : Kp v7) :
    ∃ o' S v4' v5' v6' v7' v9', forL (gN 5) l__law_world_2 (rgD 0 N) [some o, some (.fz (patD K cs)), v2, some (trO (rowsS cs K [])), v4, v5, v6, v7, none, v9, none, none, none, none, none, none, none, none, none, none, none, none] =
      some (.nx, [some o', some (.fz (patD K cs)), v2, some (trO (rowsS cs K S)), v4', v5', v6', v7', none, v9', none, none, none, none, none, none, none, none, none, none, none, none]) ∧ StOk o' ∧ Seeds cs K N S ∧ Kp v4' ∧ Kp v5' ∧ Kp v7' := by
  have hK3 := P.k3
  have hK1 := P.k1
  obtain ⟨ρ', e, o', S, v4', v5', v6', v7', v9', rfl, ho', hS, h4, h5, h7⟩ := forL_inv (g := gN 5) (b := l__law_world_2) (ds := rgD 0 N) (ρ := [some o, some (.fz (patD K cs)), v2, some (trO (rowsS cs K [])), v4, v5, v6, v7, none, v9, none, none, none, none, none, none, none, none, none, none, none, none])
    (fun i ρ => ∃ o' S v4' v5' v6' v7' v9', ρ = [some o', some (.fz (patD K cs)), v2, some (trO (rowsS cs K S)), v4', v5', v6', v7', none, v9', none, none, none, none, none, none, none, none, none, none, none, none] ∧ StOk o' ∧ Seeds cs K i S ∧ Kp v4' ∧ Kp v5' ∧ Kp v7')
    ⟨o, [], _, _, _, _, _, rfl, h, ⟨(by simp), (by simp), (fun e he => by unfold rowS; simp), .nil, Nat.le_refl _⟩, k4, k5, k7⟩ (by
      rintro i d ρ hd ⟨o1, S, w4, w5, w6, w7, w9, rfl, ho1, hS, h4, h5, h7⟩
      obtain ⟨hi, rfl⟩ := rgD_get hd
      obtain ⟨k, o2, hkK, ho2, et⟩ := take_d (ρ := [some o1, some (.fz (patD K cs)), v2, some (trO (rowsS cs K S)), w4, some (.fz (nD i)), w6, w7, none, w9, none, none, none, none, none, none, none, none, none, none, none, none]) (f := d2 gIx (dVar 1) (dC (.int 0))) (m := K) rfl ho1 (pat_0 (var_at rfl)) (by omega) (by omega)
      have hkK : k < K := by omega
      have hw6 := wys_len (cs := cs) k P.l5
      have hh : ∃ S' v6 v7 v9, l__law_world_2 [some o1, some (.fz (patD K cs)), v2, some (trO (rowsS cs K S)), w4, some (.fz (nD i)), w6, w7, none, w9, none, none, none, none, none, none, none, none, none, none, none, none] = some (.nx, [some o2, some (.fz (patD K cs)), v2, some (trO (rowsS cs K S')), some (.fz (nD k)), some (.fz (nD i)), v6, v7, none, v9, none, none, none, none, none, none, none, none, none, none, none, none]) ∧ Seeds cs K (i + 1) S' ∧ Kp v7 := by
        unfold l__law_world_2
        rw [st_asg' et]
        simp only [List.set_cons_succ, List.set_cons_zero]
        have lw : nLc 22 [7] (iSeq (toD (nA (cal f__law_ways) (aCons (dVar 1) (aCons (dVar 4) aNil))))) (gN 7) bYes e__law_world_2 [some o2, some (.fz (patD K cs)), v2, some (trO (rowsS cs K S)), some (.fz (nD k)), some (.fz (nD i)), w6, w7, none, w9, none, none, none, none, none, none, none, none, none, none, none, none] = some (.lst (((wys cs k).map fun w => D.tup [nD (endW cs k w), .int w]).map .fz), [some o2, some (.fz (patD K cs)), v2, some (trO (rowsS cs K S)), some (.fz (nD k)), some (.fz (nD i)), w6, w7, none, w9, none, none, none, none, none, none, none, none, none, none, none, none]) :=
          nLc1 (enc := D.int) (iSeq_lst (toD_pure (cal_pure (aTwo_pure (var_at rfl) (var_at rfl)) (lways_ok P.l5)) (fz_fz _))) (by unfold lim; omega) rfl rfl h7 fun w hw => by
            unfold e__law_world_2
            exact dA_pure (aTwo_pure (toD_pure (cal_pure (aCons_pure (var_at rfl) (aTwo_pure (var_at rfl) (var_at rfl))) (lend_ok (wys_way hw))) (fz_fz _)) (var_at rfl)) (gTup2 _ _)
        rw [st_frz lw (show 6 < 22 from by decide)]
        simp only [List.set_cons_succ, List.set_cons_zero]
        have hne : (rowsS cs K S).map List.length ≠ [] := by
          intro z
          have := congrArg List.length z
          unfold rowsS at this
          simp at this
          omega
        obtain ⟨M, hM, _, hMax⟩ := max_nD ((rowsS cs K S).map List.length) hne
        have e1 : toD (nLens 3 8) [some o2, some (.fz (patD K cs)), v2, some (trO (rowsS cs K S)), some (.fz (nD k)), some (.fz (nD i)), some (.fz (.lst ((wys cs k).map fun w => .tup [nD (endW cs k w), .int w]))), w7, none, w9, none, none, none, none, none, none, none, none, none, none, none, none] = some (.lst (((rowsS cs K S).map List.length).map nD), [some o2, some (.fz (patD K cs)), v2, some (trO (rowsS cs K S)), some (.fz (nD k)), some (.fz (nD i)), some (.fz (.lst ((wys cs k).map fun w => .tup [nD (endW cs k w), .int w]))), w7, none, w9, none, none, none, none, none, none, none, none, none, none, none, none]) := by
          have hl : (rowsS cs K S).length ≤ lim := by unfold rowsS lim; simp; omega
          rw [ap_toD]
          unfold nLens
          simp only [List.getElem?_cons_succ, List.getElem?_cons_zero]
          rw [if_pos ⟨by rw [List.length_map]; exact hl, show 8 < 22 from by decide⟩, lensO_tr]
          simp only [Option.map_some, fz_lst', freezes_fun]
          rw [List.map_map, List.map_map]; rfl
        have e2 : bD (d2 gLt (d2 gAdd (dA gMax (aCons (toD (nLens 3 8)) aNil)) (dA gLen (aCons (dVar 6) aNil))) (dC (.int 8))) [some o2, some (.fz (patD K cs)), v2, some (trO (rowsS cs K S)), some (.fz (nD k)), some (.fz (nD i)), some (.fz (.lst ((wys cs k).map fun w => .tup [nD (endW cs k w), .int w]))), w7, none, w9, none, none, none, none, none, none, none, none, none, none, none, none] = some (decide (((M : Int) + ((wys cs k).length : Nat)) < 8), [some o2, some (.fz (patD K cs)), v2, some (trO (rowsS cs K S)), some (.fz (nD k)), some (.fz (nD i)), some (.fz (.lst ((wys cs k).map fun w => .tup [nD (endW cs k w), .int w]))), w7, none, w9, none, none, none, none, none, none, none, none, none, none, none, none]) :=
          bD_pure (d2_pure (d2_pure (dA_pure (aOne_pure e1) hM) (dA_pure (aOne_pure (var_at rfl)) (by rw [gLen_lst, List.length_map])) (gAdd_int _ _)) rfl (gLt_int _ _))
        rw [sIf_pure e2]
        by_cases q : ((M : Int) + ((wys cs k).length : Nat)) < 8
        · rw [if_pos (decide_eq_true q)]
          obtain ⟨v7', v9', el, hk7⟩ := wl_1 (a0 := some o2) (a2 := v2) (v6 := some (.fz (.lst ((wys cs k).map fun w => .tup [nD (endW cs k w), .int w])))) (v7 := w7) (v8 := none) (v9 := w9) (v10 := none) (v11 := none) (v12 := none) (v13 := none) (v14 := none) (v15 := none) (v16 := none) (v17 := none) (v18 := none) (v19 := none) (v20 := none) (v21 := none) (K := K) (n := i) (k := k) (rs := rowsS cs K S)
            (by unfold rowsS; simp) (fun w hw => endW_lt P hkK hw) (fun r hr => by
              unfold rowsS at hr
              obtain ⟨e, he, rfl⟩ := List.mem_map.mp hr
              exact hS.few e (List.mem_range.mp he)) P.l5
          have e3 : (List.range K).map (fun e => (rowsS cs K S).getD e [] ++ (rowW cs k e).map fun w => ((i, k, w) : Tr)) = rowsS cs K (S ++ [(i, k)]) := by
            unfold rowsS
            refine List.map_congr_left fun e he => ?_
            have he := List.mem_range.mp he
            have := rowsS_at (cs := cs) (S := S) he
            unfold rowsS at this
            rw [rowS_snoc, List.getD_eq_getElem?_getD, this]
            rfl
          rw [e3] at el
          refine ⟨S ++ [(i, k)], some (.fz (.lst ((wys cs k).map fun w => .tup [nD (endW cs k w), .int w]))), v7', v9', ?_, ⟨fun p hp => ?_, ?_, fun e he => ?_, .snoc hS.sq fun e he => ?_, by rw [List.length_append]; have := hS.len; simp only [List.length_singleton]; omega⟩, hk7 h7⟩
          · rw [sFor_ap, iSeq_lst (var_at rfl)]
            exact el
          · rcases List.mem_append.mp hp with hp | hp
            · have := hS.num p hp; exact ⟨by omega, this.2⟩
            · rw [List.mem_singleton.mp hp]; exact ⟨by omega, hkK⟩
          · rw [List.map_append, List.nodup_append]
            refine ⟨hS.nd, by simp, fun a ha b hb => ?_⟩
            obtain ⟨p, hp, rfl⟩ := List.mem_map.mp ha
            have := (hS.num p hp).1
            simp at hb
            omega
          · rw [rowS_snoc, List.length_append, List.length_map]
            have h1 : (rowS cs S e).length ≤ M := hMax _ (List.mem_map.mpr ⟨_, List.mem_of_getElem? (rowsS_at he), rfl⟩)
            have h2 : (rowW cs k e).length ≤ (wys cs k).length := List.length_filter_le _ _
            show (rowS cs S e).length + (rowW cs k e).length ≤ 7
            omega
          · have h1 : (rowS cs S e).length ≤ M := hMax _ (List.mem_map.mpr ⟨_, List.mem_of_getElem? (rowsS_at he), rfl⟩)
            show (rowS cs S e).length + (wys cs k).length ≤ 7
            omega
        · rw [if_neg (by rw [decide_eq_false q]; decide)]
          exact ⟨S, _, _, _, rfl, ⟨fun p hp => ⟨by have := (hS.num p hp).1; omega, (hS.num p hp).2⟩, hS.nd, hS.few, hS.sq, by have := hS.len; omega⟩, h7⟩
      obtain ⟨S', v6, v7, v9, e, hS', hk⟩ := hh
      exact ⟨_, _, rfl, e, o2, S', _, _, _, _, _, rfl, ho2, hS', .fz _, .fz _, hk⟩)
  rw [rgD_len] at hS
  exact ⟨o', S, v4', v5', v6', v7', v9', e, ho', hS, h4, h5, h7⟩
end VL
set_option Elab.async false
set_option linter.all false
set_option maxRecDepth 100000
set_option maxHeartbeats 4000000
namespace VL
open PySem L2
/-! ### worlds -/
/-- where a way leads the thing x -/
def ledL (as : List (List Nat)) (w : Int) (x : Nat) : Option Nat := if w = -1 then some x else as[w.toNat]?.bind fun r => r[x]?
structure Wb (cs : List Fn) (K b : Nat) (L : List Nat) (as : List (List Nat)) : Prop where
  k : L.length = K
  n : as.length = cs.length
  few : ∀ n ∈ L, n ≤ b
  act : ∀ (k : Nat) (t : Fn), cs[k]? = some t → ∃ ra la lb, as[k]? = some ra ∧ L[t.a]? = some la ∧ L[t.b]? = some lb ∧ ra.length = la ∧ ∀ x ∈ ra, x < lb
  beh : ∀ (j k : Nat) (s t : Fn), cs[j]? = some s → cs[k]? = some t → s.b = t.a → ∀ ra rb, as[j]? = some ra → as[k]? = some rb → ∀ x y : Nat, ra[x]? = some y → ∃ z, rb[y]? = some z ∧ ledL as (wv cs s t) x = some z
/-- worlds as they are drawn -/
abbrev Wd (cs : List Fn) (K : Nat) (L : List Nat) (as : List (List Nat)) : Prop := Wb cs K 7 L as
/-- a bound of at most a hundred -/
class Le8 (n : Nat) : Prop where
  h : n ≤ 98
instance : Le8 7 := ⟨by omega⟩
instance : Le8 8 := ⟨by omega⟩
instance : Le8 9 := ⟨by omega⟩
instance : Le8 14 := ⟨by omega⟩
instance : Le8 42 := ⟨by omega⟩
instance : Le8 49 := ⟨by omega⟩
instance : Le8 84 := ⟨by omega⟩
instance : Le8 98 := ⟨by omega⟩
theorem Wd.acts {cs : List Fn} {K : Nat} {L : List Nat} {as : List (List Nat)} (W : Wd cs K L as) (hK : K ≤ 3) : Acts cs L as := ⟨W.act, W.few, by have := W.k; omega⟩

/-! ### places in lists -/
theorem idx_inj {α β : Type} [BEq α] [LawfulBEq α] [BEq β] [LawfulBEq β] {f : α → β} (hf : ∀ x y, f x = f y → x = y) (xs : List α) (x : α) : (xs.map f).idxOf (f x) = xs.idxOf x := by
  induction xs with
  | nil => rfl
  | cons c cs ih =>
    rw [List.map_cons, List.idxOf_cons, List.idxOf_cons, ih]
    by_cases e : c = x
    · subst e; simp
    · have e1 : (c == x) = false := by simpa using e
      have e2 : (f c == f x) = false := by simpa using fun h => e (hf _ _ h)
      rw [e1, e2]
theorem idx_at {α : Type} [BEq α] [LawfulBEq α] {xs : List α} {x : α} (h : x ∈ xs) : xs[xs.idxOf x]? = some x := by
  have := List.idxOf_lt_length_of_mem h
  rw [List.getElem?_eq_getElem this]
  congr 1
  exact List.getElem_idxOf this
theorem idx_of_at {α : Type} [BEq α] [LawfulBEq α] {xs : List α} {x : α} {i : Nat} (nd : xs.Nodup) (h : xs[i]? = some x) : xs.idxOf x = i := nodup_get nd (idx_at (List.mem_of_getElem? h)) h
theorem trD_inj (x y : Tr) (h : trD x = trD y) : x = y := by
  obtain ⟨a, b, c⟩ := x
  obtain ⟨a', b', c'⟩ := y
  unfold trD at h
  injection h with h
  simp only [List.cons.injEq, and_true] at h
  obtain ⟨h1, h2, h3⟩ := h
  have h1 := nD_inj h1
  have h2 := nD_inj h2
  have h3 := int_inj h3
  rw [h1, h2, h3]
theorem trD_pl (x : Tr) : plN 1 (trD x) := plN_tup fun d hd => by
  simp only [List.mem_cons, List.not_mem_nil, or_false] at hd
  rcases hd with rfl | rfl | rfl <;> exact plN_int _ _
theorem index_tr {f : DF} {g : LF} {r : List Tr} {x : Tr} {ρ : Env'} (hf : f ρ = some (trL r, ρ)) (hg : g ρ = some ([trD x], ρ)) (hm : x ∈ r) : dIndex f g ρ = some (nD (r.idxOf x), ρ) := by
  have hpl : ∀ d ∈ r.map trD, plN 1 d := fun d hd => by
    obtain ⟨y, _, rfl⟩ := List.mem_map.mp hd
    exact trD_pl y
  unfold dIndex
  rw [hf]
  simp only [Option.bind_some]
  rw [hg]
  simp only [Option.bind_some]
  rw [if_pos ⟨plN_dat (plN_lst hpl) (by decide), plN_dat (trD_pl x) (by decide)⟩, idx_pl (trD_pl x) hpl (List.mem_map.mpr ⟨x, hm, rfl⟩), idx_inj trD_inj]
  rfl

/-! ### the drawn world's doings -/
def actR (cs : List Fn) (S : List (Nat × Nat)) (k : Nat) : List Nat := match cs[k]? with
  | some t => (rowS cs S t.a).map fun x => (rowS cs S t.b).idxOf (x.1, x.2.1, bh cs x.2.2 k)
  | none => []
def actsR (cs : List Fn) (S : List (Nat × Nat)) (m : Nat) : List (List Nat) := (List.range m).map (actR cs S)
theorem actsR_succ (cs : List Fn) (S : List (Nat × Nat)) (m : Nat) : actsR cs S (m + 1) = actsR cs S m ++ [actR cs S m] := by
  unfold actsR
  rw [List.range_succ, List.map_append]; rfl
theorem mem_rowS {cs : List Fn} {S : List (Nat × Nat)} {e : Nat} {x : Tr} : x ∈ rowS cs S e ↔ (x.1, x.2.1) ∈ S ∧ x.2.2 ∈ rowW cs x.2.1 e := by
  unfold rowS
  rw [List.mem_flatMap]
  constructor
  · rintro ⟨p, hp, h⟩
    obtain ⟨w, hw, rfl⟩ := List.mem_map.mp h
    exact ⟨hp, hw⟩
  · rintro ⟨h1, h2⟩
    exact ⟨_, h1, List.mem_map.mpr ⟨_, h2, rfl⟩⟩
theorem wys_nodup (cs : List Fn) (k : Nat) : (wys cs k).Nodup := by
  unfold wys
  rw [List.nodup_cons]
  refine ⟨fun h => ?_, ?_⟩
  · obtain ⟨n, _, e⟩ := List.mem_map.mp h; omega
  · have h1 : ((List.range cs.length).filter (isFrom cs k)).Nodup := List.nodup_range.filter _
    exact List.pairwise_map.mpr (h1.imp fun h e => h (by omega))
theorem rowS_nodup {cs : List Fn} {e : Nat} : ∀ {S : List (Nat × Nat)}, (S.map (·.1)).Nodup → (rowS cs S e).Nodup
  | [], _ => List.nodup_nil
  | p :: S, h => by
    rw [List.map_cons, List.nodup_cons] at h
    have ih := rowS_nodup (cs := cs) (e := e) h.2
    show ((rowW cs p.2 e).map (fun w => ((p.1, p.2, w) : Tr)) ++ rowS cs S e).Nodup
    rw [List.nodup_append]
    refine ⟨?_, ih, fun a ha b hb => ?_⟩
    · have h1 : (rowW cs p.2 e).Nodup := (wys_nodup cs p.2).filter _
      exact List.pairwise_map.mpr (h1.imp fun h e => h (by simpa using e))
    · obtain ⟨w, _, rfl⟩ := List.mem_map.mp ha
      intro q
      subst q
      exact h.1 (List.mem_map.mpr ⟨_, (mem_rowS.mp hb).1, rfl⟩)
theorem beh_row {sz : Nat → Nat} {cs : List Fn} {K k : Nat} {S : List (Nat × Nat)} {t : Fn} {x : Tr} (P : PatK sz cs K) (ht : cs[k]? = some t) (hx : x ∈ rowS cs S t.a) : IsWay cs x.2.1 x.2.2 t.a ∧ IsWay cs t.a k t.b ∧ ((x.1, x.2.1, bh cs x.2.2 k) : Tr) ∈ rowS cs S t.b := by
  obtain ⟨h1, h2⟩ := mem_rowS.mp hx
  obtain ⟨h3, h4, h5⟩ := bh_row P ht h2
  exact ⟨h3, h4, mem_rowS.mpr ⟨h1, h5⟩⟩
theorem raw_world {sz : Nat → Nat} {cs : List Fn} {K i : Nat} {S : List (Nat × Nat)} (P : PatK sz cs K) (hS : Seeds cs K i S) : Wd cs K ((rowsS cs K S).map List.length) (actsR cs S cs.length) := by
  have at_ : ∀ (k : Nat) (t : Fn), cs[k]? = some t → (actsR cs S cs.length)[k]? = some ((rowS cs S t.a).map fun x => (rowS cs S t.b).idxOf (x.1, x.2.1, bh cs x.2.2 k)) := fun k t ht => by
    have hk := (List.getElem?_eq_some_iff.mp ht).1
    unfold actsR
    rw [List.getElem?_map, List.getElem?_range hk]
    show some (actR cs S k) = _
    unfold actR
    rw [ht]
  have ln : ∀ e, e < K → ((rowsS cs K S).map List.length)[e]? = some (rowS cs S e).length := fun e he => by
    rw [List.getElem?_map, rowsS_at he]; rfl
  refine ⟨by unfold rowsS; simp, by unfold actsR; simp, fun n hn => ?_, fun k t ht => ?_, fun j k s t hs ht hst ra rb hra hrb x y hxy => ?_⟩
  · obtain ⟨r, hr, rfl⟩ := List.mem_map.mp hn
    unfold rowsS at hr
    obtain ⟨e, he, rfl⟩ := List.mem_map.mp hr
    exact hS.few e (List.mem_range.mp he)
  · obtain ⟨ha, hb⟩ := P.en t (List.mem_of_getElem? ht)
    refine ⟨_, _, _, at_ k t ht, ln _ ha, ln _ hb, by rw [List.length_map], fun x hx => ?_⟩
    obtain ⟨z, hz, rfl⟩ := List.mem_map.mp hx
    exact List.idxOf_lt_length_of_mem (beh_row P ht hz).2.2
  · rw [at_ j s hs] at hra
    rw [at_ k t ht] at hrb
    cases hra; cases hrb
    rw [List.getElem?_map] at hxy
    cases q : (rowS cs S s.a)[x]? with
    | none => rw [q] at hxy; cases hxy
    | some u =>
      rw [q] at hxy
      have hy : (rowS cs S s.b).idxOf (u.1, u.2.1, bh cs u.2.2 j) = y := Option.some.inj hxy
      have hu := List.mem_of_getElem? q
      obtain ⟨w1, w2, m1⟩ := beh_row P hs hu
      have gy : (rowS cs S s.b)[y]? = some (u.1, u.2.1, bh cs u.2.2 j) := by rw [← hy]; exact idx_at m1
      rw [hst] at gy m1
      obtain ⟨w3, w4, m2⟩ := beh_row P ht m1
      have w2' : IsWay cs s.a j t.a := by rw [← hst]; exact w2
      refine ⟨(rowS cs S t.b).idxOf (u.1, u.2.1, bh cs (bh cs u.2.2 j) k), by rw [List.getElem?_map, gy]; rfl, ?_⟩
      rw [bh_assoc P.toPatOk w1 w2' w4, bh_n hs ht]
      have wt := wv_way P.toPatOk (List.mem_of_getElem? hs) (List.mem_of_getElem? ht) hst
      unfold ledL
      rcases wt with ⟨e1, e2⟩ | ⟨n, v, e1, hv, va, vb⟩
      · rw [e1, if_pos rfl, bh_r, ← e2]
        congr 1
        exact (idx_of_at (rowS_nodup hS.nd) q).symm
      · rw [e1, if_neg (by omega)]
        simp only [Int.toNat_natCast]
        rw [at_ n v hv]
        simp only [Option.bind_some]
        rw [List.getElem?_map, va, q, vb]
        rfl
end VL
set_option Elab.async false
set_option linter.all false
set_option maxRecDepth 100000
set_option maxHeartbeats 4000000
namespace VL
open PySem L2

/-! ### the doings of the drawn world -/
section
variable {sz : Nat → Nat} {cs : List Fn} {K : Nat} {S : List (Nat × Nat)} {o : O} {v2 v4 v5 v6 v7 v9 : Option O}
theorem rowL_map {α : Type} (f : α → Nat) (xs : List α) : (xs.map fun x => nD (f x)) = (xs.map f).map nD := by rw [List.map_map]; rfl
theorem rows_ix {e : Nat} (he : e < K) : ixO (.fz (.lst ((rowsS cs K S).map trL))) (nD e) = some (trL (rowS cs S e)) := by
  rw [ixO_fz, gIx_lst]
  exact atI_map (rowsS_at he)
theorem wl_3 {i : Nat} (P : PatK sz cs K) (hS : Seeds cs K i S) (k4 : Kp v4) (k5 : Kp v5) (k7 : Kp v7) :
    ∃ v11' v12' v13', forL (gN 11) l__law_world_3 (rgD 0 cs.length) [some o, some (.fz (patD K cs)), v2, some (.fz (.lst ((rowsS cs K S).map trL))), v4, v5, v6, v7, none, v9, some (mkO []), none, none, none, none, none, none, none, none, none, none, none] =
      some (.nx, [some o, some (.fz (patD K cs)), v2, some (.fz (.lst ((rowsS cs K S).map trL))), v4, v5, v6, v7, none, v9, some (mkO (actsR cs S cs.length)), v11', v12', v13', none, none, none, none, none, none, none, none]) := by
  have hK3 := P.k3
  have h5 := P.l5
  obtain ⟨ρ', e, v11, v12, v13, rfl⟩ := forL_inv (g := gN 11) (b := l__law_world_3) (ds := rgD 0 cs.length) (ρ := [some o, some (.fz (patD K cs)), v2, some (.fz (.lst ((rowsS cs K S).map trL))), v4, v5, v6, v7, none, v9, some (mkO []), none, none, none, none, none, none, none, none, none, none, none])
    (fun m ρ => ∃ v11 v12 v13, ρ = [some o, some (.fz (patD K cs)), v2, some (.fz (.lst ((rowsS cs K S).map trL))), v4, v5, v6, v7, none, v9, some (mkO (actsR cs S m)), v11, v12, v13, none, none, none, none, none, none, none, none])
    ⟨none, none, none, rfl⟩ (by
      rintro m d ρ hd ⟨w11, w12, w13, rfl⟩
      obtain ⟨hm, rfl⟩ := rgD_get hd
      have ht : cs[m]? = some cs[m] := List.getElem?_eq_getElem hm
      generalize htt : cs[m] = t at ht
      obtain ⟨hta, htb⟩ := P.en t (List.mem_of_getElem? ht)
      have few := hS.few t.a hta
      have ea : actR cs S m = (rowS cs S t.a).map fun x => (rowS cs S t.b).idxOf (x.1, x.2.1, bh cs x.2.2 m) := by unfold actR; rw [ht]
      refine ⟨_, [some o, some (.fz (patD K cs)), v2, some (.fz (.lst ((rowsS cs K S).map trL))), v4, v5, v6, v7, none, v9, some (mkO (actsR cs S (m + 1))), some (.fz (nD m)), some (.fz (nD t.a)), some (.fz (nD t.b)), none, none, none, none, none, none, none, none], rfl, ?_, _, _, _, rfl⟩
      show l__law_world_3 [some o, some (.fz (patD K cs)), v2, some (.fz (.lst ((rowsS cs K S).map trL))), v4, v5, v6, v7, none, v9, some (mkO (actsR cs S m)), some (.fz (nD m)), w12, w13, none, none, none, none, none, none, none, none] = _
      unfold l__law_world_3
      rw [st_asg2 (a := nD t.a) (b := nD t.b) (d2_pure (pat_1 (K := K) (var_at rfl)) (var_at rfl) (ends_get ht))]
      simp only [List.set_cons_succ, List.set_cons_zero]
      have ec : compL 22 [5, 4, 7] (gTu 3 (gsCons (gN 5) (gsCons (gN 4) (gsCons (gN 7) gsNil)))) bYes e__law_world_3 ((rowS cs S t.a).map trD) [some o, some (.fz (patD K cs)), v2, some (.fz (.lst ((rowsS cs K S).map trL))), v4, v5, v6, v7, none, v9, some (mkO (actsR cs S m)), some (.fz (nD m)), some (.fz (nD t.a)), some (.fz (nD t.b)), none, none, none, none, none, none, none, none] = some ((rowS cs S t.a).map (fun x => nD ((rowS cs S t.b).idxOf (x.1, x.2.1, bh cs x.2.2 m))), [some o, some (.fz (patD K cs)), v2, some (.fz (.lst ((rowsS cs K S).map trL))), v4, v5, v6, v7, none, v9, some (mkO (actsR cs S m)), some (.fz (nD m)), some (.fz (nD t.a)), some (.fz (nD t.b)), none, none, none, none, none, none, none, none]) := by
        refine compL_all (n := 22) (vs := [5, 4, 7]) (e := e__law_world_3) trD (fun x => nD ((rowS cs S t.b).idxOf (x.1, x.2.1, bh cs x.2.2 m))) (by rfl) fun x hx => ?_
        obtain ⟨w1, w2, hmem⟩ := beh_row P ht hx
        refine ⟨[some o, some (.fz (patD K cs)), v2, some (.fz (.lst ((rowsS cs K S).map trL))), some (.fz (nD x.2.1)), some (.fz (nD x.1)), v6, some (.fz (.int x.2.2)), none, v9, some (mkO (actsR cs S m)), some (.fz (nD m)), some (.fz (nD t.a)), some (.fz (nD t.b)), none, none, none, none, none, none, none, none], rfl, [some o, some (.fz (patD K cs)), v2, some (.fz (.lst ((rowsS cs K S).map trL))), some (.fz (nD x.2.1)), some (.fz (nD x.1)), v6, some (.fz (.int x.2.2)), none, v9, some (mkO (actsR cs S m)), some (.fz (nD m)), some (.fz (nD t.a)), some (.fz (nD t.b)), none, none, none, none, none, none, none, none], ?_, ?_⟩
        · unfold e__law_world_3
          exact index_tr (ixv_pure rfl (var_at rfl) (rows_ix htb)) (aOne_pure (dA_pure (aCons_pure (var_at rfl) (aTwo_pure (var_at rfl) (toD_pure (cal_pure (aCons_pure (var_at rfl) (aTwo_pure (var_at rfl) (var_at rfl))) (lbehind_ok w1 w2)) (fz_fz _)))) (gTup3 _ _ _))) hmem
        · have q4 : keepD (some v4) = v4 := k4
          have q5 : keepD (some v5) = v5 := k5
          have q7 : keepD (some v7) = v7 := k7
          show [some o, some (.fz (patD K cs)), v2, some (.fz (.lst ((rowsS cs K S).map trL))), keepD (some v4), keepD (some v5), v6, keepD (some v7), none, v9, some (mkO (actsR cs S m)), some (.fz (nD m)), some (.fz (nD t.a)), some (.fz (nD t.b)), none, none, none, none, none, none, none, none] = _
          rw [q4, q5, q7]
      have e1 : toD (nLc 22 [5, 4, 7] (iSeq (dIxV 3 (dVar 12))) (gTu 3 (gsCons (gN 5) (gsCons (gN 4) (gsCons (gN 7) gsNil)))) bYes e__law_world_3) [some o, some (.fz (patD K cs)), v2, some (.fz (.lst ((rowsS cs K S).map trL))), v4, v5, v6, v7, none, v9, some (mkO (actsR cs S m)), some (.fz (nD m)), some (.fz (nD t.a)), some (.fz (nD t.b)), none, none, none, none, none, none, none, none] = some (rowL (actR cs S m), [some o, some (.fz (patD K cs)), v2, some (.fz (.lst ((rowsS cs K S).map trL))), v4, v5, v6, v7, none, v9, some (mkO (actsR cs S m)), some (.fz (nD m)), some (.fz (nD t.a)), some (.fz (nD t.b)), none, none, none, none, none, none, none, none]) := by
        refine toD_lst ?_
        rw [nLc_ap, iSeq_lst (ixv_pure rfl (var_at rfl) (rows_ix hta))]
        simp only [Option.bind_some]
        rw [if_pos (by rw [List.length_map]; unfold lim; omega), ec]
        simp only [Option.map_some]
        rw [ea, rowL_map]
      rw [ap_sExpr, ap_dMet]
      simp only [List.getElem?_cons_succ, List.getElem?_cons_zero]
      rw [aOne_pure e1]
      simp only [Option.bind_some, List.getElem?_cons_succ, List.getElem?_cons_zero, ap_mApp]
      rw [if_pos (by rw [List.length_map]; unfold actsR lim; rw [List.length_map, List.length_range]; omega)]
      simp only [Option.map_some, List.set_cons_succ, List.set_cons_zero]
      rw [actsR_succ, mkO, List.map_append]
      rfl)
  exact ⟨v11, v12, v13, by rw [e, rgD_len]⟩
end
end VL
set_option Elab.async false
set_option linter.all false
set_option maxRecDepth 100000
set_option maxHeartbeats 4000000
namespace VL
open PySem L2

section
variable {ρ : Env'} {i : Nat} {d : D} {o : O}
theorem dFz_pure (h : ρ[i]? = some (some (.fz d))) : dFz i ρ = some (d, ρ) := by
  rw [ap_dFz, h]
  simp only [fz_fz]
  obtain ⟨h5, h6⟩ := List.getElem?_eq_some_iff.mp h
  rw [← h6, List.set_getElem_self]
theorem dFz_own (h : ρ[i]? = some (some o)) (e : o.freeze = d) : dFz i ρ = some (d, ρ.set i (some (.fz d))) := by
  rw [ap_dFz, h]
  simp only [e]
end
/-- the doings, own or told -/
def IsActs (as : List (List Nat)) (o : O) : Prop := o = mkO as ∨ o = .fz (mkD as)
theorem IsActs.fz {as : List (List Nat)} {o : O} (h : IsActs as o) : o.freeze = mkD as := by
  rcases h with rfl | rfl
  · exact mkO_freeze as
  · exact fz_fz _
theorem IsActs.ix {as : List (List Nat)} {o : O} (h : IsActs as o) {k : Nat} {r : List Nat} (e : as[k]? = some r) : ixO o (nD k) = some (rowL r) := by
  rcases h with rfl | rfl
  · exact mkO_ix e
  · rw [ixO_fz]; exact mkD_ix e
theorem idem_range (n : Nat) : Idem (List.range n) := fun x l h => by
  obtain ⟨h1, h2⟩ := List.getElem?_eq_some_iff.mp h
  rw [List.getElem_range] at h2
  subst h2
  exact h
def marks0 (L : List Nat) : List (List Nat) := L.map List.range
theorem mk0 (L : List Nat) : Mk L (marks0 L) := ⟨by unfold marks0; rw [List.map_map]; exact (List.map_congr_left fun x _ => List.length_range).trans (List.map_id L), fun r hr => by
  obtain ⟨n, _, rfl⟩ := List.mem_map.mp hr
  exact idem_range n⟩
theorem cons0 (cs : List Fn) (L : List Nat) (as : List (List Nat)) (n : Nat) : Cons cs as (marks0 L) n := fun j _ t _ ro ra rt h1 _ _ x y m hx hy => by
  unfold marks0 at h1
  rw [List.getElem?_map] at h1
  cases q : L[t.a]? with
  | none => rw [q] at h1; cases h1
  | some c =>
    rw [q] at h1
    have h1 : List.range c = ro := Option.some.inj h1
    subst h1
    obtain ⟨_, h2⟩ := List.getElem?_eq_some_iff.mp hx
    obtain ⟨_, h3⟩ := List.getElem?_eq_some_iff.mp hy
    rw [List.getElem_range] at h2 h3
    rw [h2, h3]
section
variable {sz : Nat → Nat} {cs : List Fn} {K : Nat} {S : List (Nat × Nat)} {o : O} {v2 v4 v5 v6 v7 v9 v11 v12 v13 : Option O}
theorem wl_4a {j : Nat} (P : PatK sz cs K) (hS : Seeds cs K j S) {a10 : O} : nLc 22 [8] (iSeq (dFz 3)) (gN 8) bYes e__law_world_4 [some o, some (.fz (patD K cs)), v2, some (.fz (.lst ((rowsS cs K S).map trL))), v4, v5, v6, v7, none, v9, some a10, v11, v12, v13, none, none, none, none, none, none, none, none] =
    some (.lst (((rowsS cs K S).map fun r => rowL (List.range r.length)).map .fz), [some o, some (.fz (patD K cs)), v2, some (.fz (.lst ((rowsS cs K S).map trL))), v4, v5, v6, v7, none, v9, some a10, v11, v12, v13, none, none, none, none, none, none, none, none]) := by
  have hK := P.k3
  refine nLc1 (enc := trL) (iSeq_lst (dFz_pure rfl)) (by unfold rowsS lim; rw [List.length_map, List.length_range]; omega) rfl rfl .none fun r hr => ?_
  unfold rowsS at hr
  obtain ⟨e, he, rfl⟩ := List.mem_map.mp hr
  have few := hS.few e (List.mem_range.mp he)
  unfold e__law_world_4
  refine toD_lst ?_
  have e1 : dA gLen (aCons (dVar 8) aNil) [some o, some (.fz (patD K cs)), v2, some (.fz (.lst ((rowsS cs K S).map trL))), v4, v5, v6, v7, some (.fz (trL (rowS cs S e))), v9, some a10, v11, v12, v13, none, none, none, none, none, none, none, none] = some (nD (rowS cs S e).length, _) := dA_pure (aOne_pure (var_at rfl)) (by rw [gLen_lst, List.length_map])
  unfold nListR1
  show ((dA gLen (aCons (dVar 8) aNil) [some o, some (.fz (patD K cs)), v2, some (.fz (.lst ((rowsS cs K S).map trL))), v4, v5, v6, v7, some (.fz (trL (rowS cs S e))), v9, some a10, v11, v12, v13, none, none, none, none, none, none, none, none]).bind _) = _
  rw [e1]
  simp only [Option.bind_some]
  rw [if_pos (tupR (by omega))]
  rw [Int.toNat_natCast, rgD_eq]
  rfl
theorem marks_rows : O.lst (((rowsS cs K S).map fun r => rowL (List.range r.length)).map .fz) = mkO (marks0 ((rowsS cs K S).map List.length)) := by
  unfold mkO marks0
  rw [List.map_map, List.map_map, List.map_map]; rfl
theorem wl_4 {j N : Nat} {L : List Nat} {as ms : List (List Nat)} {v15 v16 : Option O} {a10 : O} (P : PatK sz cs K) (ho : StOk o) (A : Acts cs L as) (hL : L.length = K) (h10 : IsActs as a10) (M : Mk L ms) (C : Cons cs as ms cs.length) :
    ∃ o' v4' v11' v12' v13' v15' v16' a10' ms', forL (gN 11) l__law_world_4 (rgD 0 N) [some o, some (.fz (patD K cs)), v2, some (.fz (.lst ((rowsS cs K S).map trL))), v4, v5, v6, v7, none, v9, some a10, v11, v12, v13, some (mkO ms), v15, v16, none, none, none, none, none] =
      some (.nx, [some o', some (.fz (patD K cs)), v2, some (.fz (.lst ((rowsS cs K S).map trL))), v4', v5, v6, v7, none, v9, some a10', v11', v12', v13', some (mkO ms'), v15', v16', none, none, none, none, none]) ∧ StOk o' ∧ IsActs as a10' ∧ Mk L ms' ∧ Cons cs as ms' cs.length := by
  have hK3 := P.k3
  have hK1 := P.k1
  obtain ⟨ρ', e, o', v4', v11', v12', v13', v15', v16', a10', ms', rfl, h1, h2, h3, h4⟩ := forL_inv (g := gN 11) (b := l__law_world_4) (ds := rgD 0 N) (ρ := [some o, some (.fz (patD K cs)), v2, some (.fz (.lst ((rowsS cs K S).map trL))), v4, v5, v6, v7, none, v9, some a10, v11, v12, v13, some (mkO ms), v15, v16, none, none, none, none, none])
    (fun _ ρ => ∃ o' v4' v11' v12' v13' v15' v16' a10' ms', ρ = [some o', some (.fz (patD K cs)), v2, some (.fz (.lst ((rowsS cs K S).map trL))), v4', v5, v6, v7, none, v9, some a10', v11', v12', v13', some (mkO ms'), v15', v16', none, none, none, none, none] ∧ StOk o' ∧ IsActs as a10' ∧ Mk L ms' ∧ Cons cs as ms' cs.length)
    ⟨_, _, _, _, _, _, _, _, _, rfl, ho, h10, M, C⟩ (by
      rintro i d ρ hd ⟨o1, w4, w11, w12, w13, w15, w16, b10, ms, rfl, ho1, h10, M, C⟩
      obtain ⟨hi, rfl⟩ := rgD_get hd
      obtain ⟨k, o2, hk, ho2, e1⟩ := take_d (ρ := [some o1, some (.fz (patD K cs)), v2, some (.fz (.lst ((rowsS cs K S).map trL))), w4, v5, v6, v7, none, v9, some b10, some (.fz (nD i)), w12, w13, some (mkO ms), w15, w16, none, none, none, none, none]) (f := d2 gIx (dVar 1) (dC (.int 0))) (m := K) rfl ho1 (pat_0 (var_at rfl)) (by omega) (by omega)
      obtain ⟨x, o3, hx, ho3, e2⟩ := take_d (ρ := [some o2, some (.fz (patD K cs)), v2, some (.fz (.lst ((rowsS cs K S).map trL))), some (.fz (nD k)), v5, v6, v7, none, v9, some b10, some (.fz (nD i)), w12, w13, some (mkO ms), w15, w16, none, none, none, none, none]) (f := dC (.int 7)) (m := 7) rfl ho2 rfl (by omega) (by omega)
      obtain ⟨y, o4, hy, ho4, e3⟩ := take_d (ρ := [some o3, some (.fz (patD K cs)), v2, some (.fz (.lst ((rowsS cs K S).map trL))), some (.fz (nD k)), v5, v6, v7, none, v9, some b10, some (.fz (nD i)), some (.fz (nD x)), w13, some (mkO ms), w15, w16, none, none, none, none, none]) (f := dC (.int 7)) (m := 7) rfl ho3 rfl (by omega) (by omega)
      have hkL : L[k]? = some L[k] := List.getElem?_eq_getElem (by omega)
      obtain ⟨r, hr, hrl, hri⟩ := M.get hkL
      have r7 := A.few _ (List.mem_of_getElem? hkL)
      have hkm : k < ms.length := (List.getElem?_eq_some_iff.mp hr).1
      suffices hh : ∃ v15' v16' a10' ms', l__law_world_4 [some o1, some (.fz (patD K cs)), v2, some (.fz (.lst ((rowsS cs K S).map trL))), w4, v5, v6, v7, none, v9, some b10, some (.fz (nD i)), w12, w13, some (mkO ms), w15, w16, none, none, none, none, none] = some (.nx, [some o4, some (.fz (patD K cs)), v2, some (.fz (.lst ((rowsS cs K S).map trL))), some (.fz (nD k)), v5, v6, v7, none, v9, some a10', some (.fz (nD i)), some (.fz (nD x)), some (.fz (nD y)), some (mkO ms'), v15', v16', none, none, none, none, none]) ∧ IsActs as a10' ∧ Mk L ms' ∧ Cons cs as ms' cs.length by
        obtain ⟨v15', v16', a10', ms', e, h1, h2, h3⟩ := hh
        exact ⟨_, _, rfl, e, o4, _, _, _, _, _, _, _, _, rfl, ho4, h1, h2, h3⟩
      unfold l__law_world_4
      rw [st_asg' e1]
      simp only [List.set_cons_succ, List.set_cons_zero]
      rw [st_asg' e2]
      simp only [List.set_cons_succ, List.set_cons_zero]
      rw [st_asg' e3]
      simp only [List.set_cons_succ, List.set_cons_zero]
      have et : bD (d2 gLt (dA gMax (aCons (dVar 12) (aCons (dVar 13) aNil))) (dA gLen (aCons (dIxV 14 (dVar 4)) aNil))) [some o4, some (.fz (patD K cs)), v2, some (.fz (.lst ((rowsS cs K S).map trL))), some (.fz (nD k)), v5, v6, v7, none, v9, some b10, some (.fz (nD i)), some (.fz (nD x)), some (.fz (nD y)), some (mkO ms), w15, w16, none, none, none, none, none] = some (decide (((max x y : Nat) : Int) < (r.length : Nat)), [some o4, some (.fz (patD K cs)), v2, some (.fz (.lst ((rowsS cs K S).map trL))), some (.fz (nD k)), v5, v6, v7, none, v9, some b10, some (.fz (nD i)), some (.fz (nD x)), some (.fz (nD y)), some (mkO ms), w15, w16, none, none, none, none, none]) :=
        bD_pure (d2_pure (dA_pure (aTwo_pure (var_at rfl) (var_at rfl)) (max_nat _ _)) (dA_pure (aOne_pure (ixv_pure rfl (var_at rfl) (mkO_ix hr))) (by rw [gLen_lst, List.length_map])) (gLt_int _ _))
      rw [sIf_pure et]
      by_cases q : ((max x y : Nat) : Int) < (r.length : Nat)
      · rw [if_pos (decide_eq_true q)]
        have hxr : r[x]? = some r[x] := List.getElem?_eq_getElem (by omega)
        have hyr : r[y]? = some r[y] := List.getElem?_eq_getElem (by omega)
        have ix := hri _ _ hxr
        have iy := hri _ _ hyr
        generalize r[x] = a at hxr ix
        generalize r[y] = b at hyr iy
        have ilo : r[min a b]? = some (min a b) := by
          by_cases z : a ≤ b
          · rw [Nat.min_eq_left z]; exact ix
          · rw [Nat.min_eq_right (by omega)]; exact iy
        rw [st_asg (d := nD (min a b)) (dA_pure (aTwo_pure (d2_pure (ixv_pure rfl (var_at rfl) (mkO_ix hr)) (var_at rfl) (rowL_ix hxr)) (d2_pure (ixv_pure rfl (var_at rfl) (mkO_ix hr)) (var_at rfl) (rowL_ix hyr))) (min_nat _ _))]
        rw [st_asg (d := nD (max a b)) (dA_pure (aTwo_pure (d2_pure (ixv_pure rfl (var_at rfl) (mkO_ix hr)) (var_at rfl) (rowL_ix hxr)) (d2_pure (ixv_pure rfl (var_at rfl) (mkO_ix hr)) (var_at rfl) (rowL_ix hyr))) (max_nat _ _))]
        simp only [List.set_cons_succ, List.set_cons_zero]
        have er := relab_e (ρ := [some o4, some (.fz (patD K cs)), v2, some (.fz (.lst ((rowsS cs K S).map trL))), some (.fz (nD k)), v5, v6, v7, none, v9, some b10, some (.fz (nD i)), some (.fz (nD x)), some (.fz (nD y)), some (mkO ms), some (.fz (nD (min a b))), some (.fz (nD (max a b))), none, none, none, none, none]) (n := 22) (v := 17) (hi := 16) (lo := 15) (r := r) (f := e__law_world_5) rfl rfl rfl (by decide) (by decide) rfl rfl rfl
        have ec : toD (nLc 22 [17] (iSeq (dIxV 14 (dVar 4))) (gN 17) bYes e__law_world_5) [some o4, some (.fz (patD K cs)), v2, some (.fz (.lst ((rowsS cs K S).map trL))), some (.fz (nD k)), v5, v6, v7, none, v9, some b10, some (.fz (nD i)), some (.fz (nD x)), some (.fz (nD y)), some (mkO ms), some (.fz (nD (min a b))), some (.fz (nD (max a b))), none, none, none, none, none] = some (rowL (relab (min a b) (max a b) r), [some o4, some (.fz (patD K cs)), v2, some (.fz (.lst ((rowsS cs K S).map trL))), some (.fz (nD k)), v5, v6, v7, none, v9, some b10, some (.fz (nD i)), some (.fz (nD x)), some (.fz (nD y)), some (mkO ms), some (.fz (nD (min a b))), some (.fz (nD (max a b))), none, none, none, none, none]) := by
          refine toD_lst ?_
          rw [nLc_ap, iSeq_lst (ixv_pure rfl (var_at rfl) (mkO_ix hr))]
          simp only [Option.bind_some]
          rw [if_pos (by rw [List.length_map]; unfold lim; omega), er]
          simp only [Option.map_some]
        rw [st_run (st_seti (i := 14) (f := dVar 4) (o := mkO ms) (o' := mkO (ms.set k (relab (min a b) (max a b) r))) (k := nD k) ec (var_at rfl) rfl (mkO_set hkm))]
        simp only [List.set_cons_succ, List.set_cons_zero]
        obtain ⟨ms', em, M', C'⟩ := merged_ok (K := K) A (M.relab (hi := max a b) hr ilo) P.l5
        refine ⟨some (.fz (nD (min a b))), some (.fz (nD (max a b))), .fz (mkD as), ms', ?_, .inr rfl, M', C'⟩
        rw [ap_sSetN]
        have eg : mCons (dVar 1) (mOwn 14 (aCons (dFz 10) aNil)) [some o4, some (.fz (patD K cs)), v2, some (.fz (.lst ((rowsS cs K S).map trL))), some (.fz (nD k)), v5, v6, v7, none, v9, some b10, some (.fz (nD i)), some (.fz (nD x)), some (.fz (nD y)), some (mkO (ms.set k (relab (min a b) (max a b) r))), some (.fz (nD (min a b))), some (.fz (nD (max a b))), none, none, none, none, none] = some (([patD K cs], [mkD as]), [some o4, some (.fz (patD K cs)), v2, some (.fz (.lst ((rowsS cs K S).map trL))), some (.fz (nD k)), v5, v6, v7, none, v9, some (.fz (mkD as)), some (.fz (nD i)), some (.fz (nD x)), some (.fz (nD y)), some (mkO (ms.set k (relab (min a b) (max a b) r))), some (.fz (nD (min a b))), some (.fz (nD (max a b))), none, none, none, none, none]) := by
          have e0 : dFz 10 [some o4, some (.fz (patD K cs)), v2, some (.fz (.lst ((rowsS cs K S).map trL))), some (.fz (nD k)), v5, v6, v7, none, v9, some b10, some (.fz (nD i)), some (.fz (nD x)), some (.fz (nD y)), some (mkO (ms.set k (relab (min a b) (max a b) r))), some (.fz (nD (min a b))), some (.fz (nD (max a b))), none, none, none, none, none] = some (mkD as, [some o4, some (.fz (patD K cs)), v2, some (.fz (.lst ((rowsS cs K S).map trL))), some (.fz (nD k)), v5, v6, v7, none, v9, some (.fz (mkD as)), some (.fz (nD i)), some (.fz (nD x)), some (.fz (nD y)), some (mkO (ms.set k (relab (min a b) (max a b) r))), some (.fz (nD (min a b))), some (.fz (nD (max a b))), none, none, none, none, none]) := dFz_own rfl h10.fz
          unfold mCons
          rw [var_at (i := 1) rfl]
          simp only [Option.bind_some]
          rw [ap_mOwn]
          simp only [List.getElem?_cons_succ, List.getElem?_cons_zero]
          rw [ap_aCons, e0]
          rfl
        have e4 : calM 1 14 f__law_merged (mCons (dVar 1) (mOwn 14 (aCons (dFz 10) aNil))) [some o4, some (.fz (patD K cs)), v2, some (.fz (.lst ((rowsS cs K S).map trL))), some (.fz (nD k)), v5, v6, v7, none, v9, some b10, some (.fz (nD i)), some (.fz (nD x)), some (.fz (nD y)), some (mkO (ms.set k (relab (min a b) (max a b) r))), some (.fz (nD (min a b))), some (.fz (nD (max a b))), none, none, none, none, none] = some (mkO ms', [some o4, some (.fz (patD K cs)), v2, some (.fz (.lst ((rowsS cs K S).map trL))), some (.fz (nD k)), v5, v6, v7, none, v9, some (.fz (mkD as)), some (.fz (nD i)), some (.fz (nD x)), some (.fz (nD y)), none, some (.fz (nD (min a b))), some (.fz (nD (max a b))), none, none, none, none, none]) := by
          unfold calM
          rw [eg]
          simp only [Option.bind_some, List.getElem?_cons_succ, List.getElem?_cons_zero]
          rw [if_pos (show [patD K cs].length = 1 from rfl)]
          simp only [List.map_cons, List.map_nil, List.cons_append, List.nil_append]
          rw [em]
          rfl
        rw [e4]
        rfl
      · rw [if_neg (by rw [decide_eq_false q]; decide)]
        exact ⟨w15, w16, b10, ms, rfl, h10, M, C⟩)
  exact ⟨o', v4', v11', v12', v13', v15', v16', a10', ms', e, h1, h2, h3, h4⟩
end
end VL
set_option Elab.async false
set_option linter.all false
set_option maxRecDepth 100000
set_option maxHeartbeats 4000000
namespace VL
open PySem L2
/-! ### the told world: heads, and where doings lead them -/
def natI (r : List Nat) : List Int := r.map fun n : Nat => (n : Int)
/-- the marks of a row, rising -/
def hd (r : List Nat) : List Nat := (sortSet (natI r)).map Int.toNat
theorem natI_hd (r : List Nat) : sortSet (natI r) = natI (hd r) := by
  unfold hd natI
  rw [List.map_map]
  refine ((List.map_congr_left fun x hx => ?_).trans (List.map_id _)).symm
  have := mem_sortSet.mp hx
  obtain ⟨n, _, rfl⟩ := List.mem_map.mp this
  show ((n : Int).toNat : Int) = (n : Int)
  rw [Int.toNat_natCast]
theorem mem_hd {r : List Nat} {x : Nat} : x ∈ hd r ↔ x ∈ r := by
  have h1 : (x : Int) ∈ natI (hd r) ↔ (x : Int) ∈ natI r := by rw [← natI_hd]; exact mem_sortSet
  have h2 : ∀ (l : List Nat), (x : Int) ∈ natI l ↔ x ∈ l := fun l => by
    unfold natI
    rw [List.mem_map]
    exact ⟨fun ⟨a, h, e⟩ => by have : a = x := by omega
                               exact this ▸ h, fun h => ⟨x, h, rfl⟩⟩
  rw [h2, h2] at h1
  exact h1
theorem nodup_hd (r : List Nat) : (hd r).Nodup := by
  have h := nodup_sortSet (natI r)
  rw [natI_hd] at h
  unfold natI at h
  exact (List.pairwise_map.mp h).imp fun h e => h (by rw [e])
theorem len_hd (r : List Nat) : (hd r).length ≤ r.length := by
  unfold hd sortSet
  rw [List.length_map, (sortI_perm _).length_eq]
  have := len_ddI (natI r)
  unfold natI at this ⊢
  rw [List.length_map] at this
  exact this
/-- the mark of where the doing ra leads x -/
def fM (ra rt : List Nat) (x : Nat) : Nat := rt.getD (ra.getD x 0) 0
def toldR (cs : List Fn) (ms as : List (List Nat)) (k : Nat) : List Nat := match cs[k]? with
  | some t => (hd (ms.getD t.a [])).map fun x => (hd (ms.getD t.b [])).idxOf (fM (as.getD k []) (ms.getD t.b []) x)
  | none => []
def toldL (cs : List Fn) (ms as : List (List Nat)) (m : Nat) : List (List Nat) := (List.range m).map (toldR cs ms as)
theorem toldL_succ (cs : List Fn) (ms as : List (List Nat)) (m : Nat) : toldL cs ms as (m + 1) = toldL cs ms as m ++ [toldR cs ms as m] := by
  unfold toldL
  rw [List.range_succ, List.map_append]; rfl
theorem getD_of {α : Type} {xs : List α} {i : Nat} {x d : α} (h : xs[i]? = some x) : xs.getD i d = x := by
  rw [List.getD_eq_getElem?_getD, h]; rfl
/-- a head, its end's mark -/
theorem head_end {L : List Nat} {ms : List (List Nat)} {ra ro rt : List Nat} {la lb : Nat} (hl : ra.length = la) (hb : ∀ x ∈ ra, x < lb) (hol : ro.length = la) (hoi : Idem ro) (htl : rt.length = lb) (hti : Idem rt) {x : Nat} (hx : x ∈ hd ro) :
    ∃ y, ro[x]? = some x ∧ ra[x]? = some y ∧ rt[y]? = some (fM ra rt x) ∧ rt[fM ra rt x]? = some (fM ra rt x) ∧ fM ra rt x ∈ hd rt := by
  obtain ⟨i, hi⟩ := List.mem_iff_getElem?.mp (mem_hd.mp hx)
  have h1 := hoi i x hi
  have hxl : x < ra.length := by rw [hl, ← hol]; exact (List.getElem?_eq_some_iff.mp h1).1
  have h2 : ra[x]? = some ra[x] := List.getElem?_eq_getElem hxl
  have h3 := hb _ (List.getElem_mem hxl)
  have h4 : rt[ra[x]]? = some rt[ra[x]] := List.getElem?_eq_getElem (by omega)
  have h5 : fM ra rt x = rt[ra[x]] := by unfold fM; rw [getD_of h2, getD_of h4]
  rw [← h5] at h4
  exact ⟨_, h1, h2, h4, hti _ _ h4, mem_hd.mpr (List.mem_of_getElem? h4)⟩
theorem told_world {sz : Nat → Nat} {cs : List Fn} {K : Nat} {L : List Nat} {as ms : List (List Nat)} (P : PatK sz cs K) (W : Wd cs K L as) (M : Mk L ms) (C : Cons cs as ms cs.length) : Wd cs K (ms.map fun r => (hd r).length) (toldL cs ms as cs.length) := by
  have hml : ms.length = K := by rw [← W.k, ← M.len, List.length_map]
  have ln : ∀ (e : Nat) (r : List Nat), ms[e]? = some r → (ms.map fun r => (hd r).length)[e]? = some (hd r).length := fun e r h => by rw [List.getElem?_map, h]; rfl
  have gm : ∀ (k : Nat) (t : Fn), cs[k]? = some t → ∃ ra ro rt la lb, as[k]? = some ra ∧ ms[t.a]? = some ro ∧ ms[t.b]? = some rt ∧ ra.length = la ∧ (∀ x ∈ ra, x < lb) ∧ ro.length = la ∧ Idem ro ∧ rt.length = lb ∧ Idem rt ∧
      (toldL cs ms as cs.length)[k]? = some ((hd ro).map fun x => (hd rt).idxOf (fM ra rt x)) := fun k t ht => by
    obtain ⟨ra, la, lb, h1, h2, h3, h4, h5⟩ := W.act k t ht
    obtain ⟨ro, h6, h7, h8⟩ := M.get h2
    obtain ⟨rt, h9, h10, h11⟩ := M.get h3
    refine ⟨ra, ro, rt, la, lb, h1, h6, h9, h4, h5, h7, h8, h10, h11, ?_⟩
    have hk := (List.getElem?_eq_some_iff.mp ht).1
    unfold toldL
    rw [List.getElem?_map, List.getElem?_range hk]
    show some (toldR cs ms as k) = _
    unfold toldR
    rw [ht]
    simp only [getD_of h6, getD_of h9, getD_of h1]
  refine ⟨by rw [List.length_map]; exact hml, by unfold toldL; simp, fun n hn => ?_, fun k t ht => ?_, fun j k s t hs ht hst qa qb hqa hqb p q hpq => ?_⟩
  · obtain ⟨r, hr, rfl⟩ := List.mem_map.mp hn
    have h1 := len_hd r
    have h2 : r.length ≤ 7 := W.few _ (by rw [← M.len]; exact List.mem_map_of_mem hr)
    omega
  · obtain ⟨ra, ro, rt, la, lb, h1, h2, h3, h4, h5, h6, h7, h8, h9, h10⟩ := gm k t ht
    refine ⟨_, _, _, h10, ln _ _ h2, ln _ _ h3, by rw [List.length_map], fun x hx => ?_⟩
    obtain ⟨z, hz, rfl⟩ := List.mem_map.mp hx
    obtain ⟨y, _, _, _, _, hm⟩ := head_end (L := L) (ms := ms) h4 h5 h6 h7 h8 h9 hz
    exact List.idxOf_lt_length_of_mem hm
  · obtain ⟨ra, ro, rt, la, lb, h1, h2, h3, h4, h5, h6, h7, h8, h9, h10⟩ := gm j s hs
    obtain ⟨ra', ro', rt', la', lb', h1', h2', h3', h4', h5', h6', h7', h8', h9', h10'⟩ := gm k t ht
    rw [h10] at hqa
    rw [h10'] at hqb
    cases hqa; cases hqb
    rw [hst] at h3
    rw [h3] at h2'
    cases h2'
    rw [List.getElem?_map] at hpq
    cases hx : (hd ro)[p]? with
    | none => rw [hx] at hpq; cases hpq
    | some x =>
      rw [hx] at hpq
      have hq : (hd rt).idxOf (fM ra rt x) = q := Option.some.inj hpq
      obtain ⟨y, a1, a2, a3, a4, a5⟩ := head_end (L := L) (ms := ms) h4 h5 h6 h7 h8 h9 (List.mem_of_getElem? hx)
      generalize hm : fM ra rt x = m at hq a3 a4 a5
      have gq : (hd rt)[q]? = some m := by rw [← hq]; exact idx_at a5
      obtain ⟨y', b1, b2, b3, b4, b5⟩ := head_end (L := L) (ms := ms) h4' h5' h6' h7' h8' h9' a5
      refine ⟨(hd rt').idxOf (fM ra' rt' m), by rw [List.getElem?_map, gq]; rfl, ?_⟩
      -- the same mark from y as from its mark
      obtain ⟨z0, c1, c2⟩ := W.beh j k s t hs ht hst ra ra' h1 h1' x y a2
      have hkl := (List.getElem?_eq_some_iff.mp ht).1
      have con := C k hkl t ht rt ra' rt' h3 h1' h3' y m m a3 a4
      have e1 : rt'[z0]? = some (fM ra' rt' m) := by
        have q1 : eM ra' rt' y = rt'[z0]? := by unfold eM; rw [c1]; rfl
        have q2 : eM ra' rt' m = some (fM ra' rt' m) := by unfold eM; rw [b2]; exact b3
        rw [← q1, con, q2]
      have wt := wv_way P.toPatOk (List.mem_of_getElem? hs) (List.mem_of_getElem? ht) hst
      unfold ledL at c2 ⊢
      rcases wt with ⟨w1, w2⟩ | ⟨n, v, w1, hv, va, vb⟩
      · rw [w1, if_pos rfl] at c2 ⊢
        have c2 : x = z0 := Option.some.inj c2
        subst c2
        have e2 : rt' = ro := by
          rw [← w2, h2] at h3'
          exact (Option.some.inj h3').symm
        subst e2
        have e3 : fM ra' rt' m = x := Option.some.inj (e1.symm.trans a1)
        rw [e3]
        congr 1
        exact (idx_of_at (nodup_hd rt') hx).symm
      · have hn : ¬ ((n : Int) = -1) := by omega
        rw [w1, if_neg hn] at c2 ⊢
        simp only [Int.toNat_natCast] at c2 ⊢
        obtain ⟨rc, ro2, rt2, _, _, d1, d2, d3, d4, d5, d6, d7, d8, d9, d10⟩ := gm n v hv
        rw [va, h2] at d2
        rw [vb, h3'] at d3
        cases d2; cases d3
        rw [d1] at c2
        rw [d10]
        simp only [Option.bind_some] at c2 ⊢
        rw [List.getElem?_map, hx]
        show some ((hd rt').idxOf (fM rc rt' x)) = _
        have e4 : fM rc rt' x = fM ra' rt' m := by
          unfold fM at e1 ⊢
          rw [getD_of c2, getD_of e1]
        rw [e4]
end VL
set_option Elab.async false
set_option linter.all false
set_option maxRecDepth 100000
set_option maxHeartbeats 4000000
namespace VL
open PySem L2

/-! ### _law_world: what is told -/
abbrev tpR (r : List Nat) : D := .tup (r.map nD)
abbrev tpO (rs : List (List Nat)) : O := .lst (rs.map fun r => .fz (tpR r))
def worldD (L : List Nat) (as : List (List Nat)) : D := .tup [tpR L, .tup (as.map tpR)]
section
variable {n v : Nat} {ρ ρ0 : Env'} {w : Option O}
theorem nLc2 {α : Type} {enc r : α → D} {xs : List α} {e : DF} {it : IF} (hi : it ρ0 = some (xs.map enc, ρ)) (hl : xs.length ≤ lim) (hn : ρ.length = n) (ew : ρ[v]? = some w) (hk : Kp w) (h : ∀ x ∈ xs, e (ρ.set v (some (.fz (enc x)))) = some (r x, ρ.set v (some (.fz (enc x))))) :
    nLc n [v] it (gN v) bYes e ρ0 = some (.lst ((xs.map r).map .fz), ρ) := by
  rw [nLc_ap, hi]
  simp only [Option.bind_some, List.length_map, if_pos hl, lc1 hn ew hk h, Option.map_some]
theorem toD_lst2 {fo : OF} {ds : List D} (h : fo ρ0 = some (.lst (ds.map .fz), ρ)) : toD fo ρ0 = some (.lst ds, ρ) := by
  rw [ap_toD, h]
  simp only [Option.map_some, fz_lst]
theorem iSeq_lst2 {f : DF} {ds : List D} (h : f ρ0 = some (.lst ds, ρ)) : iSeq f ρ0 = some (ds, ρ) := by
  rw [ap_iSeq, h]; rfl
end
theorem index_nat {f : DF} {g : LF} {r : List Nat} {x : Nat} {ρ : Env'} (hf : f ρ = some (rowL r, ρ)) (hg : g ρ = some ([nD x], ρ)) (hm : x ∈ r) : dIndex f g ρ = some (nD (r.idxOf x), ρ) := by
  have hpl : ∀ d ∈ r.map nD, plN 0 d := fun d hd => by
    obtain ⟨y, _, rfl⟩ := List.mem_map.mp hd
    exact plN_int 0 _
  unfold dIndex
  rw [hf]
  simp only [Option.bind_some]
  rw [hg]
  simp only [Option.bind_some]
  rw [if_pos ⟨plN_dat (plN_lst hpl) (by decide), plN_dat (plN_int 0 _) (by decide)⟩, idx_pl (plN_int 0 _) hpl (List.mem_map.mpr ⟨x, hm, rfl⟩), idx_inj (f := nD) (fun _ _ => nD_inj)]
  rfl
theorem sortSet_row {r : List Nat} (h : r.length < 64) : nSortSet [rowL r] = some (.lst (((hd r).map nD).map .fz)) := by
  unfold nSortSet
  simp only [ints_nD, Option.bind_some]
  rw [if_pos (by rw [List.length_map]; exact h)]
  have := natI_hd r
  unfold natI at this
  rw [this, List.map_map, List.map_map]; rfl
section
variable {sz : Nat → Nat} {cs : List Fn} {K : Nat} {o a10 : O} {L : List Nat} {as ms : List (List Nat)} {v2 v3 v4 v5 v6 v7 v8 v9 v11 v12 v13 v15 v16 : Option O}
theorem wl_5 (P : PatK sz cs K) (W : Wd cs K L as) (M : Mk L ms) (h10 : IsActs as a10) (k8 : Kp v8) :
    ∃ v8' v11' v12' v13', forL (gN 11) l__law_world_5 (rgD 0 cs.length) [some o, some (.fz (patD K cs)), v2, v3, v4, v5, v6, v7, v8, v9, some a10, v11, v12, v13, some (.fz (mkD ms)), v15, v16, none, some (.fz (mkD (ms.map hd))), some (tpO []), none, none] =
      some (.nx, [some o, some (.fz (patD K cs)), v2, v3, v4, v5, v6, v7, v8', v9, some a10, v11', v12', v13', some (.fz (mkD ms)), v15, v16, none, some (.fz (mkD (ms.map hd))), some (tpO (toldL cs ms as (cs.length))), none, none]) ∧ Kp v8' := by
  have h5 := P.l5
  obtain ⟨ρ', e, v8', v11', v12', v13', rfl, hk8⟩ := forL_inv (g := gN 11) (b := l__law_world_5) (ds := rgD 0 cs.length) (ρ := [some o, some (.fz (patD K cs)), v2, v3, v4, v5, v6, v7, v8, v9, some a10, v11, v12, v13, some (.fz (mkD ms)), v15, v16, none, some (.fz (mkD (ms.map hd))), some (tpO []), none, none])
    (fun m ρ => ∃ v8' v11' v12' v13', ρ = [some o, some (.fz (patD K cs)), v2, v3, v4, v5, v6, v7, v8', v9, some a10, v11', v12', v13', some (.fz (mkD ms)), v15, v16, none, some (.fz (mkD (ms.map hd))), some (tpO (toldL cs ms as (m))), none, none] ∧ Kp v8')
    ⟨_, _, _, _, rfl, k8⟩ (by
      rintro m d ρ hd0 ⟨w8, w11, w12, w13, rfl, hk8⟩
      obtain ⟨hm, rfl⟩ := rgD_get hd0
      have ht : cs[m]? = some cs[m] := List.getElem?_eq_getElem hm
      generalize cs[m] = t at ht
      obtain ⟨ra, la, lb, h1, h2, h3, h4, h5⟩ := W.act m t ht
      obtain ⟨ro, h6, h7, h8⟩ := M.get h2
      obtain ⟨rt, h9, h10', h11⟩ := M.get h3
      have la7 := W.few _ (List.mem_of_getElem? h2)
      have hl := len_hd ro
      have io : (ms.map hd)[t.a]? = some (hd ro) := by rw [List.getElem?_map, h6]; rfl
      have it : (ms.map hd)[t.b]? = some (hd rt) := by rw [List.getElem?_map, h9]; rfl
      have er : toldR cs ms as m = (hd ro).map fun x => (hd rt).idxOf (fM ra rt x) := by
        unfold toldR
        rw [ht]
        simp only [getD_of h6, getD_of h9, getD_of h1]
      refine ⟨[some o, some (.fz (patD K cs)), v2, v3, v4, v5, v6, v7, w8, v9, some a10, some (.fz (nD m)), w12, w13, some (.fz (mkD ms)), v15, v16, none, some (.fz (mkD (ms.map hd))), some (tpO (toldL cs ms as (m))), none, none], [some o, some (.fz (patD K cs)), v2, v3, v4, v5, v6, v7, some (.fz (.lst ((hd ro).map fun x => nD (fM ra rt x)))), v9, some a10, some (.fz (nD m)), some (.fz (nD t.a)), some (.fz (nD t.b)), some (.fz (mkD ms)), v15, v16, none, some (.fz (mkD (ms.map hd))), some (tpO (toldL cs ms as (m + 1))), none, none], rfl, ?_, _, _, _, _, rfl, .fz _⟩
      unfold l__law_world_5
      rw [st_asg2 (a := nD t.a) (b := nD t.b) (d2_pure (pat_1 (K := K) (var_at rfl)) (var_at rfl) (ends_get ht))]
      simp only [List.set_cons_succ, List.set_cons_zero]
      have e7 : nLc 22 [20] (iSeq (d2 gIx (dVar 18) (dVar 12))) (gN 20) bYes e__law_world_7 [some o, some (.fz (patD K cs)), v2, v3, v4, v5, v6, v7, w8, v9, some a10, some (.fz (nD m)), some (.fz (nD t.a)), some (.fz (nD t.b)), some (.fz (mkD ms)), v15, v16, none, some (.fz (mkD (ms.map hd))), some (tpO (toldL cs ms as (m))), none, none] = some (.lst (((hd ro).map fun x => nD (fM ra rt x)).map .fz), [some o, some (.fz (patD K cs)), v2, v3, v4, v5, v6, v7, w8, v9, some a10, some (.fz (nD m)), some (.fz (nD t.a)), some (.fz (nD t.b)), some (.fz (mkD ms)), v15, v16, none, some (.fz (mkD (ms.map hd))), some (tpO (toldL cs ms as (m))), none, none]) :=
        nLc1 (enc := nD) (iSeq_lst (d2_pure (var_at rfl) (var_at rfl) (mkD_ix io))) (by unfold lim; omega) rfl rfl .none fun x hx => by
          obtain ⟨y, a1, a2, a3, a4, a5⟩ := head_end (L := L) (ms := ms) h4 h5 h7 h8 h10' h11 hx
          unfold e__law_world_7
          exact d2_pure (ixv_pure rfl (var_at rfl) (by rw [ixO_fz]; exact mkD_ix h9)) (d2_pure (ixv_pure rfl (var_at rfl) (h10.ix h1)) (var_at rfl) (rowL_ix a2)) (rowL_ix a3)
      rw [st_frz e7 (show 8 < 22 from by decide)]
      simp only [List.set_cons_succ, List.set_cons_zero]
      have e8 : toD (nLc 22 [21] (iSeq (dVar 8)) (gN 21) bYes e__law_world_8) [some o, some (.fz (patD K cs)), v2, v3, v4, v5, v6, v7, some (.fz (.lst ((hd ro).map fun x => nD (fM ra rt x)))), v9, some a10, some (.fz (nD m)), some (.fz (nD t.a)), some (.fz (nD t.b)), some (.fz (mkD ms)), v15, v16, none, some (.fz (mkD (ms.map hd))), some (tpO (toldL cs ms as (m))), none, none] = some (rowL (toldR cs ms as m), [some o, some (.fz (patD K cs)), v2, v3, v4, v5, v6, v7, some (.fz (.lst ((hd ro).map fun x => nD (fM ra rt x)))), v9, some a10, some (.fz (nD m)), some (.fz (nD t.a)), some (.fz (nD t.b)), some (.fz (mkD ms)), v15, v16, none, some (.fz (mkD (ms.map hd))), some (tpO (toldL cs ms as (m))), none, none]) := by
        refine toD_lst ?_
        have := nLc1 (n := 22) (v := 21) (enc := fun x => nD (fM ra rt x)) (r := fun x => nD ((hd rt).idxOf (fM ra rt x))) (xs := hd ro) (e := e__law_world_8) (it := iSeq (dVar 8)) (ρ := [some o, some (.fz (patD K cs)), v2, v3, v4, v5, v6, v7, some (.fz (.lst ((hd ro).map fun x => nD (fM ra rt x)))), v9, some a10, some (.fz (nD m)), some (.fz (nD t.a)), some (.fz (nD t.b)), some (.fz (mkD ms)), v15, v16, none, some (.fz (mkD (ms.map hd))), some (tpO (toldL cs ms as (m))), none, none]) (iSeq_lst (var_at rfl)) (by unfold lim; omega) rfl rfl .none fun x hx => by
          obtain ⟨y, a1, a2, a3, a4, a5⟩ := head_end (L := L) (ms := ms) h4 h5 h7 h8 h10' h11 hx
          unfold e__law_world_8
          exact index_nat (d2_pure (var_at rfl) (var_at rfl) (mkD_ix it)) (aOne_pure (var_at rfl)) a5
        rw [this, er, rowL_map]
      rw [ap_sExpr, ap_dMet]
      simp only [List.getElem?_cons_succ, List.getElem?_cons_zero]
      rw [aOne_pure (dA_pure (aOne_pure e8) (gTuple_lst _))]
      simp only [Option.bind_some, List.getElem?_cons_succ, List.getElem?_cons_zero, ap_mApp]
      rw [if_pos (by rw [List.length_map]; unfold toldL lim; rw [List.length_map, List.length_range]; omega)]
      simp only [Option.map_some, List.set_cons_succ, List.set_cons_zero]
      rw [toldL_succ, tpO, List.map_append]
      rfl)
  exact ⟨v8', v11', v12', v13', by rw [e, rgD_len], hk8⟩
theorem wl_6 (M : Mk L ms) (few : ∀ n ∈ L, n ≤ 7) (hK : L.length ≤ 3) : toD (nLc 22 [8] (iSeq (dFz 14)) (gN 8) bYes e__law_world_6) [some o, some (.fz (patD K cs)), v2, v3, v4, v5, v6, v7, none, v9, some a10, v11, v12, v13, some (mkO ms), v15, v16, none, none, none, none, none] = some (mkD (ms.map hd), [some o, some (.fz (patD K cs)), v2, v3, v4, v5, v6, v7, none, v9, some a10, v11, v12, v13, some (.fz (mkD ms)), v15, v16, none, none, none, none, none]) := by
  have hml : ms.length ≤ 3 := by have := congrArg List.length M.len; rw [List.length_map] at this; omega
  have := nLc2 (n := 22) (v := 8) (enc := rowL) (r := fun r => rowL (hd r)) (xs := ms) (e := e__law_world_6) (it := iSeq (dFz 14)) (ρ0 := [some o, some (.fz (patD K cs)), v2, v3, v4, v5, v6, v7, none, v9, some a10, v11, v12, v13, some (mkO ms), v15, v16, none, none, none, none, none]) (ρ := [some o, some (.fz (patD K cs)), v2, v3, v4, v5, v6, v7, none, v9, some a10, v11, v12, v13, some (.fz (mkD ms)), v15, v16, none, none, none, none, none]) (iSeq_lst2 (dFz_own rfl (mkO_freeze ms))) (by unfold lim; omega) rfl rfl .none fun r hr => by
    have h7 := few _ (by rw [← M.len]; exact List.mem_map_of_mem (f := List.length) hr)
    unfold e__law_world_6
    exact toD_lst (nA_pure (aOne_pure (var_at rfl)) (sortSet_row (by omega)))
  rw [toD_lst2 this]
  show some (D.lst _, _) = some (D.lst ((ms.map hd).map rowL), _)
  rw [List.map_map]
  rfl
end
/-- how a drawn world came about: seeds, and marks on them -/
structure Drw (cs : List Fn) (K most : Nat) (L : List Nat) (as : List (List Nat)) : Prop where
  ex : ∃ S N ms, N ≤ most ∧ Seeds cs K N S ∧ Mk ((rowsS cs K S).map List.length) ms ∧ Cons cs (actsR cs S cs.length) ms cs.length ∧ L = (ms.map fun r => (hd r).length) ∧ as = toldL cs ms (actsR cs S cs.length) cs.length
theorem world_okS {sz : Nat → Nat} {cs : List Fn} {K most : Nat} {o : O} (P : PatK sz cs K) (ho : StOk o) (hm : most ≤ 100) :
    ∃ o' L as, f__law_world [o, .fz (patD K cs), .fz (nD most)] = some (.fz (worldD L as), [o']) ∧ StOk o' ∧ Wd cs K L as ∧ Drw cs K most L as := by
  have hK3 := P.k3
  have hK1 := P.k1
  rw [fx__law_world]
  unfold b__law_world
  have eN : compO 22 [4] (gN 4) bYes e__law_world_1 (rgD 0 K) [some o, some (.fz (patD K cs)), some (.fz (nD most)), none, none, none, none, none, none, none, none, none, none, none, none, none, none, none, none, none, none, none] = some ((rowsS cs K []).map (fun r => O.lst (r.map fun x => .fz (trD x))), [some o, some (.fz (patD K cs)), some (.fz (nD most)), none, none, none, none, none, none, none, none, none, none, none, none, none, none, none, none, none, none, none]) := by
    rcases (show K = 1 ∨ K = 2 ∨ K = 3 by omega) with rfl | rfl | rfl <;> rfl
  have e1 : nLcO 22 [4] (iRg gRg1 (aCons (d2 gIx (dVar 1) (dC (.int 0))) aNil)) (gN 4) bYes e__law_world_1 [some o, some (.fz (patD K cs)), some (.fz (nD most)), none, none, none, none, none, none, none, none, none, none, none, none, none, none, none, none, none, none, none] = some (trO (rowsS cs K []), [some o, some (.fz (patD K cs)), some (.fz (nD most)), none, none, none, none, none, none, none, none, none, none, none, none, none, none, none, none, none, none, none]) := by
    unfold nLcO
    rw [rg_pure (n := K) (aOne_pure (pat_0 (var_at rfl))) (by omega)]
    simp only [Option.bind_some, rgD_len]
    rw [if_pos (by unfold lim; omega), eN]
    rfl
  rw [st_set e1]
  simp only [List.set_cons_succ, List.set_cons_zero]
  obtain ⟨N, o1, hN, ho1, et⟩ := take_d (ρ := [some o, some (.fz (patD K cs)), some (.fz (nD most)), some (trO (rowsS cs K [])), none, none, none, none, none, none, none, none, none, none, none, none, none, none, none, none, none, none]) (f := d2 gAdd (dVar 2) (dC (.int 1))) (m := (most : Int) + 1) rfl ho (d2_pure (var_at rfl) rfl (gAdd_int _ _)) (by omega) (by omega)
  obtain ⟨o2, S, v4, v5, v6, v7, v9, e2, ho2, hS, k4, k5, k7⟩ := wl_2 (N := N) (o := o1) (v2 := some (.fz (nD most))) (v4 := none) (v5 := none) (v6 := none) (v7 := none) (v9 := none) P ho1 .none .none .none
  have W0 := raw_world P hS
  have sf : sFor (iRg gRg1 (aCons (toD (cal1 0 0 f__law_take (mOwn 0 (aCons (d2 gAdd (dVar 2) (dC (.int 1))) aNil)))) aNil)) (gN 5) l__law_world_2 [some o, some (.fz (patD K cs)), some (.fz (nD most)), some (trO (rowsS cs K [])), none, none, none, none, none, none, none, none, none, none, none, none, none, none, none, none, none, none] = some (.nx, [some o2, some (.fz (patD K cs)), some (.fz (nD most)), some (trO (rowsS cs K S)), v4, v5, v6, v7, none, v9, none, none, none, none, none, none, none, none, none, none, none, none]) := by
    rw [sFor_ap, ap_iRg, ap_aCons, et]
    simp only [Option.bind_some, ap_aNil, Option.map_some, List.set_cons_zero, gRg_nat (n := N) (by omega)]
    exact e2
  have e3 : sFrz 3 (sFor (iRg gRg1 (aCons (toD (cal1 0 0 f__law_take (mOwn 0 (aCons (d2 gAdd (dVar 2) (dC (.int 1))) aNil)))) aNil)) (gN 5) l__law_world_2) [some o, some (.fz (patD K cs)), some (.fz (nD most)), some (trO (rowsS cs K [])), none, none, none, none, none, none, none, none, none, none, none, none, none, none, none, none, none, none] =
      some (.nx, [some o2, some (.fz (patD K cs)), some (.fz (nD most)), some (.fz (.lst ((rowsS cs K S).map trL))), v4, v5, v6, v7, none, v9, none, none, none, none, none, none, none, none, none, none, none, none]) := by
    rw [ap_sFrz, sf]
    simp only [Option.map_some, List.getElem?_cons_succ, List.getElem?_cons_zero, trO_freeze, List.set_cons_succ, List.set_cons_zero]
  rw [st_run e3]
  have e4 : nA gLst' aNil [some o2, some (.fz (patD K cs)), some (.fz (nD most)), some (.fz (.lst ((rowsS cs K S).map trL))), v4, v5, v6, v7, none, v9, none, none, none, none, none, none, none, none, none, none, none, none] = some (mkO [], _) := nA_pure rfl (if_pos (show 0 ≤ lim from by decide))
  rw [st_set e4]
  simp only [List.set_cons_succ, List.set_cons_zero]
  obtain ⟨v11, v12, v13, e5⟩ := wl_3 (o := o2) (v2 := some (.fz (nD most))) (v6 := v6) (v9 := v9) P hS k4 k5 k7
  rw [st_for (rg_pure (n := cs.length) (aOne_pure (ends_len (pat_1 (K := K) (var_at rfl)))) (by have := P.l5; omega)) e5]
  have e6 := wl_4a (o := o2) (v2 := some (.fz (nD most))) (v4 := v4) (v5 := v5) (v6 := v6) (v7 := v7) (v9 := v9) (v11 := v11) (v12 := v12) (v13 := v13) P hS (a10 := mkO (actsR cs S cs.length))
  rw [marks_rows] at e6
  rw [st_set e6]
  simp only [List.set_cons_succ, List.set_cons_zero]
  obtain ⟨N2, o3, hN2, ho3, et2⟩ := take_d (ρ := [some o2, some (.fz (patD K cs)), some (.fz (nD most)), some (.fz (.lst ((rowsS cs K S).map trL))), v4, v5, v6, v7, none, v9, some (mkO (actsR cs S cs.length)), v11, v12, v13, some (mkO (marks0 ((rowsS cs K S).map List.length))), none, none, none, none, none, none, none]) (f := dC (.int 4)) (m := 4) rfl ho2 rfl (by omega) (by omega)
  obtain ⟨o4, w4, w11, w12, w13, w15, w16, a10, ms, e7, ho4, h10, M, C⟩ := wl_4 (S := S) (j := 0) (N := N2) (o := o3) (v2 := some (.fz (nD most))) (v4 := v4) (v5 := v5) (v6 := v6) (v7 := v7) (v9 := v9) (v11 := v11) (v12 := v12) (v13 := v13) (v15 := none) (v16 := none) P ho3 (W0.acts hK3) W0.k (.inl rfl : IsActs _ (mkO (actsR cs S cs.length))) (mk0 _) (cons0 cs _ _ _)
  have e8 : sFor (iRg gRg1 (aCons (toD (cal1 0 0 f__law_take (mOwn 0 (aCons (dC (.int 4)) aNil)))) aNil)) (gN 11) l__law_world_4 [some o2, some (.fz (patD K cs)), some (.fz (nD most)), some (.fz (.lst ((rowsS cs K S).map trL))), v4, v5, v6, v7, none, v9, some (mkO (actsR cs S cs.length)), v11, v12, v13, some (mkO (marks0 ((rowsS cs K S).map List.length))), none, none, none, none, none, none, none] = some (.nx, [some o4, some (.fz (patD K cs)), some (.fz (nD most)), some (.fz (.lst ((rowsS cs K S).map trL))), w4, v5, v6, v7, none, v9, some a10, w11, w12, w13, some (mkO ms), w15, w16, none, none, none, none, none]) := by
    rw [sFor_ap, ap_iRg, ap_aCons, et2]
    simp only [Option.bind_some, ap_aNil, Option.map_some, List.set_cons_zero, gRg_nat (n := N2) (by omega)]
    exact e7
  rw [st_run e8]
  have W1 := told_world P W0 M C
  rw [st_asg' (wl_6 (cs := cs) (K := K) (o := o4) (a10 := a10) (v2 := some (.fz (nD most))) (v3 := some (.fz (.lst ((rowsS cs K S).map trL)))) (v4 := w4) (v5 := v5) (v6 := v6) (v7 := v7) (v9 := v9) (v11 := w11) (v12 := w12) (v13 := w13) (v15 := w15) (v16 := w16) M W0.few (by rw [W0.k]; exact hK3))]
  simp only [List.set_cons_succ, List.set_cons_zero]
  have e9 : nA gLst' aNil [some o4, some (.fz (patD K cs)), some (.fz (nD most)), some (.fz (.lst ((rowsS cs K S).map trL))), w4, v5, v6, v7, none, v9, some a10, w11, w12, w13, some (.fz (mkD ms)), w15, w16, none, some (.fz (mkD (ms.map hd))), none, none, none] = some (tpO [], _) := nA_pure rfl (if_pos (show 0 ≤ lim from by decide))
  rw [st_set e9]
  simp only [List.set_cons_succ, List.set_cons_zero]
  obtain ⟨u8, u11, u12, u13, e10, k8⟩ := wl_5 (o := o4) (a10 := a10) (v2 := some (.fz (nD most))) (v3 := some (.fz (.lst ((rowsS cs K S).map trL)))) (v4 := w4) (v5 := v5) (v6 := v6) (v7 := v7) (v8 := none) (v9 := v9) (v11 := w11) (v12 := w12) (v13 := w13) (v15 := w15) (v16 := w16) P W0 M h10 .none
  rw [st_for (rg_pure (n := cs.length) (aOne_pure (ends_len (pat_1 (K := K) (var_at rfl)))) (by have := P.l5; omega)) e10]
  refine ⟨o4, ms.map (fun r => (hd r).length), toldL cs ms (actsR cs S cs.length) cs.length, ?_, ho4, W1, ⟨S, N, ms, by omega, hS, M, C, rfl, rfl⟩⟩
  have e11 : toD (nLc 22 [8] (iSeq (dVar 18)) (gN 8) bYes e__law_world_9) [some o4, some (.fz (patD K cs)), some (.fz (nD most)), some (.fz (.lst ((rowsS cs K S).map trL))), w4, v5, v6, v7, u8, v9, some a10, u11, u12, u13, some (.fz (mkD ms)), w15, w16, none, some (.fz (mkD (ms.map hd))), some (tpO (toldL cs ms (actsR cs S cs.length) cs.length)), none, none] = some (rowL (ms.map fun r => (hd r).length), [some o4, some (.fz (patD K cs)), some (.fz (nD most)), some (.fz (.lst ((rowsS cs K S).map trL))), w4, v5, v6, v7, u8, v9, some a10, u11, u12, u13, some (.fz (mkD ms)), w15, w16, none, some (.fz (mkD (ms.map hd))), some (tpO (toldL cs ms (actsR cs S cs.length) cs.length)), none, none]) := by
    have hml : ms.length ≤ 3 := by have := congrArg List.length M.len; rw [List.length_map, W0.k] at this; omega
    have := nLc1 (n := 22) (v := 8) (enc := rowL) (r := fun r => nD r.length) (xs := ms.map hd) (e := e__law_world_9) (it := iSeq (dVar 18)) (ρ := [some o4, some (.fz (patD K cs)), some (.fz (nD most)), some (.fz (.lst ((rowsS cs K S).map trL))), w4, v5, v6, v7, u8, v9, some a10, u11, u12, u13, some (.fz (mkD ms)), w15, w16, none, some (.fz (mkD (ms.map hd))), some (tpO (toldL cs ms (actsR cs S cs.length) cs.length)), none, none]) (iSeq_lst (var_at rfl)) (by rw [List.length_map]; unfold lim; omega) rfl rfl k8 fun r hr => by
      unfold e__law_world_9
      exact dA_pure (aOne_pure (var_at rfl)) (by rw [gLen_lst, List.length_map])
    rw [toD_lst this, List.map_map, rowL, List.map_map]
    rfl
  have hfz : (tpO (toldL cs ms (actsR cs S cs.length) cs.length)).freeze = .lst ((toldL cs ms (actsR cs S cs.length) cs.length).map tpR) := by
    unfold tpO
    rw [fz_lst', freezes_fun]
  rw [ap_sRet, ap_toO, ap_dA, ap_aCons, dA_pure (aOne_pure e11) (gTuple_lst _)]
  simp only [Option.bind_some]
  rw [ap_aCons, ap_dA, ap_aCons, dFz_own (i := 19) rfl hfz]
  simp only [Option.bind_some, ap_aNil, Option.map_some, gTuple_lst, gTup2]
  rfl
end VL
set_option Elab.async false
set_option linter.all false
set_option maxRecDepth 100000
set_option maxHeartbeats 4000000
namespace VL
open PySem L2
/-! ### calls that change a name's tree; Pattern(..) -/
theorem cal1_d {i : Nat} {F : FF} {g : LF} {ρ : Env'} {o o' : O} {ds : List D} {r : D} (h0 : ρ[i]? = some (some o)) (eg : g ρ = some (ds, ρ)) (ef : F (o :: ds.map .fz) = some (.fz r, [o'])) : toD (cal1 0 i F (mOwn i g)) ρ = some (r, ρ.set i (some o')) := by
  rw [ap_toD, cal1_ap, ap_mOwn, h0]
  simp only [eg, Option.map_some, Option.bind_some, h0, List.length_nil, if_true, List.map_nil, List.nil_append, ef, fz_fz]
end VL
set_option Elab.async false
set_option linter.all false
set_option maxRecDepth 100000
set_option maxHeartbeats 4000000
namespace VL
open PySem L2
/-! ### led, parts, the ways into a part -/
abbrev tpD (os : List (List Nat)) : D := .tup (os.map tpR)
theorem tpR_ix {r : List Nat} {k x : Nat} (h : r[k]? = some x) : gIx (tpR r) (nD k) = some (nD x) := by
  rw [gIx_tup]; exact atI_map h
theorem tpD_ix {ms : List (List Nat)} {k : Nat} {r : List Nat} (h : ms[k]? = some r) : gIx (tpD ms) (nD k) = some (tpR r) := by
  rw [gIx_tup]; exact atI_map h
section
variable {sz : Nat → Nat} {cs : List Fn} {K : Nat} {L : List Nat} {as : List (List Nat)}
theorem wD_0 {f : DF} {ρ : Env'} (h : f ρ = some (worldD L as, ρ)) : d2 gIx f (dC (.int 0)) ρ = some (tpR L, ρ) := d2_pure h rfl (by unfold worldD; simp)
theorem wD_1 {f : DF} {ρ : Env'} (h : f ρ = some (worldD L as, ρ)) : d2 gIx f (dC (.int 1)) ρ = some (tpD as, ρ) := d2_pure h rfl (by unfold worldD; simp)
theorem way_led {wb : Nat} (W : Wb cs K wb L as) {k l x : Nat} {w : Int} (hw : IsWay cs k w l) {n : Nat} (hn : L[k]? = some n) (hx : x < n) : ∃ y m, ledL as w x = some y ∧ L[l]? = some m ∧ y < m := by
  rcases hw with ⟨rfl, rfl⟩ | ⟨m, t, rfl, ht, rfl, rfl⟩
  · exact ⟨x, n, by unfold ledL; simp, hn, hx⟩
  · obtain ⟨ra, la, lb, h1, h2, h3, h4, h5⟩ := W.act m t ht
    rw [hn] at h2
    cases h2
    have hxr : x < ra.length := by omega
    refine ⟨ra[x], lb, ?_, h3, h5 _ (List.getElem_mem hxr)⟩
    unfold ledL
    rw [if_neg (by omega)]
    simp only [Int.toNat_natCast, h1, Option.bind_some]
    exact List.getElem?_eq_getElem hxr
theorem led_two {w : Int} {x y : Nat} (h : ledL as w x = some y) : (w = -1 ∧ x = y) ∨ (w ≠ -1 ∧ ∃ r, as[w.toNat]? = some r ∧ r[x]? = some y) := by
  unfold ledL at h
  by_cases q : w = -1
  · rw [if_pos q] at h; exact .inl ⟨q, Option.some.inj h⟩
  · rw [if_neg q] at h
    cases q2 : as[w.toNat]? with
    | none => rw [q2] at h; cases h
    | some r => rw [q2] at h; exact .inr ⟨q, r, rfl, h⟩
theorem lledN_ok {k l : Nat} {w : Int} {x y : Nat} (hw : IsWay cs k w l) (h : ledL as w x = some y) : f__law_led [.fz (worldD L as), .fz (nD x), .fz (.int w)] = some (.fz (nD y), []) := by
  rw [fx__law_led]
  unfold b__law_led
  have et : bD (d2 gLt (dVar 2) (dC (.int 0))) [some (.fz (worldD L as)), some (.fz (nD x)), some (.fz (.int w))] = some (decide (w < 0), [some (.fz (worldD L as)), some (.fz (nD x)), some (.fz (.int w))]) := bD_pure (d2_pure (var_at (i := 2) rfl) rfl (gLt_int _ _))
  rcases led_two h with ⟨q, rfl⟩ | ⟨q, r, h1, h2⟩
  · subst q
    first
      | (rw [ap_sSeq, sIf_pure et]; rfl)
      | (rw [ap_sRet, ap_toO, ap_dIf, et]; rfl)
  · rcases hw with ⟨q2, _⟩ | ⟨m, t, rfl, _⟩
    · exact absurd q2 q
    · have e2 : d2 gIx (d2 gIx (d2 gIx (dVar 0) (dC (.int 1))) (dVar 2)) (dVar 1) [some (.fz (worldD L as)), some (.fz (nD x)), some (.fz (nD m))] = some (nD y, [some (.fz (worldD L as)), some (.fz (nD x)), some (.fz (nD m))]) := d2_pure (d2_pure (wD_1 (L := L) (var_at (i := 0) rfl)) (var_at (i := 2) (d := nD m) rfl) (tpD_ix (by simpa using h1))) (var_at (i := 1) rfl) (tpR_ix h2)
      rw [decide_eq_false (show ¬ ((m : Int) < 0) by omega)] at et
      first
        | (rw [ap_sSeq, sIf_pure et, if_neg (by decide)]
           simp only [ap_sNil, Option.bind_some]
           rw [ap_sRet, ap_toO, e2]
           rfl)
        | (rw [ap_sRet, ap_toO, ap_dIf, et]
           simp only [Option.bind_some]
           rw [if_neg (by decide), e2]
           rfl)
end
end VL
set_option Elab.async false
set_option linter.all false
set_option maxRecDepth 100000
set_option maxHeartbeats 4000000
namespace VL
open PySem L2
/-! ### dicts of numbers, as data and as trees -/
abbrev Dn := List (Nat × Nat)
def dkD (l : Dn) : D := .dK (l.map fun e => ((.inl (e.1 : Int) : Key), nD e.2))
def dkO (l : Dn) : O := .dK (l.map fun e => ((.inl (e.1 : Int) : Key), O.fz (nD e.2)))
abbrev knD (ks : List Dn) : D := .lst (ks.map dkD)
abbrev knO (ks : List Dn) : O := .lst (ks.map dkO)
theorem key_inj {a b : Nat} : ((.inl (a : Int) : Key) = .inl (b : Int)) ↔ a = b := ⟨fun h => by injection h with h; omega, fun h => by rw [h]⟩
theorem dk_val {β : Type} (f : Nat → β) (l : Dn) (k : Nat) : valD (l.map fun e => ((.inl (e.1 : Int) : Key), f e.2)) (.inl (k : Int)) = (valD l k).map f := by
  induction l with
  | nil => rfl
  | cons e l ih =>
    rw [List.map_cons, valD_cons, valD_cons, ih]
    by_cases q : e.1 = k
    · rw [if_pos (key_inj.mpr q), if_pos q]; rfl
    · rw [if_neg (fun z => q (key_inj.mp z)), if_neg q]
theorem dk_put (l : Dn) (k v : Nat) : putD (l.map fun e => ((.inl (e.1 : Int) : Key), O.fz (nD e.2))) (.inl (k : Int)) (.fz (nD v)) = (putD l k v).map fun e => ((.inl (e.1 : Int) : Key), O.fz (nD e.2)) := by
  have e1 : ((l.map fun e => ((.inl (e.1 : Int) : Key), O.fz (nD e.2))).any fun kv => decide (kv.1 = (.inl (k : Int) : Key))) = l.any fun kv => decide (kv.1 = k) := by
    rw [List.any_map]
    congr 1
    funext e
    show decide ((.inl (e.1 : Int) : Key) = .inl (k : Int)) = decide (e.1 = k)
    exact decide_eq_decide.mpr key_inj
  unfold putD
  rw [e1]
  split
  · rw [List.map_map, List.map_map]
    refine List.map_congr_left fun e _ => ?_
    show (if (.inl (e.1 : Int) : Key) = .inl (k : Int) then ((.inl (e.1 : Int) : Key), O.fz (nD v)) else ((.inl (e.1 : Int) : Key), O.fz (nD e.2))) = _
    by_cases q : e.1 = k
    · rw [if_pos (key_inj.mpr q)]
      show _ = ((.inl (((if e.1 = k then (e.1, v) else e).1 : Nat) : Int) : Key), O.fz (nD (if e.1 = k then (e.1, v) else e).2))
      rw [if_pos q]
    · rw [if_neg (fun z => q (key_inj.mp z))]
      show _ = ((.inl (((if e.1 = k then (e.1, v) else e).1 : Nat) : Int) : Key), O.fz (nD (if e.1 = k then (e.1, v) else e).2))
      rw [if_neg q]
  · rw [List.map_append]; rfl
theorem dkO_freeze (l : Dn) : (dkO l).freeze = dkD l := by
  unfold dkO dkD
  rw [O.freeze]
  congr 1
  induction l with
  | nil => rw [List.map_nil, List.map_nil, O.freezeK]
  | cons e l ih => rw [List.map_cons, List.map_cons, O.freezeK, ih, fz_fz]
theorem knO_freeze (ks : List Dn) : (knO ks).freeze = knD ks := by
  unfold knO knD
  rw [fz_lst']
  congr 1
  induction ks with
  | nil => rw [List.map_nil, List.map_nil, freezes_nil]
  | cons l ks ih => rw [List.map_cons, List.map_cons, freezes_cons, ih, dkO_freeze]
theorem dk_dict (l : Dn) : nDict [dkD l] = some (dkO l) := by
  unfold dkD nDict dkO
  simp only [List.map_map]
  rfl
/-! ### a comprehension of new trees -/
theorem compO_all {α : Type} {n v : Nat} {e : OF} {ρ : Env'} {w : Option O} (enc : α → D) (r : α → O) (hn : ρ.length = n) (ew : ρ[v]? = some w) (hk : Kp w) : ∀ {xs : List α}, (∀ x ∈ xs, e (ρ.set v (some (.fz (enc x)))) = some (r x, ρ.set v (some (.fz (enc x))))) →
    compO n [v] (gN v) bYes e (xs.map enc) ρ = some (xs.map r, ρ)
  | [], _ => rfl
  | x :: xs, h => by
    have ih := compO_all enc r hn ew hk (xs := xs) fun y hy => h y (List.mem_cons_of_mem _ hy)
    rw [List.map_cons, compO, if_pos hn]
    have e1 : gN v (enc x) (wipeE ρ [v]) = some (ρ.set v (some (.fz (enc x)))) := by
      show some ((ρ.set v none).set v (some (.fz (enc x)))) = _
      rw [List.set_set]
    have e2 : unwipe ρ (ρ.set v (some (.fz (enc x)))) [v] = ρ := by
      show ((ρ.set v (some (.fz (enc x)))).set v (keepD ρ[v]?)) = ρ
      rw [List.set_set, ew]
      have hk : keepD (some w) = w := hk
      rw [hk]
      obtain ⟨h5, h6⟩ := List.getElem?_eq_some_iff.mp ew
      rw [← h6]
      exact List.set_getElem_self h5
    rw [e1]
    simp only [Option.bind_some, ap_bYes, if_true, h x List.mem_cons_self, e2, ih, Option.map_some, List.map_cons]
/-! ### _law_known -/
section
variable {sz : Nat → Nat} {cs : List Fn} {K : Nat} {L M : List Nat} {as bs : List (List Nat)}
/-- where the way w leads x, in a world -/
def lg (as : List (List Nat)) (w : Int) (x : Nat) : Nat := (ledL as w x).getD 0
theorem lg_ok {wb k l x n : Nat} {w : Int} (W : Wb cs K wb L as) (hw : IsWay cs k w l) (hn : L[k]? = some n) (hx : x < n) : ledL as w x = some (lg as w x) ∧ ∃ m, L[l]? = some m ∧ lg as w x < m := by
  obtain ⟨y, m, h1, h2, h3⟩ := way_led W hw hn hx
  have : lg as w x = y := by unfold lg; rw [h1]; rfl
  rw [this]
  exact ⟨h1, m, h2, h3⟩
/-- what a dict of kind e tells of x -/
def at_ (ks : List Dn) (e x : Nat) : Option Nat := valD (ks.getD e []) x
/-- a thing is led to an end, and all that ways make of it -/
structure Kn (cs : List Fn) (as bs : List (List Nat)) (ks : List Dn) (k x y : Nat) (W : List Int) (ks' : List Dn) : Prop where
  len : ks'.length = ks.length
  old : ∀ e z v, at_ ks e z = some v → at_ ks' e z = some v
  new : ∀ w ∈ W, at_ ks' (endW cs k w) (lg as w x) = some (lg bs w y)
  only : ∀ e z v, at_ ks' e z = some v → at_ ks e z = some v ∨ ∃ w ∈ W, endW cs k w = e ∧ z = lg as w x ∧ v = lg bs w y
  few : ∀ d ∈ ks', d.length ≤ (ks.map List.length).sum + W.length
  nd : (∀ d ∈ ks, (d.map (·.1)).Nodup) → ∀ d ∈ ks', (d.map (·.1)).Nodup
theorem putD_nodup {l : Dn} (h : (l.map (·.1)).Nodup) (k v : Nat) : ((putD l k v).map (·.1)).Nodup := by
  unfold putD
  split
  · rw [List.map_map]
    have : ((fun x : Nat × Nat => x.1) ∘ fun kv => if kv.1 = k then (kv.1, v) else kv) = fun x => x.1 := by
      funext e
      show (if e.1 = k then (e.1, v) else e).1 = e.1
      split <;> rfl
    rw [this]
    exact h
  · rename_i q
    rw [List.map_append, List.nodup_append]
    refine ⟨h, by simp, fun a ha b hb => ?_⟩
    rintro rfl
    have hb : a = k := by simpa using hb
    subst hb
    obtain ⟨e, he, h2⟩ := List.mem_map.mp ha
    exact q (List.any_eq_true.mpr ⟨e, he, decide_eq_true h2⟩)
theorem at_set {ks : List Dn} {e e' z : Nat} {d : Dn} (he : e < ks.length) : at_ (ks.set e d) e' z = if e = e' then valD d z else at_ ks e' z := by
  unfold at_
  rw [List.getD_eq_getElem?_getD, List.getElem?_set, if_pos he]
  by_cases q : e = e'
  · subst q; simp
  · simp only [q, if_false]
    rw [List.getD_eq_getElem?_getD]
theorem len_sum {ks : List Dn} {d : Dn} (h : d ∈ ks) : d.length ≤ (ks.map List.length).sum := by
  induction ks with
  | nil => cases h
  | cons a ks ih =>
    rw [List.map_cons, List.sum_cons]
    rcases List.mem_cons.mp h with rfl | h
    · omega
    · have := ih h; omega
theorem known_1 (P : PatK sz cs K) (A : Wd cs K L as) (B : Wd cs K M bs) {ks : List Dn} {k x y n m : Nat} (hk : k < K) (hn : L[k]? = some n) (hx : x < n) (hm : M[k]? = some m) (hy : y < m) (hl : ks.length = K) (hf : (ks.map List.length).sum ≤ 1000) {a3 v8 v9 v10 v11 v12 : Option O} :
    (∃ v9' v10' v11' v12' ks', forL (gN 9) l__law_known_1 ((wys cs k).map .int) [some (.fz (patD K cs)), some (.fz (worldD L as)), some (.fz (worldD M bs)), a3, some (.fz (nD k)), some (.fz (nD x)), some (.fz (nD y)), some (knO ks), v8, v9, v10, v11, v12] =
      some (.nx, [some (.fz (patD K cs)), some (.fz (worldD L as)), some (.fz (worldD M bs)), a3, some (.fz (nD k)), some (.fz (nD x)), some (.fz (nD y)), some (knO ks'), v8, v9', v10', v11', v12']) ∧ Kn cs as bs ks k x y (wys cs k) ks') ∨
    ((∃ w ∈ wys cs k, ∃ v, v ≠ lg bs w y ∧ (at_ ks (endW cs k w) (lg as w x) = some v ∨ ∃ u ∈ wys cs k, endW cs k u = endW cs k w ∧ lg as w x = lg as u x ∧ v = lg bs u y)) ∧ ∃ ρ', forL (gN 9) l__law_known_1 ((wys cs k).map .int) [some (.fz (patD K cs)), some (.fz (worldD L as)), some (.fz (worldD M bs)), a3, some (.fz (nD k)), some (.fz (nD x)), some (.fz (nD y)), some (knO ks), v8, v9, v10, v11, v12] = some (.rt (.fz .non), ρ')) := by
  have hw6 := wys_len (cs := cs) k P.l5
  suffices main : ∀ (W2 W1 : List Int) (ks1 : List Dn) (v9 v10 v11 v12 : Option O), (∀ w ∈ W2, w ∈ wys cs k) → (∀ w ∈ W1, w ∈ wys cs k) → W1.length + W2.length ≤ 6 → Kn cs as bs ks k x y W1 ks1 →
      (∃ v9' v10' v11' v12' ks', forL (gN 9) l__law_known_1 (W2.map .int) [some (.fz (patD K cs)), some (.fz (worldD L as)), some (.fz (worldD M bs)), a3, some (.fz (nD k)), some (.fz (nD x)), some (.fz (nD y)), some (knO ks1), v8, v9, v10, v11, v12] =
        some (.nx, [some (.fz (patD K cs)), some (.fz (worldD L as)), some (.fz (worldD M bs)), a3, some (.fz (nD k)), some (.fz (nD x)), some (.fz (nD y)), some (knO ks'), v8, v9', v10', v11', v12']) ∧ Kn cs as bs ks k x y (W1 ++ W2) ks') ∨
      ((∃ w ∈ wys cs k, ∃ v, v ≠ lg bs w y ∧ (at_ ks (endW cs k w) (lg as w x) = some v ∨ ∃ u ∈ wys cs k, endW cs k u = endW cs k w ∧ lg as w x = lg as u x ∧ v = lg bs u y)) ∧ ∃ ρ', forL (gN 9) l__law_known_1 (W2.map .int) [some (.fz (patD K cs)), some (.fz (worldD L as)), some (.fz (worldD M bs)), a3, some (.fz (nD k)), some (.fz (nD x)), some (.fz (nD y)), some (knO ks1), v8, v9, v10, v11, v12] = some (.rt (.fz .non), ρ')) by
    have := main (wys cs k) [] ks v9 v10 v11 v12 (fun w h => h) (fun w h => by cases h) (by simpa using hw6) ⟨rfl, fun _ _ _ h => h, fun w h => (by cases h), fun _ _ _ h => .inl h, fun d hd => (by have := len_sum hd; omega), fun h => h⟩
    rw [List.nil_append] at this
    exact this
  intro W2
  induction W2 with
  | nil =>
    intro W1 ks1 v9 v10 v11 v12 _ _ _ kn
    refine .inl ⟨v9, v10, v11, v12, ks1, rfl, ?_⟩
    rw [List.append_nil]
    exact kn
  | cons w W2 ih =>
    intro W1 ks1 v9 v10 v11 v12 h2 h1 hlen kn
    have hwm := h2 w List.mem_cons_self
    have hway := wys_way hwm
    have hE := endW_lt P hk hwm
    obtain ⟨ea, _⟩ := lg_ok A hway hn hx
    obtain ⟨eb, _⟩ := lg_ok B hway hm hy
    generalize hE' : endW cs k w = E at hway hE
    generalize hA' : lg as w x = a at ea
    generalize hB' : lg bs w y = b at eb
    have hE1 : E < ks1.length := by rw [kn.len, hl]; exact hE
    have gE : ks1[E]? = some (ks1.getD E []) := by rw [List.getD_eq_getElem?_getD, List.getElem?_eq_getElem hE1]; rfl
    have hd := kn.few _ (List.mem_of_getElem? gE)
    rw [List.length_cons] at hlen
    -- one way
    have st : l__law_known_1 [some (.fz (patD K cs)), some (.fz (worldD L as)), some (.fz (worldD M bs)), a3, some (.fz (nD k)), some (.fz (nD x)), some (.fz (nD y)), some (knO ks1), v8, some (.fz (.int w)), v10, v11, v12] =
        if (at_ ks1 E a).getD b = b then some (.nx, [some (.fz (patD K cs)), some (.fz (worldD L as)), some (.fz (worldD M bs)), a3, some (.fz (nD k)), some (.fz (nD x)), some (.fz (nD y)), some (knO (ks1.set E (putD (ks1.getD E []) a b))), v8, some (.fz (.int w)), some (.fz (nD E)), some (.fz (nD a)), some (.fz (nD b))])
        else some (.rt (.fz .non), [some (.fz (patD K cs)), some (.fz (worldD L as)), some (.fz (worldD M bs)), a3, some (.fz (nD k)), some (.fz (nD x)), some (.fz (nD y)), some (knO ks1), v8, some (.fz (.int w)), some (.fz (nD E)), some (.fz (nD a)), some (.fz (nD b))]) := by
      unfold l__law_known_1
      rw [st_asg (d := nD E) (toD_pure (cal_pure (aCons_pure (var_at rfl) (aTwo_pure (var_at rfl) (var_at rfl))) (lend_ok hway)) (fz_fz _))]
      simp only [List.set_cons_succ, List.set_cons_zero]
      rw [st_asg (d := nD a) (toD_pure (cal_pure (aCons_pure (var_at rfl) (aTwo_pure (var_at rfl) (var_at rfl))) (lledN_ok hway ea)) (fz_fz _))]
      simp only [List.set_cons_succ, List.set_cons_zero]
      rw [st_asg (d := nD b) (toD_pure (cal_pure (aCons_pure (var_at rfl) (aTwo_pure (var_at rfl) (var_at rfl))) (lledN_ok hway eb)) (fz_fz _))]
      simp only [List.set_cons_succ, List.set_cons_zero]
      have lk : lookO (dkO (ks1.getD E [])) (nD a) = some ((at_ ks1 E a).map nD) := by
        unfold dkO lookO keyD
        simp only [Option.bind_some]
        rw [dk_val (fun v => O.fz (nD v))]
        unfold at_
        cases valD (ks1.getD E []) a <;> rfl
      have osE : (ks1.map dkO)[E]? = some (dkO (ks1.getD E [])) := by rw [List.getElem?_map, gE]; rfl
      have eg : dGetAt 7 (dVar 10) (dVar 11) (dVar 12) [some (.fz (patD K cs)), some (.fz (worldD L as)), some (.fz (worldD M bs)), a3, some (.fz (nD k)), some (.fz (nD x)), some (.fz (nD y)), some (knO ks1), v8, some (.fz (.int w)), some (.fz (nD E)), some (.fz (nD a)), some (.fz (nD b))] =
          some (nD ((at_ ks1 E a).getD b), [some (.fz (patD K cs)), some (.fz (worldD L as)), some (.fz (worldD M bs)), a3, some (.fz (nD k)), some (.fz (nD x)), some (.fz (nD y)), some (knO ks1), v8, some (.fz (.int w)), some (.fz (nD E)), some (.fz (nD a)), some (.fz (nD b))]) := by
        unfold dGetAt
        simp only [List.getElem?_cons_succ, List.getElem?_cons_zero]
        rw [var_at (i := 10) (d := nD E) rfl]
        simp only [Option.bind_some, List.getElem?_cons_succ, List.getElem?_cons_zero]
        rw [List.length_map, ixN_nat hE1]
        simp only [osE]
        unfold dkO at lk ⊢
        simp only [List.set_cons_succ, List.set_cons_zero]
        rw [var_at (i := 11) (d := nD a) rfl]
        simp only [Option.bind_some]
        rw [var_at (i := 12) (d := nD b) rfl]
        simp only [Option.bind_some, lk, Option.map_some, List.set_cons_succ, List.set_cons_zero]
        cases at_ ks1 E a <;> rfl
      have et : bD (d2 gNe (dGetAt 7 (dVar 10) (dVar 11) (dVar 12)) (dVar 12)) [some (.fz (patD K cs)), some (.fz (worldD L as)), some (.fz (worldD M bs)), a3, some (.fz (nD k)), some (.fz (nD x)), some (.fz (nD y)), some (knO ks1), v8, some (.fz (.int w)), some (.fz (nD E)), some (.fz (nD a)), some (.fz (nD b))] =
          some (!decide ((at_ ks1 E a).getD b = b), [some (.fz (patD K cs)), some (.fz (worldD L as)), some (.fz (worldD M bs)), a3, some (.fz (nD k)), some (.fz (nD x)), some (.fz (nD y)), some (knO ks1), v8, some (.fz (.int w)), some (.fz (nD E)), some (.fz (nD a)), some (.fz (nD b))]) := bD_pure (d2_pure eg (var_at rfl) (ne_nat _ _))
      by_cases q : (at_ ks1 E a).getD b = b
      · rw [if_pos q]
        rw [decide_eq_true q] at et
        rw [st_run (by rw [sIf_pure et]; rfl)]
        unfold sSetAt
        rw [var_at (i := 12) (d := nD b) rfl]
        simp only [Option.bind_some, List.getElem?_cons_succ, List.getElem?_cons_zero]
        rw [var_at (i := 10) (d := nD E) rfl]
        simp only [Option.bind_some, List.getElem?_cons_succ, List.getElem?_cons_zero]
        rw [List.length_map, ixN_nat hE1]
        simp only [osE]
        unfold dkO
        simp only [List.set_cons_succ, List.set_cons_zero]
        rw [var_at (i := 11) (d := nD a) rfl]
        simp only [Option.bind_some]
        have es : setO (O.dK ((ks1.getD E []).map fun e => ((.inl (e.1 : Int) : Key), O.fz (nD e.2)))) (nD a) (nD b) = some (dkO (putD (ks1.getD E []) a b)) := by
          unfold setO keyD
          simp only [Option.bind_some]
          rw [if_pos (by rw [List.length_map]; unfold lim; omega), dk_put]
          rfl
        rw [es]
        simp only [Option.map_some, List.set_cons_succ, List.set_cons_zero]
        have : knO (ks1.set E (putD (ks1.getD E []) a b)) = O.lst ((ks1.map dkO).set E (dkO (putD (ks1.getD E []) a b))) := by
          unfold knO
          rw [List.map_set]
        rw [this]
        rfl
      · rw [if_neg q]
        rw [decide_eq_false q] at et
        rw [ap_sSeq, sIf_pure et]
        rfl
    rw [List.map_cons, forL_cons]
    show (_ ∨ _)
    by_cases q : (at_ ks1 E a).getD b = b
    · rw [if_pos q] at st
      have kn2 : Kn cs as bs ks k x y (W1 ++ [w]) (ks1.set E (putD (ks1.getD E []) a b)) := by
        have hval : ∀ e z, at_ (ks1.set E (putD (ks1.getD E []) a b)) e z = if E = e then (if a = z then some b else at_ ks1 e z) else at_ ks1 e z := fun e z => by
          rw [at_set hE1]
          by_cases q1 : E = e
          · rw [if_pos q1, if_pos q1, valD_put]
            subst q1
            rfl
          · rw [if_neg q1, if_neg q1]
        refine ⟨by rw [List.length_set]; exact kn.len, fun e z v h => ?_, fun u hu => ?_, fun e z v h => ?_, fun d hd' => ?_, ?_⟩
        · have h3 := kn.old e z v h
          rw [hval]
          by_cases q1 : E = e
          · rw [if_pos q1]
            by_cases q2 : a = z
            · rw [if_pos q2]
              rw [← q1, ← q2] at h3
              rw [h3] at q
              have q : v = b := q
              rw [q]
            · rw [if_neg q2]; exact h3
          · rw [if_neg q1]; exact h3
        · rcases List.mem_append.mp hu with hu | hu
          · have h3 := kn.new u hu
            rw [hval]
            by_cases q1 : E = endW cs k u
            · rw [if_pos q1]
              by_cases q2 : a = lg as u x
              · rw [if_pos q2]
                rw [← q1, ← q2] at h3
                rw [h3] at q
                have q : lg bs u y = b := q
                rw [q]
              · rw [if_neg q2]; exact h3
            · rw [if_neg q1]; exact h3
          · rw [List.mem_singleton.mp hu, hE', hA', hB', hval, if_pos rfl, if_pos rfl]
        · rw [hval] at h
          by_cases q1 : E = e
          · rw [if_pos q1] at h
            by_cases q2 : a = z
            · rw [if_pos q2] at h
              exact .inr ⟨w, List.mem_append_right _ (List.mem_singleton.mpr rfl), by rw [hE', q1], by rw [hA', q2], by rw [hB']; exact (Option.some.inj h).symm⟩
            · rw [if_neg q2] at h
              rcases kn.only e z v h with h | ⟨u, hu, h⟩
              · exact .inl h
              · exact .inr ⟨u, List.mem_append_left _ hu, h⟩
          · rw [if_neg q1] at h
            rcases kn.only e z v h with h | ⟨u, hu, h⟩
            · exact .inl h
            · exact .inr ⟨u, List.mem_append_left _ hu, h⟩
        · rw [List.length_append]
          simp only [List.length_cons, List.length_nil]
          rcases List.mem_or_eq_of_mem_set hd' with h | h
          · have := kn.few d h; omega
          · rw [h]
            have := putD_len (ks1.getD E []) a b
            omega
        · intro hnd d hd'
          rcases List.mem_or_eq_of_mem_set hd' with h | h
          · exact kn.nd hnd d h
          · rw [h]
            exact putD_nodup (kn.nd hnd _ (List.mem_of_getElem? gE)) a b
      have := ih (W1 ++ [w]) _ (some (.fz (.int w))) (some (.fz (nD E))) (some (.fz (nD a))) (some (.fz (nD b))) (fun u hu => h2 u (List.mem_cons_of_mem _ hu)) (fun u hu => by
        rcases List.mem_append.mp hu with hu | hu
        · exact h1 u hu
        · rw [List.mem_singleton.mp hu]; exact hwm) (by rw [List.length_append]; simp only [List.length_cons, List.length_nil]; omega) kn2
      rw [List.append_assoc] at this
      simp only [ap_gN, List.set_cons_succ, List.set_cons_zero, Option.bind_some, st]
      exact this
    · rw [if_neg q] at st
      refine .inr ⟨?_, ?_⟩
      · cases q2 : at_ ks1 E a with
        | none => rw [q2] at q; exact absurd rfl q
        | some v =>
          rw [q2] at q
          refine ⟨w, hwm, v, by rw [hB']; exact q, ?_⟩
          rcases kn.only E a v q2 with h | ⟨u, hu, h5, h6, h⟩
          · exact .inl (by rw [hE', hA']; exact h)
          · exact .inr ⟨u, h1 u hu, by rw [h5, hE'], by rw [hA']; exact h6, h⟩
      · simp only [ap_gN, List.set_cons_succ, List.set_cons_zero, Option.bind_some, st]
        exact ⟨_, rfl⟩
theorem known_ok (P : PatK sz cs K) (A : Wd cs K L as) (B : Wd cs K M bs) {ks : List Dn} {k x y n m : Nat} (hk : k < K) (hn : L[k]? = some n) (hx : x < n) (hm : M[k]? = some m) (hy : y < m) (hl : ks.length = K) (hf : (ks.map List.length).sum ≤ 1000) :
    (∃ ks', f__law_known [.fz (patD K cs), .fz (worldD L as), .fz (worldD M bs), .fz (knD ks), .fz (nD k), .fz (nD x), .fz (nD y)] = some (.fz (knD ks'), []) ∧ Kn cs as bs ks k x y (wys cs k) ks') ∨
    ((∃ w ∈ wys cs k, ∃ v, v ≠ lg bs w y ∧ (at_ ks (endW cs k w) (lg as w x) = some v ∨ ∃ u ∈ wys cs k, endW cs k u = endW cs k w ∧ lg as w x = lg as u x ∧ v = lg bs u y)) ∧ f__law_known [.fz (patD K cs), .fz (worldD L as), .fz (worldD M bs), .fz (knD ks), .fz (nD k), .fz (nD x), .fz (nD y)] = some (.fz .non, [])) := by
  have hK3 := P.k3
  rw [fx__law_known]
  unfold b__law_known
  have e1 : nLcO 13 [8] (iSeq (dVar 3)) (gN 8) bYes e__law_known_1 [some (.fz (patD K cs)), some (.fz (worldD L as)), some (.fz (worldD M bs)), some (.fz (knD ks)), some (.fz (nD k)), some (.fz (nD x)), some (.fz (nD y)), none, none, none, none, none, none] =
      some (knO ks, [some (.fz (patD K cs)), some (.fz (worldD L as)), some (.fz (worldD M bs)), some (.fz (knD ks)), some (.fz (nD k)), some (.fz (nD x)), some (.fz (nD y)), none, none, none, none, none, none]) := by
    unfold nLcO
    rw [iSeq_lst (var_at (i := 3) rfl)]
    simp only [Option.bind_some]
    rw [if_pos (by rw [List.length_map, hl]; unfold lim; omega), compO_all (n := 13) (v := 8) dkD dkO rfl rfl .none fun d hd => by
      unfold e__law_known_1
      exact nA_pure (aOne_pure (var_at rfl)) (dk_dict d)]
    rfl
  rw [st_set e1]
  simp only [List.set_cons_succ, List.set_cons_zero]
  have ew : iSeq (toD (nA (cal f__law_ways) (aCons (dVar 0) (aCons (dVar 4) aNil)))) [some (.fz (patD K cs)), some (.fz (worldD L as)), some (.fz (worldD M bs)), some (.fz (knD ks)), some (.fz (nD k)), some (.fz (nD x)), some (.fz (nD y)), some (knO ks), none, none, none, none, none] = some ((wys cs k).map .int, _) := iSeq_lst (toD_pure (cal_pure (aTwo_pure (var_at rfl) (var_at rfl)) (lways_ok P.l5)) (fz_fz _))
  rcases known_1 P A B hk hn hx hm hy hl hf (a3 := some (.fz (knD ks))) (v8 := none) (v9 := none) (v10 := none) (v11 := none) (v12 := none) with ⟨v9, v10, v11, v12, ks', e2, kn⟩ | ⟨hc, ρ', e2⟩
  · refine .inl ⟨ks', ?_, kn⟩
    have sf : sFrz 7 (sFor (iSeq (toD (nA (cal f__law_ways) (aCons (dVar 0) (aCons (dVar 4) aNil))))) (gN 9) l__law_known_1) [some (.fz (patD K cs)), some (.fz (worldD L as)), some (.fz (worldD M bs)), some (.fz (knD ks)), some (.fz (nD k)), some (.fz (nD x)), some (.fz (nD y)), some (knO ks), none, none, none, none, none] =
        some (.nx, [some (.fz (patD K cs)), some (.fz (worldD L as)), some (.fz (worldD M bs)), some (.fz (knD ks)), some (.fz (nD k)), some (.fz (nD x)), some (.fz (nD y)), some (.fz (knD ks')), none, v9, v10, v11, v12]) := by
      rw [ap_sFrz, sFor_ap, ew]
      simp only [Option.bind_some, e2, Option.map_some, List.getElem?_cons_succ, List.getElem?_cons_zero, knO_freeze, List.set_cons_succ, List.set_cons_zero]
    rw [st_run sf]
    rfl
  · refine .inr ⟨hc, ?_⟩
    have sf : sFrz 7 (sFor (iSeq (toD (nA (cal f__law_ways) (aCons (dVar 0) (aCons (dVar 4) aNil))))) (gN 9) l__law_known_1) [some (.fz (patD K cs)), some (.fz (worldD L as)), some (.fz (worldD M bs)), some (.fz (knD ks)), some (.fz (nD k)), some (.fz (nD x)), some (.fz (nD y)), some (knO ks), none, none, none, none, none] =
        some (.rt (.fz .non), ρ') := by
      rw [ap_sFrz, sFor_ap, ew]
      simp only [Option.bind_some, e2, Option.map_some]
    rw [ap_sSeq, sf]
    rfl
end
end VL
set_option Elab.async false
set_option linter.all false
set_option maxRecDepth 100000
set_option maxHeartbeats 4000000
namespace VL
open PySem L2
/-! ### a loop that goes on, or tells something early -/
theorem forL_or {g : GF} {b : SF} {ds : List D} (I : Nat → Env' → Prop) (R : O → Env' → Prop) {ρ : Env'} (h0 : I 0 ρ)
    (hs : ∀ (i : Nat) (d : D) (ρ : Env'), ds[i]? = some d → I i ρ → ∃ ρ1, g d ρ = some ρ1 ∧ ((∃ ρ2, b ρ1 = some (.nx, ρ2) ∧ I (i + 1) ρ2) ∨ ∃ r ρ2, b ρ1 = some (.rt r, ρ2) ∧ R r ρ2)) :
    (∃ ρ', forL g b ds ρ = some (.nx, ρ') ∧ I ds.length ρ') ∨ ∃ r ρ', forL g b ds ρ = some (.rt r, ρ') ∧ R r ρ' := by
  induction ds generalizing I ρ with
  | nil => exact .inl ⟨ρ, rfl, h0⟩
  | cons d ds ih =>
    obtain ⟨ρ1, e1, h⟩ := hs 0 d ρ rfl h0
    rcases h with ⟨ρ2, e2, h1⟩ | ⟨r, ρ2, e2, h1⟩
    · rcases ih (fun i => I (i + 1)) h1 (fun i d' ρ' hd hI => hs (i + 1) d' ρ' (by simpa using hd) hI) with ⟨ρ', e3, h3⟩ | ⟨r, ρ', e3, h3⟩
      · exact .inl ⟨ρ', by rw [forL_cons, e1]; simp only [Option.bind_some, e2, e3], by simpa using h3⟩
      · exact .inr ⟨r, ρ', by rw [forL_cons, e1]; simp only [Option.bind_some, e2, e3], h3⟩
    · exact .inr ⟨r, ρ2, by rw [forL_cons, e1]; simp only [Option.bind_some, e2], h1⟩
section
variable {sz : Nat → Nat} {cs : List Fn} {K : Nat} {L M : List Nat} {as bs : List (List Nat)}
theorem lg_id (as : List (List Nat)) (x : Nat) : lg as (-1) x = x := by unfold lg ledL; simp
theorem lg_bh {wb : Nat} (W : Wb cs K wb L as) {k l m x n : Nat} {w u : Int} (hw : IsWay cs k w l) (hu : IsWay cs l u m) (hn : L[k]? = some n) (hx : x < n) : lg as u (lg as w x) = lg as (bh cs w u) x := by
  rcases hw with ⟨rfl, rfl⟩ | ⟨j, s, rfl, hs, rfl, rfl⟩
  · rw [bh_l, lg_id]
  · rcases hu with ⟨rfl, rfl⟩ | ⟨i, t, rfl, ht, hst, rfl⟩
    · rw [bh_r, lg_id]
    · rw [bh_n hs ht]
      obtain ⟨e1, n2, g2, hy⟩ := lg_ok W (.inr ⟨j, s, rfl, hs, rfl, rfl⟩ : IsWay cs s.a j s.b) hn hx
      rcases led_two e1 with ⟨q, _⟩ | ⟨_, ra, h1, h2⟩
      · omega
      obtain ⟨e2, _⟩ := lg_ok W (.inr ⟨i, t, rfl, ht, hst, rfl⟩ : IsWay cs s.b i t.b) g2 hy
      rcases led_two e2 with ⟨q, _⟩ | ⟨_, rb, h3, h4⟩
      · omega
      rw [Int.toNat_natCast] at h1 h3
      obtain ⟨z, h5, h6⟩ := W.beh j i s t hs ht hst.symm ra rb h1 h3 x _ h2
      rw [h4] at h5
      have : lg as (wv cs s t) x = z := by unfold lg; rw [h6]; rfl
      rw [this]
      exact Option.some.inj h5
/-- what is known of a map to come -/
structure Kd (cs : List Fn) (K : Nat) (L M : List Nat) (as bs : List (List Nat)) (ks : List Dn) : Prop where
  len : ks.length = K
  nd : ∀ d ∈ ks, (d.map (·.1)).Nodup
  bd : ∀ e z v, at_ ks e z = some v → ∃ n m, L[e]? = some n ∧ M[e]? = some m ∧ z < n ∧ v < m
  nat : ∀ e z v, at_ ks e z = some v → ∀ w l, IsWay cs e w l → at_ ks l (lg as w z) = some (lg bs w v)
theorem valD_mem {l : Dn} {k : Nat} (h : k ∈ l.map (·.1)) : ∃ v, valD l k = some v := by
  induction l with
  | nil => cases h
  | cons e l ih =>
    rw [valD_cons]
    by_cases q : e.1 = k
    · rw [if_pos q]; exact ⟨_, rfl⟩
    · rw [if_neg q]
      refine ih ?_
      rw [List.map_cons] at h
      rcases List.mem_cons.mp h with h | h
      · exact absurd h.symm q
      · exact h
theorem nodup_len : ∀ {n : Nat} {l : List Nat}, l.Nodup → (∀ k ∈ l, k < n) → l.length ≤ n
  | 0, l, _, h => by
    cases l with
    | nil => exact Nat.le_refl _
    | cons a l => exact absurd (h a List.mem_cons_self) (Nat.not_lt_zero _)
  | n + 1, l, nd, h => by
    have := nodup_len (n := n) (l := l.erase n) (nd.erase n) fun k hk => by
      obtain ⟨h1, h2⟩ := (List.Nodup.mem_erase_iff nd).mp hk
      have := h k h2
      omega
    rw [List.length_erase] at this
    split at this <;> omega
theorem Kd.few {ks : List Dn} (A : Wd cs K L as) (h : Kd cs K L M as bs ks) {d : Dn} (hd : d ∈ ks) : d.length ≤ 7 := by
  obtain ⟨e, he, rfl⟩ := List.mem_iff_getElem.mp hd
  have hk : ∀ k ∈ ks[e].map (·.1), k < 7 := fun k hk => by
    obtain ⟨v, hv⟩ := valD_mem hk
    obtain ⟨n, m, h1, _, h2, _⟩ := h.bd e k v (by
      unfold at_
      rw [List.getD_eq_getElem?_getD, List.getElem?_eq_getElem he]
      exact hv)
    have := A.few n (List.mem_of_getElem? h1)
    omega
  have := nodup_len (h.nd _ hd) hk
  rw [List.length_map] at this
  exact this
theorem sum_le {ks : List Dn} (h : ∀ d ∈ ks, d.length ≤ 7) : (ks.map List.length).sum ≤ 7 * ks.length := by
  induction ks with
  | nil => simp
  | cons a ks ih =>
    rw [List.map_cons, List.sum_cons, List.length_cons]
    have := h a List.mem_cons_self
    have := ih fun d hd => h d (List.mem_cons_of_mem _ hd)
    omega
theorem Kd.sum {ks : List Dn} (P : PatK sz cs K) (A : Wd cs K L as) (h : Kd cs K L M as bs ks) : (ks.map List.length).sum ≤ 1000 := by
  have h1 := sum_le fun d hd => h.few A hd
  have h2 := h.len
  have h3 := P.k3
  omega
theorem Kd.next {ks ks' : List Dn} (P : PatK sz cs K) (A : Wd cs K L as) (B : Wd cs K M bs) (h : Kd cs K L M as bs ks) {k x y n m : Nat} (hn : L[k]? = some n) (hx : x < n) (hm : M[k]? = some m) (hy : y < m) (kn : Kn cs as bs ks k x y (wys cs k) ks') : Kd cs K L M as bs ks' := by
  refine ⟨by rw [kn.len]; exact h.len, kn.nd h.nd, fun e z v hv => ?_, fun e z v hv w l hw => ?_⟩
  · rcases kn.only e z v hv with hv | ⟨w, hw, rfl, rfl, rfl⟩
    · exact h.bd e z v hv
    · obtain ⟨_, m1, g1, h1⟩ := lg_ok A (wys_way hw) hn hx
      obtain ⟨_, m2, g2, h2⟩ := lg_ok B (wys_way hw) hm hy
      exact ⟨m1, m2, g1, g2, h1, h2⟩
  · rcases kn.only e z v hv with hv | ⟨u, hu, rfl, rfl, rfl⟩
    · exact kn.old _ _ _ (h.nat e z v hv w l hw)
    · rw [lg_bh A (wys_way hu) hw hn hx, lg_bh B (wys_way hu) hw hm hy]
      obtain ⟨h1, h2⟩ := way_wys (bh_way P.toPatOk (wys_way hu) hw)
      have := kn.new _ h1
      rw [h2] at this
      exact this
theorem Kd.start (hK : 0 < K) : Kd cs K L M as bs (List.replicate K []) := by
  have h0 : ∀ e z, at_ (List.replicate K ([] : Dn)) e z = none := fun e z => by
    unfold at_
    rw [List.getD_eq_getElem?_getD, List.getElem?_replicate]
    split <;> rfl
  refine ⟨List.length_replicate, fun d hd => ?_, fun e z v h => ?_, fun e z v h => ?_⟩
  · rw [List.eq_of_mem_replicate hd]; simp
  · rw [h0] at h; cases h
  · rw [h0] at h; cases h
/-- why no map is found -/
theorem one_only {ks : List Dn} (A : Wd cs K L as) (B : Wd cs K M bs) (h : Kd cs K L M as bs ks) {k x y n m : Nat} (hn : L[k]? = some n) (hx : x < n) (hm : M[k]? = some m) (hy : y < m) (hc : ∃ w ∈ wys cs k, ∃ v, v ≠ lg bs w y ∧ (at_ ks (endW cs k w) (lg as w x) = some v ∨ ∃ u ∈ wys cs k, v = lg bs u y)) : ¬ ∀ m ∈ M, m = 1 := by
  intro h1
  obtain ⟨w, hw, v, hv, hc⟩ := hc
  obtain ⟨_, m1, g1, h2⟩ := lg_ok B (wys_way hw) hm hy
  have e1 := h1 m1 (List.mem_of_getElem? g1)
  rcases hc with hc | ⟨u, hu, rfl⟩
  · obtain ⟨n3, m3, _, g3, _, h3⟩ := h.bd _ _ _ hc
    have e3 := h1 m3 (List.mem_of_getElem? g3)
    omega
  · obtain ⟨_, m4, g4, h4⟩ := lg_ok B (wys_way hu) hm hy
    have e4 := h1 m4 (List.mem_of_getElem? g4)
    omega
end
end VL
set_option Elab.async false
set_option linter.all false
set_option maxRecDepth 100000
set_option maxHeartbeats 4000000
namespace VL
open PySem L2
section
variable {sz : Nat → Nat} {cs : List Fn} {K : Nat} {L M : List Nat} {as bs : List (List Nat)}
abbrev smE (K : Nat) (cs : List Fn) (L M : List Nat) (as bs : List (List Nat)) (o : O) (ks : List Dn) (v5 v6 v7 v8 v9 : Option O) : Env' := [some o, some (.fz (patD K cs)), some (.fz (worldD L as)), some (.fz (worldD M bs)), some (.fz (knD ks)), v5, v6, v7, v8, v9]
/-- more is known -/
def Ext (ks ks' : List Dn) : Prop := ∀ e z v, at_ ks e z = some v → at_ ks' e z = some v
theorem Ext.rfl {ks : List Dn} : Ext ks ks := fun _ _ _ h => h
theorem Ext.trans {a b c : List Dn} (h1 : Ext a b) (h2 : Ext b c) : Ext a c := fun e z v h => h2 e z v (h1 e z v h)
theorem sm_1 (P : PatK sz cs K) (A : Wd cs K L as) (B : Wd cs K M bs) {ks : List Dn} (D : Kd cs K L M as bs ks) {o : O} {e x n m t : Nat} {v9 : Option O} (he : e < K) (hn : L[e]? = some n) (hx : x < n) (hm : M[e]? = some m) :
    ∃ r v9', forL (gN 9) l__law_some_map_1 (rgD 0 m) (smE K cs L M as bs o ks (some (.fz (nD e))) (some (.fz (nD x))) (some (.fz .non)) (some (.fz (nD t))) v9) = some (.nx, smE K cs L M as bs o ks (some (.fz (nD e))) (some (.fz (nD x))) (some (.fz r)) (some (.fz (nD t))) v9') ∧ (Kp v9 → Kp v9') ∧
      ((r = .non ∧ ¬ ∀ m ∈ M, m = 1) ∨ ∃ ks', r = knD ks' ∧ Kd cs K L M as bs ks' ∧ Ext ks ks' ∧ ∃ y, at_ ks' e x = some y) := by
  obtain ⟨ρ', e1, r, v9', rfl, hk, h⟩ := forL_inv (g := gN 9) (b := l__law_some_map_1) (ds := rgD 0 m) (ρ := smE K cs L M as bs o ks (some (.fz (nD e))) (some (.fz (nD x))) (some (.fz .non)) (some (.fz (nD t))) v9)
    (fun i ρ => ∃ r v9', ρ = smE K cs L M as bs o ks (some (.fz (nD e))) (some (.fz (nD x))) (some (.fz r)) (some (.fz (nD t))) v9' ∧ (Kp v9 → Kp v9') ∧ ((r = .non ∧ (0 < i → ¬ ∀ m ∈ M, m = 1)) ∨ ∃ ks', r = knD ks' ∧ Kd cs K L M as bs ks' ∧ Ext ks ks' ∧ ∃ y, at_ ks' e x = some y))
    ⟨.non, v9, rfl, id, .inl ⟨rfl, fun h => absurd h (Nat.lt_irrefl 0)⟩⟩ (by
      rintro i d ρ hd ⟨r, v9', rfl, hk, h⟩
      obtain ⟨hi, rfl⟩ := rgD_get hd
      rcases h with ⟨rfl, h⟩ | ⟨ks', rfl, D', hE, y, hy⟩
      · have et : bD (d2 gIs (dVar 7) (dC .non)) (smE K cs L M as bs o ks (some (.fz (nD e))) (some (.fz (nD x))) (some (.fz .non)) (some (.fz (nD t))) (some (.fz (nD i)))) = some (true, smE K cs L M as bs o ks (some (.fz (nD e))) (some (.fz (nD x))) (some (.fz .non)) (some (.fz (nD t))) (some (.fz (nD i)))) := bD_pure (d2_pure (var_at (i := 7) (d := .non) rfl) rfl rfl)
        have hy : (i + t) % m < m := Nat.mod_lt _ (by omega)
        have ey : d2 gMod (d2 gAdd (dVar 9) (dVar 8)) (d2 gIx (d2 gIx (dVar 3) (dC (.int 0))) (dVar 5)) (smE K cs L M as bs o ks (some (.fz (nD e))) (some (.fz (nD x))) (some (.fz .non)) (some (.fz (nD t))) (some (.fz (nD i)))) = some (nD ((i + t) % m), smE K cs L M as bs o ks (some (.fz (nD e))) (some (.fz (nD x))) (some (.fz .non)) (some (.fz (nD t))) (some (.fz (nD i)))) := by
          refine d2_pure (d2_pure (var_at (i := 9) (d := nD i) rfl) (var_at (i := 8) (d := nD t) rfl) (gAdd_int _ _)) (d2_pure (wD_0 (L := M) (as := bs) (var_at (i := 3) rfl)) (var_at (i := 5) rfl) (tpR_ix hm)) ?_
          rw [gMod_int, if_pos (by omega)]
          rfl
        have ea : aCons (dVar 1) (aCons (dVar 2) (aCons (dVar 3) (aCons (dVar 4) (aCons (dVar 5) (aCons (dVar 6) (aCons (d2 gMod (d2 gAdd (dVar 9) (dVar 8)) (d2 gIx (d2 gIx (dVar 3) (dC (.int 0))) (dVar 5))) aNil)))))) (smE K cs L M as bs o ks (some (.fz (nD e))) (some (.fz (nD x))) (some (.fz .non)) (some (.fz (nD t))) (some (.fz (nD i)))) =
            some ([patD K cs, worldD L as, worldD M bs, knD ks, nD e, nD x, nD ((i + t) % m)], smE K cs L M as bs o ks (some (.fz (nD e))) (some (.fz (nD x))) (some (.fz .non)) (some (.fz (nD t))) (some (.fz (nD i)))) :=
          aCons_pure (var_at (i := 1) rfl) (aCons_pure (var_at (i := 2) rfl) (aCons_pure (var_at (i := 3) rfl) (aCons_pure (var_at (i := 4) rfl) (aCons_pure (var_at (i := 5) rfl) (aTwo_pure (var_at (i := 6) rfl) ey)))))
        rcases known_ok P A B (x := x) (y := (i + t) % m) he hn hx hm hy D.len (D.sum P A) with ⟨ks', ek, kn⟩ | ⟨hc, ek⟩
        · refine ⟨_, smE K cs L M as bs o ks (some (.fz (nD e))) (some (.fz (nD x))) (some (.fz (knD ks'))) (some (.fz (nD t))) (some (.fz (nD i))), rfl, ?_, knD ks', _, rfl, fun _ => .fz _, .inr ⟨ks', rfl, D.next P A B hn hx hm hy kn, kn.old, (i + t) % m, ?_⟩⟩
          · unfold l__law_some_map_1
            show sIf _ _ _ (smE K cs L M as bs o ks (some (.fz (nD e))) (some (.fz (nD x))) (some (.fz .non)) (some (.fz (nD t))) (some (.fz (nD i)))) = _
            rw [sIf_pure et, if_pos rfl, ap_sAsg, toD_pure (cal_pure ea ek) (fz_fz _)]
            rfl
          · obtain ⟨q1, q2⟩ := way_wys (cs := cs) (k := e) (l := e) (w := -1) (.inl ⟨rfl, rfl⟩)
            have := kn.new (-1) q1
            rw [q2, lg_id, lg_id] at this
            exact this
        · refine ⟨_, smE K cs L M as bs o ks (some (.fz (nD e))) (some (.fz (nD x))) (some (.fz .non)) (some (.fz (nD t))) (some (.fz (nD i))), rfl, ?_, .non, _, rfl, fun _ => .fz _, .inl ⟨rfl, fun _ => one_only A B D hn hx hm hy (by
            obtain ⟨w, hw, v, hv, q | ⟨u, hu, _, _, e⟩⟩ := hc
            · exact ⟨w, hw, v, hv, .inl q⟩
            · exact ⟨w, hw, v, hv, .inr ⟨u, hu, e⟩⟩)⟩⟩
          unfold l__law_some_map_1
          show sIf _ _ _ (smE K cs L M as bs o ks (some (.fz (nD e))) (some (.fz (nD x))) (some (.fz .non)) (some (.fz (nD t))) (some (.fz (nD i)))) = _
          rw [sIf_pure et, if_pos rfl, ap_sAsg, toD_pure (cal_pure ea ek) (fz_fz _)]
          rfl
      · have et : bD (d2 gIs (dVar 7) (dC .non)) (smE K cs L M as bs o ks (some (.fz (nD e))) (some (.fz (nD x))) (some (.fz (knD ks'))) (some (.fz (nD t))) (some (.fz (nD i)))) = some (false, smE K cs L M as bs o ks (some (.fz (nD e))) (some (.fz (nD x))) (some (.fz (knD ks'))) (some (.fz (nD t))) (some (.fz (nD i)))) := bD_pure (d2_pure (var_at (i := 7) (d := knD ks') rfl) rfl rfl)
        refine ⟨_, smE K cs L M as bs o ks (some (.fz (nD e))) (some (.fz (nD x))) (some (.fz (knD ks'))) (some (.fz (nD t))) (some (.fz (nD i))), rfl, ?_, knD ks', _, rfl, fun _ => .fz _, .inr ⟨ks', rfl, D', hE, y, hy⟩⟩
        unfold l__law_some_map_1
        show sIf _ _ _ (smE K cs L M as bs o ks (some (.fz (nD e))) (some (.fz (nD x))) (some (.fz (knD ks'))) (some (.fz (nD t))) (some (.fz (nD i)))) = _
        rw [sIf_pure et]
        rfl)
  refine ⟨r, v9', e1, hk, ?_⟩
  rw [rgD_len] at h
  rcases h with ⟨rfl, h⟩ | h
  · refine .inl ⟨rfl, ?_⟩
    rcases Nat.eq_zero_or_pos m with q | q
    · intro h1
      have := h1 m (List.mem_of_getElem? hm)
      omega
    · exact h q
  · exact .inr h
/-- nothing is told, and why -/
def Lost (M : List Nat) (r : O) (ρ : Env') : Prop := r = .fz .non ∧ (¬ ∀ m ∈ M, m = 1) ∧ ∃ o ρ1, ρ = some o :: ρ1 ∧ StOk o
theorem sm_in {ks : List Dn} {e x : Nat} (he : e < ks.length) : gNotIn (nD x) (dkD (ks.getD e [])) = some (.bl (!(at_ ks e x).isSome)) := by
  unfold gNotIn inB dkD keyD
  simp only [Option.map_some, Option.bind_some]
  rw [dk_val nD]
  unfold at_
  cases valD (ks.getD e []) x <;> rfl
theorem kn_ix {ks : List Dn} {e : Nat} (he : e < ks.length) : gIx (knD ks) (nD e) = some (dkD (ks.getD e [])) := by
  rw [gIx_lst, List.getD_eq_getElem?_getD, List.getElem?_eq_getElem he]
  exact atI_map (List.getElem?_eq_getElem he)
theorem sm_2 (P : PatK sz cs K) (A : Wd cs K L as) (B : Wd cs K M bs) {ks : List Dn} (D : Kd cs K L M as bs ks) {o : O} {e n : Nat} {v6 v7 v8 v9 : Option O} (ho : StOk o) (he : e < K) (hn : L[e]? = some n) (k6 : Kp v6) (k9 : Kp v9) :
    (∃ o' ks' v6' v7' v8' v9', forL (gN 6) l__law_some_map_2 (rgD 0 n) (smE K cs L M as bs o ks (some (.fz (nD e))) v6 v7 v8 v9) = some (.nx, smE K cs L M as bs o' ks' (some (.fz (nD e))) v6' v7' v8' v9') ∧ StOk o' ∧ Kp v6' ∧ Kp v9' ∧ Kd cs K L M as bs ks' ∧ Ext ks ks' ∧ ∀ x, x < n → ∃ y, at_ ks' e x = some y) ∨
    ∃ r ρ', forL (gN 6) l__law_some_map_2 (rgD 0 n) (smE K cs L M as bs o ks (some (.fz (nD e))) v6 v7 v8 v9) = some (.rt r, ρ') ∧ Lost M r ρ' := by
  have hn7 := A.few n (List.mem_of_getElem? hn)
  obtain ⟨m, hm⟩ : ∃ m, M[e]? = some m := ⟨_, List.getElem?_eq_getElem (show e < M.length by rw [B.k]; exact he)⟩
  have hm7 := B.few m (List.mem_of_getElem? hm)
  have := forL_or (g := gN 6) (b := l__law_some_map_2) (ds := rgD 0 n) (ρ := smE K cs L M as bs o ks (some (.fz (nD e))) v6 v7 v8 v9)
    (fun i ρ => ∃ o' ks' v6' v7' v8' v9', ρ = smE K cs L M as bs o' ks' (some (.fz (nD e))) v6' v7' v8' v9' ∧ StOk o' ∧ Kp v6' ∧ Kp v9' ∧ Kd cs K L M as bs ks' ∧ Ext ks ks' ∧ ∀ x, x < i → ∃ y, at_ ks' e x = some y) (Lost M)
    ⟨o, ks, v6, v7, v8, v9, rfl, ho, k6, k9, D, Ext.rfl, fun x h => absurd h (Nat.not_lt_zero _)⟩ (by
      rintro i d ρ hd ⟨o1, ks1, v6, v7, v8, v9, rfl, ho1, k6, k9, D1, hE, hx⟩
      obtain ⟨hi, rfl⟩ := rgD_get hd
      have he1 : e < ks1.length := by rw [D1.len]; exact he
      have et : bD (d2 gNotIn (dVar 6) (d2 gIx (dVar 4) (dVar 5))) (smE K cs L M as bs o1 ks1 (some (.fz (nD e))) (some (.fz (nD i))) v7 v8 v9) = some (!(at_ ks1 e i).isSome, smE K cs L M as bs o1 ks1 (some (.fz (nD e))) (some (.fz (nD i))) v7 v8 v9) :=
        bD_pure (d2_pure (var_at (i := 6) rfl) (d2_pure (var_at (i := 4) (d := knD ks1) rfl) (var_at (i := 5) rfl) (kn_ix he1)) (sm_in he1))
      refine ⟨_, rfl, ?_⟩
      show (∃ ρ2, l__law_some_map_2 (smE K cs L M as bs o1 ks1 (some (.fz (nD e))) (some (.fz (nD i))) v7 v8 v9) = _ ∧ _) ∨ ∃ r ρ2, l__law_some_map_2 (smE K cs L M as bs o1 ks1 (some (.fz (nD e))) (some (.fz (nD i))) v7 v8 v9) = _ ∧ _
      unfold l__law_some_map_2
      rw [sIf_pure et]
      cases q : at_ ks1 e i with
      | some y =>
        refine .inl ⟨_, rfl, o1, ks1, _, v7, v8, v9, rfl, ho1, .fz _, k9, D1, hE, fun x h => ?_⟩
        rcases Nat.lt_succ_iff_lt_or_eq.mp h with h | rfl
        · exact hx x h
        · exact ⟨y, q⟩
      | none =>
        obtain ⟨t, o2, ht, ho2, e2⟩ := take_d (ρ := smE K cs L M as bs o1 ks1 (some (.fz (nD e))) (some (.fz (nD i))) (some (.fz .non)) v8 v9) (f := dA gMax (aCons (dC (.int 1)) (aCons (d2 gIx (d2 gIx (dVar 3) (dC (.int 0))) (dVar 5)) aNil))) (m := (max 1 m : Nat)) rfl ho1 (dA_pure (aTwo_pure rfl (d2_pure (wD_0 (L := M) (as := bs) (var_at (i := 3) rfl)) (var_at (i := 5) rfl) (tpR_ix hm))) (max_nat 1 m)) (by omega) (by omega)
        obtain ⟨r, v9', e3, k9', h3⟩ := sm_1 (o := o2) (t := t) (v9 := v9) P A B D1 he hn hi hm
        simp only [Option.isSome_none, Bool.not_false, if_true]
        rw [st_asg (d := .non) rfl]
        simp only [List.set_cons_succ, List.set_cons_zero]
        rw [st_asg' e2]
        simp only [List.set_cons_succ, List.set_cons_zero]
        rw [st_for (rg_pure (n := m) (aOne_pure (d2_pure (wD_0 (L := M) (as := bs) (var_at (i := 3) rfl)) (var_at (i := 5) rfl) (tpR_ix hm))) (by omega)) e3]
        rcases h3 with ⟨rfl, h3⟩ | ⟨ks', rfl, D', hE', hy⟩
        · have et : bD (d2 gIs (dVar 7) (dC .non)) (smE K cs L M as bs o2 ks1 (some (.fz (nD e))) (some (.fz (nD i))) (some (.fz .non)) (some (.fz (nD t))) v9') = some (true, smE K cs L M as bs o2 ks1 (some (.fz (nD e))) (some (.fz (nD i))) (some (.fz .non)) (some (.fz (nD t))) v9') := bD_pure (d2_pure (var_at (i := 7) (d := .non) rfl) rfl rfl)
          refine .inr ⟨.fz .non, smE K cs L M as bs o2 ks1 (some (.fz (nD e))) (some (.fz (nD i))) (some (.fz .non)) (some (.fz (nD t))) v9', ?_, rfl, h3, o2, _, rfl, ho2⟩
          rw [ap_sSeq, sIf_pure et]
          rfl
        · have et : bD (d2 gIs (dVar 7) (dC .non)) (smE K cs L M as bs o2 ks1 (some (.fz (nD e))) (some (.fz (nD i))) (some (.fz (knD ks'))) (some (.fz (nD t))) v9') = some (false, smE K cs L M as bs o2 ks1 (some (.fz (nD e))) (some (.fz (nD i))) (some (.fz (knD ks'))) (some (.fz (nD t))) v9') := bD_pure (d2_pure (var_at (i := 7) (d := knD ks') rfl) rfl rfl)
          refine .inl ⟨smE K cs L M as bs o2 ks' (some (.fz (nD e))) (some (.fz (nD i))) (some (.fz (knD ks'))) (some (.fz (nD t))) v9', ?_, o2, ks', _, _, _, v9', rfl, ho2, .fz _, k9' k9, D', hE.trans hE', fun x h => ?_⟩
          · rw [st_run (by rw [sIf_pure et]; rfl)]
            rw [ap_sAsg, var_at (i := 7) (d := knD ks') rfl]
            rfl
          · rcases Nat.lt_succ_iff_lt_or_eq.mp h with h | rfl
            · obtain ⟨y, hy⟩ := hx x h
              exact ⟨y, hE' _ _ _ hy⟩
            · exact hy)
  rcases this with ⟨ρ', e1, o', ks', v6', v7', v8', v9', rfl, h1, h2, h3, h4, h5, h6⟩ | h
  · rw [rgD_len] at h6
    exact .inl ⟨o', ks', v6', v7', v8', v9', e1, h1, h2, h3, h4, h5, h6⟩
  · exact .inr h
/-- a map of worlds, by rows -/
structure Mp (cs : List Fn) (K : Nat) (L M : List Nat) (as bs : List (List Nat)) (ms : List (List Nat)) : Prop where
  len : ms.length = K
  row : ∀ (k : Nat) (r : List Nat), ms[k]? = some r → ∃ n m, L[k]? = some n ∧ M[k]? = some m ∧ r.length = n ∧ ∀ y ∈ r, y < m
  nat : ∀ (k : Nat) (t : Fn), cs[k]? = some t → ∀ ra rb, as[k]? = some ra → bs[k]? = some rb → ∀ ma mb, ms[t.a]? = some ma → ms[t.b]? = some mb → ∀ x y : Nat, ra[x]? = some y → ∃ z u, ma[x]? = some z ∧ mb[y]? = some u ∧ rb[z]? = some u
def mapR (ks : List Dn) (k n : Nat) : List Nat := (List.range n).map fun x => (at_ ks k x).getD 0
def mapK (ks : List Dn) (K : Nat) (L : List Nat) : List (List Nat) := (List.range K).map fun k => mapR ks k (L.getD k 0)
theorem mapK_ok (P : PatK sz cs K) (A : Wd cs K L as) (B : Wd cs K M bs) {ks : List Dn} (D : Kd cs K L M as bs ks) (h : ∀ k n x, L[k]? = some n → x < n → ∃ y, at_ ks k x = some y) : Mp cs K L M as bs (mapK ks K L) := by
  have hget : ∀ {k r}, (mapK ks K L)[k]? = some r → ∃ n, k < K ∧ L[k]? = some n ∧ r = mapR ks k n := fun {k r} hr => by
    unfold mapK at hr
    rw [List.getElem?_map] at hr
    by_cases hk : k < K
    · rw [List.getElem?_range hk] at hr
      have hk' : k < L.length := by rw [A.k]; exact hk
      refine ⟨L[k], hk, List.getElem?_eq_getElem hk', ?_⟩
      have : mapR ks k (L.getD k 0) = r := Option.some.inj hr
      rw [List.getD_eq_getElem?_getD, List.getElem?_eq_getElem hk'] at this
      exact this.symm
    · rw [List.getElem?_eq_none (by rw [List.length_range]; omega)] at hr
      cases hr
  have hrow : ∀ {k n x}, x < n → (mapR ks k n)[x]? = some ((at_ ks k x).getD 0) := fun {k n x} hx => by
    unfold mapR
    rw [List.getElem?_map, List.getElem?_range hx]
    rfl
  refine ⟨by unfold mapK; simp, fun k r hr => ?_, fun k t ht ra rb hra hrb ma mb hma hmb x y hxy => ?_⟩
  · obtain ⟨n, hk, hn, rfl⟩ := hget hr
    obtain ⟨m, hm⟩ : ∃ m, M[k]? = some m := ⟨_, List.getElem?_eq_getElem (show k < M.length by rw [B.k]; exact hk)⟩
    refine ⟨n, m, hn, hm, by unfold mapR; simp, fun y hy => ?_⟩
    unfold mapR at hy
    obtain ⟨x, hx, rfl⟩ := List.mem_map.mp hy
    rw [List.mem_range] at hx
    obtain ⟨v, hv⟩ := h k n x hn hx
    obtain ⟨_, m', _, g, _, hl⟩ := D.bd _ _ _ hv
    rw [hm] at g
    cases g
    rw [hv]
    exact hl
  · obtain ⟨n, hka, hn, rfl⟩ := hget hma
    obtain ⟨n', hkb, hn', rfl⟩ := hget hmb
    obtain ⟨ra', la, lb, g1, g2, g3, g4, g5⟩ := A.act k t ht
    rw [hra] at g1
    cases g1
    rw [hn] at g2
    cases g2
    rw [hn'] at g3
    cases g3
    have hx : x < n := by rw [← g4]; exact (List.getElem?_eq_some_iff.mp hxy).1
    have hy : y < n' := g5 y (List.mem_of_getElem? hxy)
    obtain ⟨z, hz⟩ := h _ _ x hn hx
    have hw : IsWay cs t.a k t.b := .inr ⟨k, t, rfl, ht, rfl, rfl⟩
    have e1 := D.nat _ _ _ hz k t.b hw
    have ea : lg as k x = y := by
      unfold lg ledL
      rw [if_neg (by omega), Int.toNat_natCast, hra]
      simp only [Option.bind_some, hxy]
      rfl
    obtain ⟨_, m, _, gm, _, hzm⟩ := D.bd _ _ _ hz
    obtain ⟨e2, _⟩ := lg_ok B hw gm hzm
    rw [ea] at e1
    refine ⟨z, lg bs k z, ?_, ?_, ?_⟩
    · rw [hrow hx, hz]; rfl
    · rw [hrow hy, e1]; rfl
    · unfold ledL at e2
      rw [if_neg (by omega), Int.toNat_natCast, hrb] at e2
      exact e2
end
end VL
set_option Elab.async false
set_option linter.all false
set_option maxRecDepth 100000
set_option maxHeartbeats 4000000
namespace VL
open PySem L2
/-! ### whether data are a world: the words -/
abbrev tpI (r : List Int) : D := .tup (r.map .int)
def within (row : List Int) (many most : Int) : Prop := (row.length : Int) = many ∧ ∀ x ∈ row, 0 ≤ x ∧ x < most
structure Sm (n : Nat) (sizes : List Int) (acts : List (List Int)) : Prop where
  sl : sizes.length ≤ 3 + n
  al : acts.length ≤ 5 + n
  rl : ∀ r ∈ acts, r.length ≤ 7 + n
  sv : ∀ s ∈ sizes, s ≤ 7 + n
end VL
set_option Elab.async false
set_option linter.all false
set_option maxRecDepth 100000
set_option maxHeartbeats 4000000
namespace VL
open PySem L2
/-! ### is_world, the program's and the law's -/
theorem zipD_at {α β : Type} {f : α → D} {g : β → D} : ∀ {xs : List α} {ys : List β} {i : Nat} {d : D}, (zipD (xs.map f) (ys.map g))[i]? = some d → ∃ x y, xs[i]? = some x ∧ ys[i]? = some y ∧ d = .tup [f x, g y]
  | [], _, i, d, h => by simp [zipD] at h
  | x :: xs, [], i, d, h => by simp [zipD] at h
  | x :: xs, y :: ys, 0, d, h => by
    have h : D.tup [f x, g y] = d := by simpa [zipD] using h
    exact ⟨x, y, rfl, rfl, h.symm⟩
  | x :: xs, y :: ys, i + 1, d, h => zipD_at (xs := xs) (ys := ys) (i := i) (by simpa [zipD] using h)
section
variable {sz : Nat → Nat} {cs : List Fn} {K n : Nat} {sizes : List Int} {acts : List (List Int)}
end
end VL
set_option Elab.async false
set_option linter.all false
set_option maxRecDepth 100000
set_option maxHeartbeats 4000000
namespace VL
open PySem L2
section
variable {sz : Nat → Nat} {cs : List Fn} {K n : Nat} {sizes : List Int} {acts : List (List Int)}
end
end VL
set_option Elab.async false
set_option linter.all false
set_option maxRecDepth 100000
set_option maxHeartbeats 4000000
namespace VL
open PySem L2
section
variable {sz : Nat → Nat} {cs : List Fn} {K n : Nat} {sizes : List Int} {acts : List (List Int)}

end
end VL
set_option Elab.async false
set_option linter.all false
set_option maxRecDepth 100000
set_option maxHeartbeats 4000000
namespace VL
open PySem L2
/-! ### pieces of tuples -/
section
variable {f g h : DF} {ρ : Env'} {xs ys : List D} {l u : PF} {lo hi : Option Int}
theorem gTup1 (a : D) : gTup' [a] = some (.tup [a]) := if_pos (show 1 ≤ lim from by decide)
end
/-! ### _law_row_spoiled -/
/-! ### _law_spoiled -/
section
variable {sz : Nat → Nat} {cs : List Fn} {K n : Nat}
end
end VL
set_option Elab.async false
set_option linter.all false
set_option maxRecDepth 100000
set_option maxHeartbeats 4000000
namespace VL
open PySem L2
section
variable {sz : Nat → Nat} {cs : List Fn} {K n : Nat} {o : O} {sizes : List Int} {acts : List (List Int)} {w k : Nat} {v6 v7 : Option O}
end
end VL
set_option Elab.async false
set_option linter.all false
set_option maxRecDepth 100000
set_option maxHeartbeats 4000000
namespace VL
open PySem L2
/-! ### the told world is a world by the words of is_world -/
section
variable {sz : Nat → Nat} {cs : List Fn} {K : Nat} {L : List Nat} {as : List (List Nat)}
theorem Wd.row (W : Wd cs K L as) {r : List Nat} (hr : r ∈ as) : r.length ≤ 7 := by
  obtain ⟨k, hk⟩ := List.mem_iff_getElem?.mp hr
  have hkl := (List.getElem?_eq_some_iff.mp hk).1
  rw [W.n] at hkl
  obtain ⟨ra, la, lb, h1, h2, _, h4, _⟩ := W.act k _ (List.getElem?_eq_getElem hkl)
  rw [hk] at h1
  cases h1
  rw [h4]
  exact W.few _ (List.mem_of_getElem? h2)
theorem Wd.sm (P : PatK sz cs K) (W : Wd cs K L as) : Sm 0 (natI L) (as.map natI) := by
  refine ⟨by unfold natI; rw [List.length_map, W.k]; have := P.k3; omega, by rw [List.length_map, W.n]; have := P.l5; omega, fun r hr => ?_, fun s hs => ?_⟩
  · obtain ⟨r', hr', rfl⟩ := List.mem_map.mp hr
    have := W.row hr'
    unfold natI
    rw [List.length_map]; omega
  · unfold natI at hs
    obtain ⟨n, hn, rfl⟩ := List.mem_map.mp hs
    have := W.few n hn
    omega
end
end VL
set_option Elab.async false
set_option linter.all false
set_option maxRecDepth 100000
set_option maxHeartbeats 4000000
namespace VL
open PySem L2
/-! ### where a doing doesn't go along -/
def g2 (m : List (List Nat)) (i j : Nat) : Nat := (m.getD i []).getD j 0
section
variable {sz : Nat → Nat} {cs : List Fn} {K : Nat} {L M : List Nat} {as bs ms : List (List Nat)}
/-- the rows of a map -/
structure Rwm (K : Nat) (L M : List Nat) (ms : List (List Nat)) : Prop where
  len : ms.length = K
  row : ∀ (k : Nat) (r : List Nat), ms[k]? = some r → ∃ n m, L[k]? = some n ∧ M[k]? = some m ∧ r.length = n ∧ ∀ y ∈ r, y < m
theorem g2_of {m : List (List Nat)} {i j y : Nat} {r : List Nat} (h1 : m[i]? = some r) (h2 : r[j]? = some y) : g2 m i j = y := by
  unfold g2
  rw [List.getD_eq_getElem?_getD (l := m), h1]
  show r.getD j 0 = y
  rw [List.getD_eq_getElem?_getD, h2]
  rfl
/-! ### first_lack -/
/-! ### _law_lacks -/
end
end VL
set_option Elab.async false
set_option linter.all false
set_option maxRecDepth 100000
set_option maxHeartbeats 4000000
namespace VL
open PySem L2
/-! ### whether rows are a map -/
abbrev mI (ms : List (List Int)) : D := .tup (ms.map tpI)
def natR (ms : List (List Int)) : List (List Nat) := ms.map fun r => r.map Int.toNat
def Fit (K : Nat) (L M : List Nat) (ms : List (List Int)) : Prop := ms.length = K ∧ ∀ k : Nat, k < K → within (ms.getD k []) ((L.getD k 0 : Nat) : Int) ((M.getD k 0 : Nat) : Int)
section
variable {sz : Nat → Nat} {cs : List Fn} {K : Nat} {L M : List Nat} {as bs : List (List Nat)} {ms : List (List Int)}
theorem row_nat {r : List Int} (h : ∀ x ∈ r, 0 ≤ x) : tpI r = tpR (r.map Int.toNat) := by
  show D.tup _ = D.tup _
  rw [List.map_map]
  congr 1
  refine List.map_congr_left fun x hx => ?_
  show D.int x = D.int _
  rw [Int.toNat_of_nonneg (h x hx)]
theorem Fit.rows (F : Fit K L M ms) {r : List Int} (h : r ∈ ms) : ∃ k, k < K ∧ within r ((L.getD k 0 : Nat) : Int) ((M.getD k 0 : Nat) : Int) := by
  obtain ⟨k, hk, rfl⟩ := List.mem_iff_getElem.mp h
  refine ⟨k, by rw [← F.1]; exact hk, ?_⟩
  have := F.2 k (by rw [← F.1]; exact hk)
  rw [List.getD_eq_getElem?_getD (l := ms), List.getElem?_eq_getElem hk] at this
  exact this
theorem Fit.nat (F : Fit K L M ms) : mI ms = tpD (natR ms) := by
  show D.tup _ = D.tup _
  unfold natR
  rw [List.map_map]
  congr 1
  refine List.map_congr_left fun r hr => ?_
  obtain ⟨k, _, w⟩ := F.rows hr
  exact row_nat fun x hx => (w.2 x hx).1
theorem getD_at {α : Type} {l : List α} {k : Nat} {d : α} (h : k < l.length) : l[k]? = some (l.getD k d) := by rw [List.getD_eq_getElem?_getD, List.getElem?_eq_getElem h]; rfl
end
end VL
set_option Elab.async false
set_option linter.all false
set_option maxRecDepth 100000
set_option maxHeartbeats 4000000
namespace VL
open PySem L2
/-! ### maps, one behind another -/
theorem tpD_pl (ms : List (List Nat)) : plN 2 (tpD ms) := plN_tup fun d hd => by
  obtain ⟨r, _, rfl⟩ := List.mem_map.mp hd
  exact plN_row 0 r
def compM (ms ns : List (List Nat)) : List (List Nat) := (List.range ms.length).map fun k => (ms.getD k []).map fun x => (ns.getD k []).getD x 0
theorem compM_len (ms ns : List (List Nat)) : (compM ms ns).length = ms.length := by unfold compM; simp
theorem compM_at {ms ns : List (List Nat)} {k : Nat} (h : k < ms.length) : (compM ms ns).getD k [] = (ms.getD k []).map fun x => (ns.getD k []).getD x 0 := by
  unfold compM
  rw [List.getD_eq_getElem?_getD, List.getElem?_map, List.getElem?_range h]
  rfl
section
variable {sz : Nat → Nat} {cs : List Fn} {K : Nat} {L M N : List Nat} {as bs ds ms ns : List (List Nat)}
theorem Mp.at_ (h : Mp cs K L M as bs ms) {k : Nat} (hk : k < K) : ∃ r n m, ms[k]? = some r ∧ ms.getD k [] = r ∧ L[k]? = some n ∧ M[k]? = some m ∧ r.length = n ∧ ∀ y ∈ r, y < m := by
  have hk' : k < ms.length := by rw [h.len]; exact hk
  obtain ⟨n, m, h1, h2, h3, h4⟩ := h.row k ms[k] (List.getElem?_eq_getElem hk')
  exact ⟨ms[k], n, m, List.getElem?_eq_getElem hk', getD_of (List.getElem?_eq_getElem hk'), h1, h2, h3, h4⟩
theorem row_getD {r : List Nat} {x : Nat} (h : x < r.length) : r[x]? = some (r.getD x 0) := by rw [List.getD_eq_getElem?_getD, List.getElem?_eq_getElem h]; rfl
theorem Mp.comp (h1 : Mp cs K L M as bs ms) (h2 : Mp cs K M N bs ds ns) (P : PatK sz cs K) (B : Wd cs K M bs) (A : Wd cs K L as) : Mp cs K L N as ds (compM ms ns) := by
  have hlen : (compM ms ns).length = K := by rw [compM_len]; exact h1.len
  have hrow : ∀ {k r}, (compM ms ns)[k]? = some r → ∃ (ma na : List Nat) (n m l : Nat), ms[k]? = some ma ∧ ns[k]? = some na ∧ L[k]? = some n ∧ M[k]? = some m ∧ N[k]? = some l ∧ ma.length = n ∧ na.length = m ∧ (∀ y ∈ ma, y < m) ∧ (∀ y ∈ na, y < l) ∧ r = ma.map fun x => na.getD x 0 := fun {k r} hr => by
    have hk : k < K := by rw [← hlen]; exact (List.getElem?_eq_some_iff.mp hr).1
    obtain ⟨ma, n, m, e1, e2, e3, e4, e5, e6⟩ := h1.at_ hk
    obtain ⟨na, m', l, f1, f2, f3, f4, f5, f6⟩ := h2.at_ hk
    rw [e4] at f3
    cases f3
    refine ⟨ma, na, n, m, l, e1, f1, e3, e4, f4, e5, f5, e6, f6, ?_⟩
    have := compM_at (ms := ms) (ns := ns) (k := k) (by rw [h1.len]; exact hk)
    rw [e2, f2] at this
    rw [← this]
    exact (getD_of hr).symm
  refine ⟨hlen, fun k r hr => ?_, fun k t ht ra rd hra hrd pa pb hpa hpb x y hxy => ?_⟩
  · obtain ⟨ma, na, n, m, l, e1, e2, e3, e4, e5, e6, e7, e8, e9, rfl⟩ := hrow hr
    refine ⟨n, l, e3, e5, by rw [List.length_map]; exact e6, fun y hy => ?_⟩
    obtain ⟨x, hx, rfl⟩ := List.mem_map.mp hy
    have := e8 x hx
    exact e9 _ (List.mem_of_getElem? (row_getD (by omega)))
  · obtain ⟨ma, na, n, m, l, e1, e2, e3, e4, e5, e6, e7, e8, e9, rfl⟩ := hrow hpa
    obtain ⟨mb, nb, n', m', l', f1, f2, f3, f4, f5, f6, f7, f8, f9, rfl⟩ := hrow hpb
    obtain ⟨rb, la, lb, g1, g2, g3, g4, g5⟩ := B.act k t ht
    obtain ⟨z, u, q1, q2, q3⟩ := h1.nat k t ht ra rb hra g1 ma mb e1 f1 x y hxy
    obtain ⟨z', u', p1, p2, p3⟩ := h2.nat k t ht rb rd g1 hrd na nb e2 f2 z u q3
    refine ⟨z', u', ?_, ?_, p3⟩
    · rw [List.getElem?_map, q1]
      show some (na.getD z 0) = _
      rw [List.getD_eq_getElem?_getD, p1]; rfl
    · rw [List.getElem?_map, q2]
      show some (nb.getD u 0) = _
      rw [List.getD_eq_getElem?_getD, p2]; rfl
theorem Mp.small (h1 : Mp cs K L M as bs ms) (h2 : Mp cs K M N bs ds ns) {k : Nat} (hk : k < K) : ∀ x ∈ ms.getD k [], x < (ns.getD k []).length := by
  obtain ⟨ma, n, m, e1, e2, e3, e4, e5, e6⟩ := h1.at_ hk
  obtain ⟨na, m', l, f1, f2, f3, f4, f5, f6⟩ := h2.at_ hk
  rw [e4] at f3
  cases f3
  rw [e2, f2, f5]
  exact e6
theorem rangeD {n x : Nat} (h : x < n) : (List.range n).getD x 0 = x := by
  rw [List.getD_eq_getElem?_getD, List.getElem?_range h]; rfl
/-! ### then, staying, and the law's own -/
end
end VL
set_option Elab.async false
set_option linter.all false
set_option maxRecDepth 100000
set_option maxHeartbeats 4000000
namespace VL
open PySem L2
/-! ### _law_grown: a part, drawn -/
section
variable {sz : Nat → Nat} {cs : List Fn} {K : Nat} {L : List Nat} {as : List (List Nat)}
/-- K rows of at most m things -/
def Rows (K m : Nat) (rs : List (List Nat)) : Prop := rs.length = K ∧ ∀ r ∈ rs, r.length ≤ m
theorem Rows.mono {m m' : Nat} {rs : List (List Nat)} (h : Rows K m rs) (hm : m ≤ m') : Rows K m' rs := ⟨h.1, fun r hr => Nat.le_trans (h.2 r hr) hm⟩
/-- rows of things that have with a thing all that ways make of it -/
structure Prt (cs : List Fn) (L : List Nat) (as : List (List Nat)) (rs : List (List Nat)) : Prop where
  th : ∀ e y, y ∈ rs.getD e [] → ∃ n, L[e]? = some n ∧ y < n
  cl : ∀ e y, y ∈ rs.getD e [] → ∀ w ∈ wys cs e, lg as w y ∈ rs.getD (endW cs e w) []
/-! ### the ways into a part -/
end
end VL
set_option Elab.async false
set_option linter.all false
set_option maxRecDepth 100000
set_option maxHeartbeats 4000000
namespace VL
open PySem L2
/-! ### leads, the program's and the law's -/
abbrev rwO (r : List Nat) : O := .lst (r.map fun x => .fz (nD x))
theorem rwO_fz (r : List Nat) : (rwO r).freeze = rowL r := by
  unfold rwO
  rw [fz_lst', freezes_fun]
theorem bls_of' {α : Type} (p : α → Bool) : ∀ xs : List α, blsD (xs.map fun x => D.bl (p x)) = some (xs.map p)
  | [] => rfl
  | x :: xs => by
    rw [List.map_cons, blsD, bls_of' p xs]; rfl
theorem gAll_of {α : Type} (p : α → Bool) (xs : List α) : gAll [.lst (xs.map fun x => D.bl (p x))] = some (.bl (xs.all p)) := by
  unfold gAll
  simp only [bls_of' p, Option.map_some, List.all_map]
  rfl
/-- a number more at a row's end -/
theorem app_row {i : Nat} {ρ : Env'} {f : DF} {r : List Nat} {x : Nat} (h0 : ρ[i]? = some (some (rwO r))) (e : f ρ = some (nD x, ρ)) (hl : r.length < 1000) : sExpr (dMet i mApp (aCons f aNil)) ρ = some (.nx, ρ.set i (some (rwO (r ++ [x])))) := by
  rw [ap_sExpr, ap_dMet, h0]
  simp only [aOne_pure e, Option.bind_some, h0, ap_mApp]
  rw [if_pos (by rw [List.length_map]; unfold lim; omega)]
  simp only [Option.map_some]
  rw [rwO, List.map_append]
  rfl
/-- a row, made a tuple, at the end of rows -/
theorem app_rows {i j : Nat} {ρ : Env'} {r : List Nat} {rs : List (List Nat)} (h0 : ρ[i]? = some (some (tpO rs))) (hj : ρ[j]? = some (some (rwO r))) (hij : i ≠ j) (hl : rs.length < 1000) : sExpr (dMet i mApp (aCons (dA gTuple (aCons (dFz j) aNil)) aNil)) ρ = some (.nx, (ρ.set j (some (.fz (rowL r)))).set i (some (tpO (rs ++ [r])))) := by
  have hi : i < ρ.length := (List.getElem?_eq_some_iff.mp h0).1
  have h0' : (ρ.set j (some (.fz (rowL r))))[i]? = some (some (tpO rs)) := by rw [List.getElem?_set_ne (Ne.symm hij)]; exact h0
  rw [ap_sExpr, ap_dMet, h0]
  simp only
  rw [ap_aCons, ap_dA, ap_aCons, dFz_own hj (rwO_fz r)]
  simp only [Option.bind_some, ap_aNil, Option.map_some, gTuple_lst, h0', ap_mApp]
  rw [if_pos (by rw [List.length_map]; unfold lim; omega)]
  simp only [Option.map_some]
  rw [tpO, List.map_append]
  rfl
section
variable {sz : Nat → Nat} {cs : List Fn} {K : Nat} {L : List Nat} {as one other : List (List Nat)}
theorem map_snoc {α : Type} (f : Nat → α) (i : Nat) : (List.range (i + 1)).map f = (List.range i).map f ++ [f i] := by
  rw [List.range_succ, List.map_append]; rfl

end
end VL
set_option Elab.async false
set_option linter.all false
set_option maxRecDepth 100000
set_option maxHeartbeats 4000000
namespace VL
open PySem L2
/-! ### small steps for the words below -/
section
variable {f g h i : DF} {ρ ρ' : Env'} {t u : BF} {s s' : SF} {x y : Bool} {d a b c : D} {fo go : OF} {ag : LF} {ds es : List D} {R : Option (Out × Env')}
theorem dC_pure : dC d ρ = some (d, ρ) := rfl
theorem aNil_pure : aNil ρ = some ([], ρ) := rfl
theorem bYes_pure : bYes ρ = some (true, ρ) := rfl
theorem nil_pure : toD (nA gLst' aNil) ρ = some (.lst [], ρ) := rfl
theorem lst1_pure (h : f ρ = some (a, ρ)) : toD (nA gLst' (aCons f aNil)) ρ = some (.lst [a], ρ) := toD_lst (nA_pure (aOne_pure h) (if_pos (show 1 ≤ lim from by decide)))
theorem lst2_pure (h : f ρ = some (a, ρ)) (h2 : g ρ = some (b, ρ)) : toD (nA gLst' (aCons f (aCons g aNil))) ρ = some (.lst [a, b], ρ) := toD_lst (nA_pure (aTwo_pure h h2) (if_pos (show 2 ≤ lim from by decide)))
theorem tup0_pure : dA gTup' aNil ρ = some (.tup [], ρ) := dA_pure rfl (if_pos (show 0 ≤ lim from by decide))
theorem n2_pure {k : D → D → Option O} {o : O} (h1 : f ρ = some (a, ρ)) (h2 : g ρ = some (b, ρ)) (h3 : k a b = some o) : n2 k f g ρ = some (o, ρ) := by
  rw [ap_n2, h1]; simp [h2, h3]
theorem dNot_pure (h1 : f ρ = some (.bl x, ρ)) : dNot f ρ = some (.bl (!x), ρ) := by rw [ap_dNot, h1]; rfl
theorem dOr_pure (h1 : f ρ = some (.bl x, ρ)) (h2 : g ρ = some (.bl y, ρ)) : dOr f g ρ = some (.bl (x || y), ρ) := by
  rw [ap_dOr, h1]; cases x <;> simp [h2]
theorem cal_p {F : FF} {os : List O} (h : ag ρ = some (ds, ρ)) (h2 : F (ds.map .fz) = some (.fz d, os)) : toD (nA (cal F) ag) ρ = some (d, ρ) := toD_pure (cal_pure h h2) (fz_fz _)
theorem meth_p {cn m : Str} {F : FF} {fs : List (Str × D)} (ho : f ρ = some (.ins cn fs, ρ)) (hm : fs.lookup m = none) (ha : ag ρ = some (ds, ρ)) (hf : F ((D.ins cn fs :: ds).map .fz) = some (.fz d, [])) : toD (nMeth cn m F f ag) ρ = some (d, ρ) := toD_pure (meth_pure ho hm ha hf) (fz_fz _)
theorem meth_p0 {cn m : Str} {F : FF} {fs : List (Str × D)} (ho : f ρ = some (.ins cn fs, ρ)) (hm : fs.lookup m = none)  (hF : F [.fz (.ins cn fs)] = some (.fz d, [])) : toD (nMeth cn m F f aNil) ρ = some (d, ρ) := meth_p ho hm rfl hF
theorem cal_p1 {f0 : DF} {a0 : D} {F : FF} {os : List O} (h0 : f0 ρ = some (a0, ρ)) (hF : F [.fz a0] = some (.fz d, os)) : toD (nA (cal F) (aCons f0 aNil)) ρ = some (d, ρ) := cal_p (aCons_pure h0 rfl) hF
theorem meth_p1 {f0 : DF} {a0 : D} {cn m : Str} {F : FF} {fs : List (Str × D)} (ho : f ρ = some (.ins cn fs, ρ)) (hm : fs.lookup m = none) (h0 : f0 ρ = some (a0, ρ)) (hF : F [.fz (.ins cn fs), .fz a0] = some (.fz d, [])) : toD (nMeth cn m F f (aCons f0 aNil)) ρ = some (d, ρ) := meth_p ho hm (aCons_pure h0 rfl) hF
theorem cal_p2 {f0 f1 : DF} {a0 a1 : D} {F : FF} {os : List O} (h0 : f0 ρ = some (a0, ρ)) (h1 : f1 ρ = some (a1, ρ)) (hF : F [.fz a0, .fz a1] = some (.fz d, os)) : toD (nA (cal F) (aCons f0 (aCons f1 aNil))) ρ = some (d, ρ) := cal_p (aCons_pure h0 (aCons_pure h1 rfl)) hF
theorem meth_p2 {f0 f1 : DF} {a0 a1 : D} {cn m : Str} {F : FF} {fs : List (Str × D)} (ho : f ρ = some (.ins cn fs, ρ)) (hm : fs.lookup m = none) (h0 : f0 ρ = some (a0, ρ)) (h1 : f1 ρ = some (a1, ρ)) (hF : F [.fz (.ins cn fs), .fz a0, .fz a1] = some (.fz d, [])) : toD (nMeth cn m F f (aCons f0 (aCons f1 aNil))) ρ = some (d, ρ) := meth_p ho hm (aCons_pure h0 (aCons_pure h1 rfl)) hF
theorem cal_p3 {f0 f1 f2 : DF} {a0 a1 a2 : D} {F : FF} {os : List O} (h0 : f0 ρ = some (a0, ρ)) (h1 : f1 ρ = some (a1, ρ)) (h2 : f2 ρ = some (a2, ρ)) (hF : F [.fz a0, .fz a1, .fz a2] = some (.fz d, os)) : toD (nA (cal F) (aCons f0 (aCons f1 (aCons f2 aNil)))) ρ = some (d, ρ) := cal_p (aCons_pure h0 (aCons_pure h1 (aCons_pure h2 rfl))) hF
theorem meth_p3 {f0 f1 f2 : DF} {a0 a1 a2 : D} {cn m : Str} {F : FF} {fs : List (Str × D)} (ho : f ρ = some (.ins cn fs, ρ)) (hm : fs.lookup m = none) (h0 : f0 ρ = some (a0, ρ)) (h1 : f1 ρ = some (a1, ρ)) (h2 : f2 ρ = some (a2, ρ)) (hF : F [.fz (.ins cn fs), .fz a0, .fz a1, .fz a2] = some (.fz d, [])) : toD (nMeth cn m F f (aCons f0 (aCons f1 (aCons f2 aNil)))) ρ = some (d, ρ) := meth_p ho hm (aCons_pure h0 (aCons_pure h1 (aCons_pure h2 rfl))) hF
theorem cal_p4 {f0 f1 f2 f3 : DF} {a0 a1 a2 a3 : D} {F : FF} {os : List O} (h0 : f0 ρ = some (a0, ρ)) (h1 : f1 ρ = some (a1, ρ)) (h2 : f2 ρ = some (a2, ρ)) (h3 : f3 ρ = some (a3, ρ)) (hF : F [.fz a0, .fz a1, .fz a2, .fz a3] = some (.fz d, os)) : toD (nA (cal F) (aCons f0 (aCons f1 (aCons f2 (aCons f3 aNil))))) ρ = some (d, ρ) := cal_p (aCons_pure h0 (aCons_pure h1 (aCons_pure h2 (aCons_pure h3 rfl)))) hF
theorem cal_p5 {f0 f1 f2 f3 f4 : DF} {a0 a1 a2 a3 a4 : D} {F : FF} {os : List O} (h0 : f0 ρ = some (a0, ρ)) (h1 : f1 ρ = some (a1, ρ)) (h2 : f2 ρ = some (a2, ρ)) (h3 : f3 ρ = some (a3, ρ)) (h4 : f4 ρ = some (a4, ρ)) (hF : F [.fz a0, .fz a1, .fz a2, .fz a3, .fz a4] = some (.fz d, os)) : toD (nA (cal F) (aCons f0 (aCons f1 (aCons f2 (aCons f3 (aCons f4 aNil)))))) ρ = some (d, ρ) := cal_p (aCons_pure h0 (aCons_pure h1 (aCons_pure h2 (aCons_pure h3 (aCons_pure h4 rfl))))) hF
theorem cal_p6 {f0 f1 f2 f3 f4 f5 : DF} {a0 a1 a2 a3 a4 a5 : D} {F : FF} {os : List O} (h0 : f0 ρ = some (a0, ρ)) (h1 : f1 ρ = some (a1, ρ)) (h2 : f2 ρ = some (a2, ρ)) (h3 : f3 ρ = some (a3, ρ)) (h4 : f4 ρ = some (a4, ρ)) (h5 : f5 ρ = some (a5, ρ)) (hF : F [.fz a0, .fz a1, .fz a2, .fz a3, .fz a4, .fz a5] = some (.fz d, os)) : toD (nA (cal F) (aCons f0 (aCons f1 (aCons f2 (aCons f3 (aCons f4 (aCons f5 aNil))))))) ρ = some (d, ρ) := cal_p (aCons_pure h0 (aCons_pure h1 (aCons_pure h2 (aCons_pure h3 (aCons_pure h4 (aCons_pure h5 rfl)))))) hF
theorem dC_eq (h : d = c) : dC d ρ = some (c, ρ) := by rw [h]; rfl
theorem ret_p (h : f ρ = some (d, ρ')) : sRet (toO f) ρ = some (.rt (.fz d), ρ') := by rw [ap_sRet, ap_toO, h]; rfl
theorem ret_s (h : f ρ = some (d, ρ)) : sSeq (sRet (toO f)) s ρ = some (.rt (.fz d), ρ) := by rw [ap_sSeq, ret_p h]; rfl
theorem ret_o {o : O} (h : fo ρ = some (o, ρ')) : sRet fo ρ = some (.rt o, ρ') := by rw [ap_sRet, h]; rfl
theorem fn_rt {P : List Nat} {z : Option (Out × Env')} {o : O} {os : List O} (h : z = some (.rt o, ρ')) (ho : outs ρ' P = some os) : fin P z = some (o, os) := by rw [h, fin_rt, ho]; rfl
theorem fn_q (h : f ρ = some (d, ρ')) : fin [] (sRet (toO f) ρ) = some (.fz d, []) := by rw [ret_p h]; rfl
theorem if_t (h : t ρ = some (true, ρ)) (k : s ρ = R) : sIf t s s' ρ = R := by rw [sIf_pure h, if_pos rfl, k]
theorem if_f (h : t ρ = some (false, ρ)) (k : s' ρ = R) : sIf t s s' ρ = R := by rw [sIf_pure h, if_neg (by decide), k]
theorem if_tS {r : SF} (h : t ρ = some (true, ρ)) (k : sSeq s r ρ = R) : sSeq (sIf t s s') r ρ = R := by rw [ap_sSeq, if_t h rfl, ← ap_sSeq, k]
theorem if_fS {r : SF} (h : t ρ = some (false, ρ)) (k : sSeq s' r ρ = R) : sSeq (sIf t s s') r ρ = R := by rw [ap_sSeq, if_f h rfl, ← ap_sSeq, k]
theorem if_fN {r : SF} (h : t ρ = some (false, ρ)) (k : r ρ = R) : sSeq (sIf t s sNil) r ρ = R := if_fS h (by rw [ap_sSeq]; exact k)
theorem q_asg {i : Nat} (e : f ρ = some (d, ρ)) (k : s (ρ.set i (some (.fz d))) = R) : sSeq (sAsg f (gN i)) s ρ = R := (st_asg e).trans k
theorem l_asg {i : Nat} (e : f ρ = some (d, ρ)) : sAsg f (gN i) ρ = some (.nx, ρ.set i (some (.fz d))) := by rw [ap_sAsg, e]; rfl
theorem q_asg2 {i j : Nat} (e : f ρ = some (.tup [a, b], ρ)) (k : s ((ρ.set i (some (.fz a))).set j (some (.fz b))) = R) : sSeq (sAsg f (gTu 2 (gsCons (gN i) (gsCons (gN j) gsNil)))) s ρ = R := (st_asg2 e).trans k
theorem q_set {i : Nat} {o : O} (e : fo ρ = some (o, ρ)) (k : s (ρ.set i (some o)) = R) : sSeq (sSetN i fo) s ρ = R := (st_set e).trans k
theorem q_nil {i : Nat} (k : s (ρ.set i (some (.lst []))) = R) : sSeq (sSetN i (nA gLst' aNil)) s ρ = R := q_set (by rfl) k
/-- [e for x in xs if p] -/
theorem lcP {α : Type} {n v : Nat} {it : IF} {t : BF} {e : DF} {w : Option O} (enc : α → D) (p : α → Bool) (r : α → D) {xs : List α} (hi : it ρ = some (xs.map enc, ρ)) (hl : xs.length ≤ 6000000) (hn : ρ.length = n) (ew : ρ[v]? = some w) (hk : Kp w)
    (ht : ∀ x ∈ xs, t (ρ.set v (some (.fz (enc x)))) = some (p x, ρ.set v (some (.fz (enc x))))) (he : ∀ x ∈ xs, p x = true → e (ρ.set v (some (.fz (enc x)))) = some (r x, ρ.set v (some (.fz (enc x))))) :
    toD (nLc n [v] it (gN v) t e) ρ = some (.lst ((xs.filter p).map r), ρ) := by
  have hv : v < ρ.length := (List.getElem?_eq_some_iff.mp ew).1
  have hw : wipeE ρ [v] = ρ.set v none := rfl
  have hu : ∀ z, unwipe ρ (ρ.set v z) [v] = ρ := fun z => by
    show (ρ.set v z).set v (keepD ρ[v]?) = ρ
    rw [List.set_set, ew]
    have : keepD (some w) = w := hk
    rw [this]
    refine List.ext_getElem? fun j => ?_
    by_cases q : v = j
    · subst q; rw [List.getElem?_set_self hv, ew]
    · rw [List.getElem?_set_ne q]
  refine toD_lst ?_
  rw [nLc_ap, hi]
  simp only [Option.bind_some]
  rw [if_pos (by rw [List.length_map]; unfold lim; omega), compL_map (n := n) (vs := [v]) (g := gN v) (t := t) (e := e) (xs := xs) enc p r hn fun x hx => ⟨ρ.set v (some (.fz (enc x))), ρ.set v (some (.fz (enc x))), by rw [ap_gN, hw, List.set_set], ht x hx, fun _ => hu _, fun q => ⟨_, he x hx q, hu _⟩⟩]
  rfl
theorem lcA {α : Type} {n v : Nat} {it : IF} {e : DF} {w : Option O} (enc : α → D) (r : α → D) {xs : List α} (hi : it ρ = some (xs.map enc, ρ)) (hl : xs.length ≤ 6000000) (hn : ρ.length = n) (ew : ρ[v]? = some w) (hk : Kp w)
    (he : ∀ x ∈ xs, e (ρ.set v (some (.fz (enc x)))) = some (r x, ρ.set v (some (.fz (enc x))))) :
    toD (nLc n [v] it (gN v) bYes e) ρ = some (.lst (xs.map r), ρ) := by
  rw [lcP (p := fun _ => true) enc r hi hl hn ew hk (fun _ _ => rfl) (fun x hx _ => he x hx)]
  rw [List.filter_eq_self.mpr fun _ _ => rfl]
theorem tuple_pure (h : f ρ = some (.lst ds, ρ)) : dA gTuple (aCons f aNil) ρ = some (.tup ds, ρ) := dA_pure (aOne_pure h) rfl
/-- tuple(x), x an own list -/
theorem tuple_own {i : Nat} {o : O} (h0 : ρ[i]? = some (some o)) (hf : o.freeze = .lst ds) : dA gTuple (aCons (dFz i) aNil) ρ = some (.tup ds, ρ.set i (some (.fz (.lst ds)))) := by
  rw [ap_dA, ap_aCons, ap_dFz, h0]
  simp only [Option.bind_some, ap_aNil, Option.map_some, hf, gTuple_lst]
theorem frz_map {α : Type} (enc : α → D) (xs : List α) : (O.lst (xs.map fun x => .fz (enc x))).freeze = .lst (xs.map enc) := by rw [fz_lst', freezes_fun]
theorem pair_own {i : Nat} {o : O} (h1 : f ρ = some (a, ρ)) (h0 : ρ[i]? = some (some o)) (hf : o.freeze = .lst ds) : dA gTup' (aCons f (aCons (dA gTuple (aCons (dFz i) aNil)) aNil)) ρ = some (.tup [a, .tup ds], ρ.set i (some (.fz (.lst ds)))) := by
  rw [ap_dA, ap_aCons, h1]
  simp only [Option.bind_some]
  rw [ap_aCons, tuple_own h0 hf]
  simp only [Option.bind_some, ap_aNil, Option.map_some, gTup2]
theorem rg1_map {ag : LF} {n : Nat} (e : ag ρ = some ([nD n], ρ)) (hn : n ≤ 1000000) : iRg gRg1 ag ρ = some ((List.range n).map nD, ρ) := by rw [rg_pure e hn, rgD_eq]
theorem zip_pure {xs ys : List D} (h1 : f ρ = some (.tup xs, ρ)) (h2 : g ρ = some (.tup ys, ρ)) : iZip f g ρ = some (zipD xs ys, ρ) := by
  rw [ap_iZip, h1]; simp only [Option.bind_some]; rw [h2]; rfl
end
/-! ### what operations tell, by places that are there -/
theorem o_tpR {r : List Nat} {k : Nat} (h : k < r.length) : gIx (tpR r) (nD k) = some (nD (r.getD k 0)) := tpR_ix (row_getD h)
theorem o_rowL {r : List Nat} {k : Nat} (h : k < r.length) : gIx (rowL r) (nD k) = some (nD (r.getD k 0)) := rowL_ix (row_getD h)
theorem o_tpD {ms : List (List Nat)} {k : Nat} (h : k < ms.length) : gIx (tpD ms) (nD k) = some (tpR (ms.getD k [])) := tpD_ix (getD_at h)
theorem o_mkD {ms : List (List Nat)} {k : Nat} (h : k < ms.length) : gIx (mkD ms) (nD k) = some (rowL (ms.getD k [])) := mkD_ix (getD_at h)
theorem o_w0 {L : List Nat} {as : List (List Nat)} : gIx (worldD L as) (.int 0) = some (tpR L) := by unfold worldD; simp
theorem o_w1 {L : List Nat} {as : List (List Nat)} : gIx (worldD L as) (.int 1) = some (tpD as) := by unfold worldD; simp
theorem o_p0 {K : Nat} {cs : List Fn} : gIx (patD K cs) (.int 0) = some (nD K) := by unfold patD; simp
theorem o_p1 {K : Nat} {cs : List Fn} : gIx (patD K cs) (.int 1) = some (endsD cs) := by unfold patD; simp
theorem o_p2 {K : Nat} {cs : List Fn} : gIx (patD K cs) (.int 2) = some (tbD (tabT cs cs.length)) := by unfold patD; simp
/-- where a doing begins and ends -/
def dA_ (cs : List Fn) (k : Nat) : Nat := (cs.getD k ⟨0, 0, []⟩).a
def dB_ (cs : List Fn) (k : Nat) : Nat := (cs.getD k ⟨0, 0, []⟩).b
theorem dA_of {cs : List Fn} {k : Nat} {t : Fn} (h : cs[k]? = some t) : dA_ cs k = t.a := by unfold dA_; rw [getD_of h]
theorem dB_of {cs : List Fn} {k : Nat} {t : Fn} (h : cs[k]? = some t) : dB_ cs k = t.b := by unfold dB_; rw [getD_of h]
theorem o_ends {cs : List Fn} {k : Nat} (h : k < cs.length) : gIx (endsD cs) (nD k) = some (.tup [nD (dA_ cs k), nD (dB_ cs k)]) := by
  have ht : cs[k]? = some cs[k] := List.getElem?_eq_getElem h
  rw [ends_get ht, dA_of ht, dB_of ht]
theorem o_t0 {a : D} {l : List D} : gIx (.tup (a :: l)) (.int 0) = some a := by simp
theorem o_t1 {a b : D} {l : List D} : gIx (.tup (a :: b :: l)) (.int 1) = some b := by simp
theorem o_t2 {a b c : D} {l : List D} : gIx (.tup (a :: b :: c :: l)) (.int 2) = some c := by simp
theorem o_l0 {a : D} {l : List D} : gIx (.lst (a :: l)) (.int 0) = some a := by simp
theorem o_l1 {a b : D} {l : List D} : gIx (.lst (a :: b :: l)) (.int 1) = some b := by simp
theorem o_lenR {r : List Nat} : gLen [tpR r] = some (nD r.length) := by rw [gLen_tup, List.length_map]
theorem o_lenL {r : List Nat} : gLen [rowL r] = some (nD r.length) := by rw [gLen_lst, List.length_map]
theorem o_lenD {r : List (List Nat)} : gLen [tpD r] = some (nD r.length) := by rw [gLen_tup, List.length_map]
theorem o_lenK {r : List (List Nat)} : gLen [mkD r] = some (nD r.length) := by rw [gLen_lst, List.length_map]
theorem o_lenE {cs : List Fn} : gLen [endsD cs] = some (nD cs.length) := by unfold endsD; rw [gLen_tup, List.length_map]
theorem o_tup1 (a : D) : gTup' [a] = some (.tup [a]) := if_pos (show 1 ≤ lim from by decide)
theorem o_add (a b : Nat) : gAdd (nD a) (nD b) = some (nD (a + b)) := by show some (D.int _) = some (D.int _); congr
theorem o_lt (a b : Nat) : gLt (nD a) (nD b) = some (.bl (decide (a < b))) := by
  show some (D.bl _) = some (D.bl _)
  congr 2
  by_cases h : a < b
  · rw [decide_eq_true h, decide_eq_true (by omega)]
  · rw [decide_eq_false h, decide_eq_false (by omega)]
theorem gNe_rows (a b : List Nat) : gNe (tpR a) (tpR b) = some (.bl (!decide (a = b))) := row_ne a b
theorem tpR_inj {a b : List Nat} : tpR a = tpR b ↔ a = b := ⟨fun h => map_nD_inj (D.tup.inj h), fun h => by rw [h]⟩
theorem tpD_inj {a b : List (List Nat)} : tpD a = tpD b ↔ a = b := ⟨fun h => List.map_inj_right (fun _ _ h => tpR_inj.mp h) |>.mp (D.tup.inj h), fun h => by rw [h]⟩
theorem worldD_inj {L M : List Nat} {as bs : List (List Nat)} : worldD L as = worldD M bs ↔ L = M ∧ as = bs := by
  unfold worldD
  constructor
  · intro h
    have h1 := D.tup.inj h
    simp only [List.cons.injEq, and_true] at h1
    exact ⟨tpR_inj.mp h1.1, tpD_inj.mp h1.2⟩
  · rintro ⟨rfl, rfl⟩; rfl
theorem worldD_pl (L : List Nat) (as : List (List Nat)) : plN 3 (worldD L as) := by
  refine plN_tup fun d hd => ?_
  simp only [List.mem_cons, List.not_mem_nil, or_false] at hd
  rcases hd with rfl | rfl
  · exact plN_row _ _
  · exact tpD_pl as
theorem ne_world {L M : List Nat} {as bs : List (List Nat)} : gNe (worldD L as) (worldD M bs) = some (.bl (!decide (L = M ∧ as = bs))) := by
  rw [gNe_pl (worldD_pl _ _) (worldD_pl _ _)]
  congr 3
  exact decide_eq_decide.mpr worldD_inj
theorem eq_tpD {a b : List (List Nat)} : gEq (tpD a) (tpD b) = some (.bl (decide (a = b))) := by
  rw [gEq_pl (tpD_pl _) (tpD_pl _)]
  congr 2
  exact decide_eq_decide.mpr tpD_inj
theorem ne_tpD {a b : List (List Nat)} : gNe (tpD a) (tpD b) = some (.bl (!decide (a = b))) := by
  rw [gNe_pl (tpD_pl _) (tpD_pl _)]
  congr 3
  exact decide_eq_decide.mpr tpD_inj
/-! ### loops over numbers -/
/-! ### zips as numbers -/
theorem getD_set {α : Type} {r : List α} {a b : Nat} {v d : α} : (r.set a v).getD b d = if a = b ∧ a < r.length then v else r.getD b d := by
  rw [List.getD_eq_getElem?_getD, List.getElem?_set, List.getD_eq_getElem?_getD]
  by_cases e : a = b
  · subst e
    by_cases h : a < r.length
    · simp [h]
    · simp [h]
  · simp [e]
theorem getD_map {α β : Type} {f : α → β} {r : List α} {k : Nat} {d : β} {d' : α} (h : k < r.length) : (r.map f).getD k d = f (r.getD k d') := by
  rw [List.getD_eq_getElem?_getD, List.getElem?_map, List.getD_eq_getElem?_getD, List.getElem?_eq_getElem h]
  rfl
theorem getD_rg {α : Type} {f : Nat → α} {n k : Nat} {d : α} (h : k < n) : ((List.range n).map f).getD k d = f k := by
  rw [getD_map (d' := 0) (by rw [List.length_range]; exact h), rangeD h]
theorem enum_ix : ∀ (xs : List D) (n : Nat), enumD n xs = (List.range xs.length).map fun k => D.tup [nD (n + k), xs.getD k .non]
  | [], _ => rfl
  | x :: xs, n => by
    rw [enumD, enum_ix xs (n + 1), List.length_cons, List.range_succ_eq_map, List.map_cons, List.map_map]
    congr 1
    refine List.map_congr_left fun k _ => ?_
    show D.tup [nD (n + 1 + k), _] = D.tup [nD (n + (k + 1)), _]
    rw [Nat.add_right_comm]
    rfl
theorem ext_row {a b : List Nat} (hl : a.length = b.length) (h : ∀ k, k < a.length → a.getD k 0 = b.getD k 0) : a = b := by
  refine List.ext_getElem hl fun k h1 h2 => ?_
  have := h k h1
  rw [List.getD_eq_getElem?_getD, List.getD_eq_getElem?_getD, List.getElem?_eq_getElem h1, List.getElem?_eq_getElem h2] at this
  exact this
/-! ### what a body comes to -/
def Wp (b : SF) (ρ : Env') (Q : Out → Env' → Prop) : Prop := ∃ o ρ', b ρ = some (o, ρ') ∧ Q o ρ'
section
variable {f g h : DF} {ρ ρ' : Env'} {t : BF} {s s' r b : SF} {x : Bool} {d c : D} {fo : OF} {Q Q' : Out → Env' → Prop} {i j : Nat}
theorem Wp.imp (h : Wp b ρ Q) (k : ∀ o ρ', Q o ρ' → Q' o ρ') : Wp b ρ Q' := by
  obtain ⟨o, ρ', e, q⟩ := h
  exact ⟨o, ρ', e, k _ _ q⟩
theorem wp_asg (e : f ρ = some (d, ρ)) (k : Wp s (ρ.set i (some (.fz d))) Q) : Wp (sSeq (sAsg f (gN i)) s) ρ Q := by
  obtain ⟨o, ρ', e2, q⟩ := k
  exact ⟨o, ρ', (st_asg e).trans e2, q⟩
theorem wp_asg' (e : f ρ = some (d, ρ')) (k : Wp s (ρ'.set i (some (.fz d))) Q) : Wp (sSeq (sAsg f (gN i)) s) ρ Q := by
  obtain ⟨o, ρ', e2, q⟩ := k
  exact ⟨o, ρ', (st_asg' e).trans e2, q⟩
theorem wp_asgE (e : f ρ = some (d, ρ)) (k : Q .nx (ρ.set i (some (.fz d)))) : Wp (sAsg f (gN i)) ρ Q := ⟨_, _, l_asg e, k⟩
theorem wp_asg2 (e : f ρ = some (.tup [d, c], ρ)) (k : Wp s ((ρ.set i (some (.fz d))).set j (some (.fz c))) Q) : Wp (sSeq (sAsg f (gTu 2 (gsCons (gN i) (gsCons (gN j) gsNil)))) s) ρ Q := by
  obtain ⟨o, ρ', e2, q⟩ := k
  exact ⟨o, ρ', (st_asg2 e).trans e2, q⟩
theorem wp_set {o : O} (e : fo ρ = some (o, ρ)) (k : Wp s (ρ.set i (some o)) Q) : Wp (sSeq (sSetN i fo) s) ρ Q := by
  obtain ⟨o, ρ', e2, q⟩ := k
  exact ⟨o, ρ', (st_set e).trans e2, q⟩
theorem wp_nil (k : Wp s (ρ.set i (some (.lst []))) Q) : Wp (sSeq (sSetN i (nA gLst' aNil)) s) ρ Q := wp_set (by rfl) k
theorem wp_run (e : b ρ = some (.nx, ρ')) (k : Wp s ρ' Q) : Wp (sSeq b s) ρ Q := by
  obtain ⟨o, ρ', e2, q⟩ := k
  exact ⟨o, ρ', (st_run e).trans e2, q⟩
theorem wp_nx (e : b ρ = some (.nx, ρ')) (k : Q .nx ρ') : Wp b ρ Q := ⟨_, _, e, k⟩
theorem wp_seq (h : Wp b ρ fun o ρ' => (o = .nx ∧ Wp s ρ' Q) ∨ (∃ z, o = .rt z) ∧ Q o ρ') : Wp (sSeq b s) ρ Q := by
  obtain ⟨o, ρ', e, ⟨rfl, k⟩ | ⟨⟨z, rfl⟩, k⟩⟩ := h
  · exact wp_run e k
  · exact ⟨_, _, by rw [ap_sSeq, e]; rfl, k⟩
theorem wp_ret (e : f ρ = some (d, ρ')) (k : Q (.rt (.fz d)) ρ') : Wp (sRet (toO f)) ρ Q := ⟨_, _, ret_p e, k⟩
theorem wp_retS (e : f ρ = some (d, ρ)) (k : Q (.rt (.fz d)) ρ) : Wp (sSeq (sRet (toO f)) s) ρ Q := ⟨_, _, ret_s e, k⟩
theorem wp_retO {o : O} (e : fo ρ = some (o, ρ')) (k : Q (.rt o) ρ') : Wp (sRet fo) ρ Q := ⟨_, _, ret_o e, k⟩
theorem wp_if (e : t ρ = some (x, ρ)) (h1 : x = true → Wp s ρ Q) (h2 : x = false → Wp s' ρ Q) : Wp (sIf t s s') ρ Q := by
  cases x
  · obtain ⟨o, ρ', e2, q⟩ := h2 rfl
    exact ⟨o, ρ', if_f e e2, q⟩
  · obtain ⟨o, ρ', e2, q⟩ := h1 rfl
    exact ⟨o, ρ', if_t e e2, q⟩
theorem wp_ifS (e : t ρ = some (x, ρ)) (h1 : x = true → Wp (sSeq s r) ρ Q) (h2 : x = false → Wp (sSeq s' r) ρ Q) : Wp (sSeq (sIf t s s') r) ρ Q := by
  cases x
  · obtain ⟨o, ρ', e2, q⟩ := h2 rfl
    exact ⟨o, ρ', if_fS e e2, q⟩
  · obtain ⟨o, ρ', e2, q⟩ := h1 rfl
    exact ⟨o, ρ', if_tS e e2, q⟩
theorem wp_sNil (k : Q .nx ρ) : Wp sNil ρ Q := ⟨_, _, rfl, k⟩
theorem wp_sNilS (k : Wp s ρ Q) : Wp (sSeq sNil s) ρ Q := by
  obtain ⟨o, ρ', e2, q⟩ := k
  exact ⟨o, ρ', by rw [ap_sSeq]; exact e2, q⟩
theorem wp_ifN (e : t ρ = some (x, ρ)) (h1 : x = true → Wp (sSeq s r) ρ Q) (h2 : x = false → Wp r ρ Q) : Wp (sSeq (sIf t s sNil) r) ρ Q := wp_ifS e h1 fun q => wp_sNilS (h2 q)
/-- a test that fails, nothing else -/
theorem wp_no (e : t ρ = some (false, ρ)) (k : Wp r ρ Q) : Wp (sSeq (sIf t s sNil) r) ρ Q := wp_ifN e (fun q => by cases q) fun _ => k
theorem wp_noE (e : t ρ = some (false, ρ)) (k : Q .nx ρ) : Wp (sIf t s sNil) ρ Q := wp_if e (fun q => by cases q) fun _ => wp_sNil k
/-- a loop -/
theorem wp_forE {α : Type} {k : GF} {it : IF} {enc : α → D} {xs : List α} (I : Nat → Env' → Prop) (e : it ρ = some (xs.map enc, ρ')) (h0 : I 0 ρ')
    (hs : ∀ (i : Nat) (x : α) (ρ : Env'), xs[i]? = some x → I i ρ → ∃ ρ1, k (enc x) ρ = some ρ1 ∧ Wp b ρ1 fun o ρ' => (o = .nx ∧ I (i + 1) ρ') ∨ (∃ z, o = .rt z) ∧ Q o ρ')
    (kk : ∀ ρ, I xs.length ρ → Q .nx ρ) : Wp (sFor it k b) ρ Q := by
  rcases forL_or (g := k) (b := b) (ds := xs.map enc) (ρ := ρ') I (fun z ρ => Q (.rt z) ρ) h0 (fun i d ρ hd hI => by
    rw [List.getElem?_map] at hd
    cases q : xs[i]? with
    | none => rw [q] at hd; cases hd
    | some x =>
      rw [q] at hd; cases hd
      obtain ⟨ρ1, e1, o, ρ2, e2, ⟨rfl, hI2⟩ | ⟨⟨z, rfl⟩, hQ⟩⟩ := hs i x ρ q hI
      · exact ⟨ρ1, e1, .inl ⟨ρ2, e2, hI2⟩⟩
      · exact ⟨ρ1, e1, .inr ⟨z, ρ2, e2, hQ⟩⟩) with ⟨ρ2, e2, hI⟩ | ⟨z, ρ2, e2, hQ⟩
  · rw [List.length_map] at hI
    exact ⟨.nx, ρ2, by rw [sFor_ap, e]; exact e2, kk _ hI⟩
  · exact ⟨.rt z, ρ2, by rw [sFor_ap, e]; exact e2, hQ⟩
theorem wp_for {α : Type} {k : GF} {it : IF} {enc : α → D} {xs : List α} (I : Nat → Env' → Prop) (e : it ρ = some (xs.map enc, ρ')) (h0 : I 0 ρ')
    (hs : ∀ (i : Nat) (x : α) (ρ : Env'), xs[i]? = some x → I i ρ → ∃ ρ1, k (enc x) ρ = some ρ1 ∧ Wp b ρ1 fun o ρ' => (o = .nx ∧ I (i + 1) ρ') ∨ (∃ z, o = .rt z) ∧ Q o ρ')
    (kk : ∀ ρ, I xs.length ρ → Wp s ρ Q) : Wp (sSeq (sFor it k b) s) ρ Q := wp_seq (wp_forE I e h0 (fun i x ρ hx hI => by
    obtain ⟨ρ1, e1, h⟩ := hs i x ρ hx hI
    refine ⟨ρ1, e1, h.imp fun o ρ' q => ?_⟩
    rcases q with q | ⟨q1, q2⟩
    · exact .inl q
    · exact .inr ⟨q1, .inr ⟨q1, q2⟩⟩) fun ρ hI => .inl ⟨rfl, kk ρ hI⟩)
/-- a loop over the numbers below n, that tells nothing -/
theorem wp_rg {k : GF} {it : IF} {enc : Nat → D} {n : Nat} (I : Nat → Env' → Prop) (e : it ρ = some ((List.range n).map enc, ρ')) (h0 : I 0 ρ')
    (hs : ∀ (i : Nat) (ρ : Env'), i < n → I i ρ → ∃ ρ1, k (enc i) ρ = some ρ1 ∧ Wp b ρ1 fun o ρ' => o = .nx ∧ I (i + 1) ρ')
    (kk : ∀ ρ, I n ρ → Wp s ρ Q) : Wp (sSeq (sFor it k b) s) ρ Q := wp_for I e h0 (fun i x ρ hx hI => by
    have hi : i < n := by have := (List.getElem?_eq_some_iff.mp hx).1; rwa [List.length_range] at this
    rw [List.getElem?_range hi] at hx
    cases hx
    obtain ⟨ρ1, e1, h⟩ := hs i ρ hi hI
    exact ⟨ρ1, e1, h.imp fun o ρ' q => .inl q⟩) (by rw [List.length_range]; exact kk)
/-- over any list, that tells nothing -/
theorem wp_xs {α : Type} {k : GF} {it : IF} {enc : α → D} {xs : List α} (I : Nat → Env' → Prop) (e : it ρ = some (xs.map enc, ρ')) (h0 : I 0 ρ')
    (hs : ∀ (i : Nat) (x : α) (ρ : Env'), xs[i]? = some x → I i ρ → ∃ ρ1, k (enc x) ρ = some ρ1 ∧ Wp b ρ1 fun o ρ' => o = .nx ∧ I (i + 1) ρ')
    (kk : ∀ ρ, I xs.length ρ → Wp s ρ Q) : Wp (sSeq (sFor it k b) s) ρ Q := wp_for I e h0 (fun i x ρ hx hI => by
    obtain ⟨ρ1, e1, h⟩ := hs i x ρ hx hI
    exact ⟨ρ1, e1, h.imp fun o ρ' q => .inl q⟩) kk
/-- a function that tells o -/
theorem fn_wp {P : List Nat} {o : O} {os : List O} (h : Wp b ρ fun z ρ' => z = .rt o ∧ outs ρ' P = some os) : fin P (b ρ) = some (o, os) := by
  obtain ⟨z, ρ', e, rfl, ho⟩ := h
  exact fn_rt e ho
end
end VL
-- MAC
local macro_rules | `(tactic| walk_at "bd") => `(tactic| first | assumption | omega)
local macro_rules | `(tactic| walk_at "op") => `(tactic| with_reducible first
  | assumption | exact VL.eq_nat _ _ | exact VL.ne_nat _ _ | exact VL.o_lt _ _ | exact VL.o_w0 | exact VL.o_w1 | exact VL.o_p0 | exact VL.o_p1 | exact VL.o_p2
  | exact VL.o_t0 | exact VL.o_t1 | exact VL.o_t2 | exact VL.o_l0 | exact VL.o_l1 | exact VL.o_lenR | exact VL.o_lenL | exact VL.o_lenD | exact VL.o_lenK | exact VL.o_lenE
  | exact VL.o_add _ _ | exact VL.gTup2 _ _ | exact VL.gTup3 _ _ _ | exact VL.o_tup1 _
  | exact VL.o_tpR (by walk_at "bd") | exact VL.o_tpD (by walk_at "bd") | exact VL.o_rowL (by walk_at "bd") | exact VL.o_mkD (by walk_at "bd") | exact VL.o_ends (by walk_at "bd")
  | exact VL.gEq_int _ _ | exact VL.gNe_int _ _ | exact VL.ne_world | exact VL.eq_tpD | exact VL.ne_tpD | exact VL.gNe_rows _ _ | exact VL.gTuple_lst _ | exact VL.gTuple_tup _)
local macro_rules | `(tactic| walk_at "pv") => `(tactic| repeat' (first
  | ((with_reducible apply VL.var_at); exact rfl) | with_reducible exact VL.dC_pure | ((with_reducible apply VL.dC_eq); exact rfl) | with_reducible exact VL.aNil_pure | with_reducible exact VL.bYes_pure | with_reducible exact VL.nil_pure | with_reducible exact VL.tup0_pure
  | with_reducible apply VL.lst1_pure | with_reducible apply VL.lst2_pure
  | with_reducible apply VL.d2_pure | with_reducible apply VL.aCons_pure | with_reducible apply VL.cal_p1 | with_reducible apply VL.cal_p2 | with_reducible apply VL.cal_p3 | with_reducible apply VL.cal_p4 | with_reducible apply VL.cal_p5 | with_reducible apply VL.cal_p6 | with_reducible apply VL.meth_p0 | with_reducible apply VL.meth_p1 | with_reducible apply VL.meth_p2 | with_reducible apply VL.meth_p3 | with_reducible apply VL.bD_pure
  | with_reducible apply VL.bNot_pure | with_reducible apply VL.bAnd_pure | with_reducible apply VL.bOr_pure | with_reducible apply VL.dAnd_pure | with_reducible apply VL.dOr_pure | with_reducible apply VL.dNot_pure
  | with_reducible exact VL.lk_doings | with_reducible exact VL.lk_kinds | with_reducible exact VL.lk_ways | with_reducible exact VL.lk_end | with_reducible exact VL.lk_behind | with_reducible exact VL.doings_ok | with_reducible exact VL.kinds_ok
  | ((with_reducible apply VL.ixv_pure); exact rfl) | with_reducible apply VL.dA_pure | walk_at "op"))
local macro_rules | `(tactic| walk_at "sets") => `(tactic| simp only [List.set_cons_succ, List.set_cons_zero])
local macro_rules | `(tactic| walk_at "st") => `(tactic| first
  | ((with_reducible apply VL.q_asg); (focus (walk_at "pv"; done)); walk_at "sets") | ((with_reducible apply VL.q_asg2); (focus (walk_at "pv"; done)); walk_at "sets") | ((with_reducible apply VL.q_nil); walk_at "sets")
  | ((with_reducible apply VL.l_asg); (focus (walk_at "pv"; done))) | ((with_reducible apply VL.fn_q); (focus (walk_at "pv"; done))) | ((with_reducible apply VL.ret_p); (focus (walk_at "pv"; done))) | ((with_reducible apply VL.ret_s); (focus (walk_at "pv"; done)))
  | ((with_reducible apply VL.if_fN); (focus (walk_at "pv"; done))))
local macro_rules | `(tactic| walk_at "w") => `(tactic| first
  | ((with_reducible apply VL.wp_asg); (focus (walk_at "pv"; done)); walk_at "sets") | ((with_reducible apply VL.wp_asg2); (focus (walk_at "pv"; done)); walk_at "sets") | ((with_reducible apply VL.wp_nil); walk_at "sets")
  | ((with_reducible apply VL.wp_asgE); (focus (walk_at "pv"; done)); walk_at "sets") | ((with_reducible apply VL.wp_ret); (focus (walk_at "pv"; done))) | ((with_reducible apply VL.wp_retS); (focus (walk_at "pv"; done)))
  | with_reducible apply VL.wp_sNil | with_reducible apply VL.wp_sNilS)
-- END MAC
set_option Elab.async false
set_option linter.all false
set_option maxRecDepth 100000
set_option maxHeartbeats 4000000
namespace VL
open PySem L2
/-! ### orders, drawn -/
/-- a row known to its object -/
abbrev tzR (r : List Nat) : D := .tz (r.map nD)
abbrev tzO (rs : List (List Nat)) : O := .lst (rs.map fun r => .fz (tzR r))
abbrev tzD (rs : List (List Nat)) : D := .tup (rs.map tzR)
theorem gTupleZ_lst (ds : List D) : gTupleZ [.lst ds] = some (.tz ds) := rfl
structure Ords (L : List Nat) (os : List (List Nat)) : Prop where
  len : os.length = L.length
  perm : ∀ (e n : Nat), L[e]? = some n → ∃ p, os[e]? = some p ∧ p.Perm (List.range n)

theorem erase_map {α β : Type} (f : α → β) : ∀ (xs : List α) (j : Nat), (xs.eraseIdx j).map f = (xs.map f).eraseIdx j
  | [], _ => rfl
  | _ :: _, 0 => rfl
  | x :: xs, j + 1 => by rw [List.eraseIdx_cons_succ, List.map_cons, List.map_cons, List.eraseIdx_cons_succ, erase_map f xs j]
theorem get_erase_perm : ∀ (l : List Nat) (r : Nat) (h : r < l.length), (l[r] :: l.eraseIdx r).Perm l
  | _ :: _, 0, _ => .refl _
  | x :: xs, r + 1, h => ((List.Perm.swap x _ _).trans (List.Perm.cons x (get_erase_perm xs r (by simpa using h))))
theorem popAt_ok {ls : List Nat} {r : Nat} (h : r < ls.length) (hb : ls.length ≤ 1000) : mPopAt ((ls.map nD).map .fz) [nD r] = some (nD (ls[r]), ((ls.eraseIdx r).map nD).map .fz) := by
  unfold mPopAt
  simp only [datas_fz, Option.bind_some]
  rw [if_pos (by unfold big; omega)]
  have : seqIndex? (r : Int) (ls.map nD).length = some r := by
    unfold seqIndex?
    rw [List.length_map]
    simp
    omega
  rw [this]
  simp only [Option.bind_some]
  rw [List.getElem?_map, List.getElem?_eq_getElem h]
  simp only [Option.map_some]
  congr 2
  rw [erase_map nD, erase_map O.fz]
theorem orders_1 {n : Nat} {o : O} {v1 v2 : Option O} (ho : StOk o) (hn : n ≤ 1000) :
    ∃ (o' : O) (p : List Nat) (v4 : Option O), compL 6 [5] (gN 5) bYes e__law_orders_1 (rgD 0 n) [some o, v1, v2, some (.fz (nD n)), some (.lst ((rgD 0 n).map .fz)), none] = some (p.map nD, [some o', v1, v2, some (.fz (nD n)), v4, none]) ∧ StOk o' ∧ p.Perm (List.range n) := by
  obtain ⟨all, ρ', e, o', ps, ls, rfl, hall, ho', hp, hl⟩ := compL_inv (n := 6) (vs := [5]) (g := gN 5) (t := bYes) (e := e__law_orders_1) (ds := rgD 0 n) (ρ := [some o, v1, v2, some (.fz (nD n)), some (.lst ((rgD 0 n).map .fz)), none])
    (fun i ρ acc => ∃ o' ps ls, ρ = [some o', v1, v2, some (.fz (nD n)), some (.lst ((ls.map nD).map .fz)), none] ∧ acc = ps.map nD ∧ StOk o' ∧ (ps ++ ls).Perm (List.range n) ∧ ls.length + i = n)
    ⟨o, [], List.range n, by rw [rgD_eq], rfl, ho, .refl _, by rw [List.length_range]; rfl⟩ (by
      rintro i d ρ acc hd ⟨o1, ps, ls, rfl, rfl, ho1, hp, hl⟩
      obtain ⟨hi, rfl⟩ := rgD_get hd
      obtain ⟨r, o2, hr, ho2, et⟩ := take_d (ρ := [some o1, v1, v2, some (.fz (nD n)), some (.lst ((ls.map nD).map .fz)), some (.fz (nD i))]) (f := dLenV 4) (m := (ls.length : Nat)) rfl ho1 (by rw [ap_dLenV]; simp) (by omega) (by omega)
      have hr' : r < ls.length := by omega
      have ep : e__law_orders_1 [some o1, v1, v2, some (.fz (nD n)), some (.lst ((ls.map nD).map .fz)), some (.fz (nD i))] = some (nD ls[r], [some o2, v1, v2, some (.fz (nD n)), some (.lst (((ls.eraseIdx r).map nD).map .fz)), some (.fz (nD i))]) := by
        unfold e__law_orders_1
        rw [ap_dMet]
        simp only [List.getElem?_cons_succ, List.getElem?_cons_zero]
        rw [ap_aCons, et]
        simp only [Option.bind_some, ap_aNil, Option.map_some, List.set_cons_zero, List.getElem?_cons_succ, List.getElem?_cons_zero, popAt_ok hr' (by omega)]
        rfl
      refine ⟨rfl, _, _, _, _, rfl, rfl, ep, o2, ps ++ [ls[r]], ls.eraseIdx r, rfl, ?_, ho2, ?_, ?_⟩
      · rw [List.map_append]; rfl
      · refine List.Perm.trans ?_ hp
        rw [List.append_assoc]
        exact List.Perm.append_left ps (get_erase_perm ls r hr')
      · rw [List.length_eraseIdx, if_pos hr']; omega)
  rw [rgD_len] at hl
  have hnil : ls = [] := List.length_eq_zero_iff.mp (by omega)
  subst hnil
  rw [List.append_nil] at hp
  rw [hall] at e
  exact ⟨o', ps, _, e, ho', hp⟩
end VL
set_option Elab.async false
set_option linter.all false
set_option maxRecDepth 100000
set_option maxHeartbeats 4000000
namespace VL
open PySem L2
/-! ### worlds renumbered -/
section
variable {sz : Nat → Nat} {cs : List Fn} {K : Nat} {L : List Nat} {as os : List (List Nat)} {p q ra : List Nat} {n : Nat}
def wrow (p q ra : List Nat) : List Nat := (List.range ra.length).map fun y => q.getD (ra.getD (p.idxOf y) 0) 0
def renA (cs : List Fn) (as os : List (List Nat)) : List (List Nat) := (List.range cs.length).map fun k => wrow (os.getD (dA_ cs k) []) (os.getD (dB_ cs k) []) (as.getD k [])
theorem perm_in (hp : p.Perm (List.range n)) {x : Nat} : x ∈ p ↔ x < n := by rw [hp.mem_iff, List.mem_range]
theorem perm_len (hp : p.Perm (List.range n)) : p.length = n := by rw [hp.length_eq, List.length_range]
theorem perm_nd (hp : p.Perm (List.range n)) : p.Nodup := hp.symm.nodup List.nodup_range
theorem perm_lt (hp : p.Perm (List.range n)) {x : Nat} (hx : x < n) : p.getD x 0 < n := (perm_in hp).mp (by
  rw [List.getD_eq_getElem?_getD, List.getElem?_eq_getElem (by rw [perm_len hp]; exact hx)]
  exact List.getElem_mem _)
theorem perm_at (hp : p.Perm (List.range n)) {x : Nat} (hx : x < n) : p[x]? = some (p.getD x 0) := row_getD (by rw [perm_len hp]; exact hx)
theorem perm_idx (hp : p.Perm (List.range n)) {y : Nat} (hy : y < n) : p.idxOf y < n ∧ p.getD (p.idxOf y) 0 = y := by
  have hm := (perm_in hp).mpr hy
  refine ⟨by rw [← perm_len hp]; exact List.idxOf_lt_length_of_mem hm, getD_of (idx_at hm)⟩
theorem perm_of (hp : p.Perm (List.range n)) {x : Nat} (hx : x < n) : p.idxOf (p.getD x 0) = x := idx_of_at (perm_nd hp) (perm_at hp hx)
theorem perm_inj (hp : p.Perm (List.range n)) {x y : Nat} (hx : x < n) (hy : y < n) (h : p.getD x 0 = p.getD y 0) : x = y := by
  rw [← perm_of hp hx, h, perm_of hp hy]
theorem Ords.at_ (OR : Ords L os) {e n : Nat} (h : L[e]? = some n) : (os.getD e []).Perm (List.range n) := by
  obtain ⟨p, h1, h2⟩ := OR.perm e n h
  rw [getD_of h1]; exact h2
/-- a doing's rows -/
theorem Wd.dk (W : Wd cs K L as) {k : Nat} (hk : k < cs.length) : ∃ n m, L[dA_ cs k]? = some n ∧ L[dB_ cs k]? = some m ∧ (as.getD k []).length = n ∧ (∀ x, x < n → (as.getD k []).getD x 0 < m) ∧ n ≤ 7 ∧ m ≤ 7 ∧ dA_ cs k < K ∧ dB_ cs k < K := by
  have ht : cs[k]? = some cs[k] := List.getElem?_eq_getElem hk
  obtain ⟨ra, la, lb, h1, h2, h3, h4, h5⟩ := W.act k _ ht
  rw [dA_of ht, dB_of ht, getD_of h1]
  refine ⟨la, lb, h2, h3, h4, fun x hx => h5 _ ?_, W.few _ (List.mem_of_getElem? h2), W.few _ (List.mem_of_getElem? h3), by rw [← W.k]; exact (List.getElem?_eq_some_iff.mp h2).1, by rw [← W.k]; exact (List.getElem?_eq_some_iff.mp h3).1⟩
  rw [List.getD_eq_getElem?_getD, List.getElem?_eq_getElem (by omega)]
  exact List.getElem_mem _
theorem rwO_set {r : List Nat} {k v : Nat} (h : k < r.length) : setO (rwO r) (nD k) (nD v) = some (rwO (r.set k v)) := by
  unfold rwO
  rw [setO_lst, List.length_map, ixN_nat h, Option.map_some, List.map_set]
theorem gRep_ap (xs : List D) (k : Int) : gRep (.lst xs) (.int k) = if -(2 ^ 63) ≤ k ∧ k < 2 ^ 63 ∧ xs.length * k.toNat ≤ lim then some (.lst ((List.replicate k.toNat xs).flatten.map .fz)) else none := rfl
theorem gRep_on (k : Int) (xs : List D) (h : -(2 ^ 63 : Int) ≤ k) (h2 : k < 2 ^ 63) (hl : xs.length * k.toNat ≤ lim) : gRep (.lst xs) (.int k) = some (.lst ((List.replicate k.toNat xs).flatten.map .fz)) := by
  rw [gRep_ap, if_pos ⟨h, h2, hl⟩]
theorem gRep_0 (n : Nat) (hn : n ≤ 1000) : gRep (.lst [.int 0]) (.int (n : Int)) = some (rwO (List.replicate n 0)) := by
  have := gRep_on (n : Int) [.int 0] (by omega) (by omega) (by rw [Int.toNat_natCast, List.length_singleton]; unfold lim; omega)
  rw [Int.toNat_natCast] at this
  rw [this]
  have er : ∀ n : Nat, (List.replicate n [D.int 0]).flatten.map O.fz = (List.replicate n 0).map fun x : Nat => O.fz (nD x) := fun n => by
    induction n with
    | zero => rfl
    | succ n ih => rw [List.replicate_succ, List.flatten_cons, List.map_append, ih, List.replicate_succ]; rfl
  rw [er]
theorem rep_pure {f : DF} {ρ : Env'} {n : Nat} (h : f ρ = some (nD n, ρ)) (hn : n ≤ 1000) : n2 gRep (toD (nA gLst' (aCons (dC (.int 0)) aNil))) f ρ = some (rwO (List.replicate n 0), ρ) := by
  have e : toD (nA gLst' (aCons (dC (.int 0)) aNil)) ρ = some (.lst [.int 0], ρ) := toD_lst (nA_pure (aOne_pure rfl) (if_pos (show 1 ≤ lim from by decide)))
  exact n2_pure e h (gRep_0 n hn)
/-! ### the law's own -/
theorem intsD_rows (r : List Nat) : intsD (r.map nD) = some (natI r) := ints_nD r
theorem natI_idx (r : List Nat) (x : Nat) : (natI r).idxOf (x : Int) = r.idxOf x := idx_inj (f := fun n : Nat => (n : Int)) (fun _ _ h => by omega) r x
theorem index_tz {f : DF} {g : LF} {ρ : Env'} {r : List Nat} {x : Nat} (hf : f ρ = some (tzR r, ρ)) (hg : g ρ = some ([nD x], ρ)) (hm : x ∈ r) : dIndexZ f g ρ = some (nD (r.idxOf x), ρ) := by
  unfold dIndexZ
  rw [hf]
  simp only [Option.bind_some]
  rw [hg]
  simp only [Option.bind_some]
  rw [intsD_rows]
  simp only [Option.bind_some]
  rw [if_pos (by unfold natI; exact List.mem_map_of_mem hm), natI_idx]
theorem o_tzD {ms : List (List Nat)} {k : Nat} (h : k < ms.length) : gIx (tzD ms) (nD k) = some (tzR (ms.getD k [])) := by rw [gIx_tup, atI_nat, List.getElem?_map, getD_at h]; rfl
theorem o_tzR {r : List Nat} {k : Nat} (h : k < r.length) : gIx (tzR r) (nD k) = some (nD (r.getD k 0)) := by
  show atI _ _ = _
  rw [atI_nat, List.getElem?_map, row_getD h]
  rfl
end
section
variable {sz : Nat → Nat} {cs : List Fn} {K : Nat} {L : List Nat} {as os : List (List Nat)}
theorem turn_ok (P : PatK sz cs K) (W : Wd cs K L as) (OR : Ords L os) : f__law_turned [.fz (patD K cs), .fz (worldD L as), .fz (tzD os)] = some (.fz (worldD L (renA cs as os)), []) := by
  have h5 := P.l5
  rw [fx__law_turned]
  unfold b__law_turned
  refine fn_wp ?_
  walk_at "w"
  refine wp_rg (fun i ρ => ∃ v4 v5 v6 v7 v8 v9, ρ = [some (.fz (patD K cs)), some (.fz (worldD L as)), some (.fz (tzD os)), some (tpO ((List.range i).map fun k => wrow (os.getD (dA_ cs k) []) (os.getD (dB_ cs k) []) (as.getD k []))), v4, v5, v6, v7, v8, v9]) (rg1_map (n := cs.length) (by walk_at "pv") (by omega)) ⟨_, _, _, _, _, _, rfl⟩ ?_ ?_
  · rintro k ρ hk ⟨v4, v5, v6, v7, v8, v9, rfl⟩
    obtain ⟨n, m, hn, hm, hl, hb, n7, m7, -, -⟩ := W.dk hk
    have hp := OR.at_ hn
    have hq := OR.at_ hm
    have g1 : gIx (tzD os) (nD (dA_ cs k)) = _ := o_tzD (by rw [OR.len]; exact (List.getElem?_eq_some_iff.mp hn).1)
    have g2 : gIx (tzD os) (nD (dB_ cs k)) = _ := o_tzD (by rw [OR.len]; exact (List.getElem?_eq_some_iff.mp hm).1)
    have g3 : gIx (tpR L) (nD (dA_ cs k)) = some (nD n) := tpR_ix hn
    have g4 : gIx (tpD as) (nD k) = _ := o_tpD (by rw [W.n]; exact hk)
    rw [map_snoc]
    have hacc : ((List.range k).map fun k => wrow (os.getD (dA_ cs k) []) (os.getD (dB_ cs k) []) (as.getD k [])).length = k := by rw [List.length_map, List.length_range]
    generalize ((List.range k).map fun k => wrow (os.getD (dA_ cs k) []) (os.getD (dB_ cs k) []) (as.getD k [])) = acc at *
    generalize hra : as.getD k [] = ra at *
    generalize hpe : os.getD (dA_ cs k) [] = p at *
    generalize hqe : os.getD (dB_ cs k) [] = q at *
    refine ⟨_, rfl, ?_⟩
    walk_at "sets"
    unfold l__law_turned_2
    walk_at "w"
    walk_at "w"
    refine wp_rg (fun i ρ => ∃ v8 v9, ρ = [some (.fz (patD K cs)), some (.fz (worldD L as)), some (.fz (tzD os)), some (tpO acc), some (.fz (nD k)), some (.fz (nD (dA_ cs k))), some (.fz (nD (dB_ cs k))), some (rwO ((List.range i).map fun y => q.getD (ra.getD (p.idxOf y) 0) 0)), v8, v9]) (rg1_map (by walk_at "pv") (by omega)) ⟨_, _, rfl⟩ ?_ ?_
    · rintro y ρ hy ⟨v8, v9, rfl⟩
      have hpi := perm_idx hp hy
      have gp := o_tzR (r := q) (k := ra.getD (p.idxOf y) 0) (by rw [perm_len hq]; exact hb _ hpi.1)
      have gr := o_tpR (r := ra) (k := p.idxOf y) (by omega)
      refine ⟨_, rfl, ?_⟩
      walk_at "sets"
      unfold l__law_turned_1
      refine wp_asg (index_tz (r := p) (x := y) (by walk_at "pv") (by walk_at "pv") ((perm_in hp).mpr hy)) ?_
      walk_at "sets"
      refine wp_nx (app_row (i := 7) (x := q.getD (ra.getD (p.idxOf y) 0) 0) rfl (by walk_at "pv") (by rw [List.length_map, List.length_range]; omega)) ?_
      rw [map_snoc]
      exact ⟨rfl, _, _, rfl⟩
    · rintro ρ ⟨v8, v9, rfl⟩
      refine wp_nx (app_rows (i := 3) (j := 7) rfl rfl (by decide) (by omega)) ?_
      unfold wrow
      rw [hl]
      exact ⟨rfl, _, _, _, _, _, _, rfl⟩
  · rintro ρ ⟨v4, v5, v6, v7, v8, v9, rfl⟩
    have e1 := pair_own (i := 3) (o := tpO (renA cs as os)) (f := d2 gIx (dVar 1) (dC (.int 0))) (ρ := [some (.fz (patD K cs)), some (.fz (worldD L as)), some (.fz (tzD os)), some (tpO (renA cs as os)), v4, v5, v6, v7, v8, v9]) (by walk_at "pv") rfl (frz_map tpR _)
    exact wp_ret e1 ⟨rfl, rfl⟩
/-! ### orders turned back -/
def invL (p : List Nat) : List Nat := (List.range p.length).map fun x => p.idxOf x
theorem invL_perm {p : List Nat} {n : Nat} (hp : p.Perm (List.range n)) : (invL p).Perm (List.range n) := by
  have hl := perm_len hp
  have hmem : ∀ x ∈ invL p, x < n := fun x hx => by
    unfold invL at hx
    obtain ⟨y, hy, rfl⟩ := List.mem_map.mp hx
    rw [List.mem_range, hl] at hy
    exact (perm_idx hp hy).1
  have hnd : (invL p).Nodup := by
    unfold invL
    rw [hl]
    refine List.pairwise_map.mpr (List.nodup_range.imp_of_mem fun {x y} hx hy hne h => hne ?_)
    rw [List.mem_range] at hx hy
    rw [← (perm_idx hp hx).2, h, (perm_idx hp hy).2]
  refine (List.perm_ext_iff_of_nodup hnd List.nodup_range).mpr fun x => ⟨fun h => List.mem_range.mpr (hmem x h), fun h => ?_⟩
  rw [List.mem_range] at h
  unfold invL
  rw [List.mem_map]
  exact ⟨p.getD x 0, by rw [List.mem_range, hl]; exact perm_lt hp h, perm_of hp h⟩
theorem Ords.back (OR : Ords L os) : Ords L (os.map invL) := by
  refine ⟨by rw [List.length_map]; exact OR.len, fun e n h => ?_⟩
  obtain ⟨p, h1, h2⟩ := OR.perm e n h
  exact ⟨invL p, by rw [List.getElem?_map, h1]; rfl, invL_perm h2⟩
end
end VL
set_option Elab.async false
set_option linter.all false
set_option maxRecDepth 100000
set_option maxHeartbeats 4000000
namespace VL
/-! ### marks merged along edges -/
abbrev Th := Nat × Nat
def mstep (m : Th → Nat) (e : Th × Th) : Th → Nat := fun p => if m p = m e.2 then m e.1 else m p
def mfin (m0 : Th → Nat) (E : List (Th × Th)) : Th → Nat := E.foldl mstep m0
theorem mfin_set {S D : Th → Prop} : ∀ {E : List (Th × Th)} {m0 : Th → Nat}, (∀ e ∈ E, (S e.1 ↔ S e.2) ∧ D e.1 ∧ D e.2) → (∀ p q, D p → D q → m0 p = m0 q → (S p ↔ S q)) → ∀ p q, D p → D q → mfin m0 E p = mfin m0 E q → (S p ↔ S q)
  | [], _, _, h0 => h0
  | e :: E, m0, hE, h0 => by
    obtain ⟨h1, h2, h3⟩ := hE e List.mem_cons_self
    refine mfin_set (E := E) (m0 := mstep m0 e) (fun e' he => hE e' (List.mem_cons_of_mem _ he)) fun p q hp hq h => ?_
    unfold mstep at h
    split at h <;> split at h
    · rename_i a b
      exact (h0 p e.2 hp h3 a).trans (h0 q e.2 hq h3 b).symm
    · rename_i a b
      exact (h0 p e.2 hp h3 a).trans (h1.symm.trans (h0 q e.1 hq h2 h.symm).symm)
    · rename_i a b
      exact (h0 p e.1 hp h2 h).trans (h1.trans (h0 q e.2 hq h3 b).symm)
    · exact h0 p q hp hq h
/-! ### things in their order -/
def thsK (L : List Nat) (k : Nat) : List Th := (List.range (L.getD k 0)).map fun x => (k, x)
def ths (L : List Nat) (n : Nat) : List Th := (List.range n).flatMap (thsK L)
/-- few things in all -/
class T63 (L : List Nat) : Prop where
  h : (ths L L.length).length ≤ 63
/-! ### each value once, where it comes first -/
/-! ### the first thing of a mark -/
/-! ### sorted by rising keys -/
end VL
set_option Elab.async false
set_option linter.all false
set_option maxRecDepth 100000
set_option maxHeartbeats 4000000
namespace VL
open PySem L2
section
variable {ρ : Env'}
end
/-! ### joined, first_thing -/
end VL
set_option Elab.async false
set_option linter.all false
set_option maxRecDepth 100000
set_option maxHeartbeats 4000000
namespace VL
/-! ### a piece by going from thing to thing -/
def bes (E : List (Th × Th)) (p : Th) : List Th := E.flatMap fun e => if p = e.1 ∨ p = e.2 then [e.1, e.2] else []
theorem mem_bes {E : List (Th × Th)} {p q : Th} : q ∈ bes E p ↔ ∃ e ∈ E, (p = e.1 ∨ p = e.2) ∧ (q = e.1 ∨ q = e.2) := by
  unfold bes
  rw [List.mem_flatMap]
  constructor
  · rintro ⟨e, he, h⟩
    split at h
    · rename_i c
      exact ⟨e, he, c, by simpa using h⟩
    · cases h
  · rintro ⟨e, he, c, h⟩
    exact ⟨e, he, by rw [if_pos c]; simpa using h⟩
def addT (acc : List Th) (t : Th) : List Th := if t ∈ acc then acc else acc ++ [t]
theorem addT_fold : ∀ (qs acc : List Th), acc.Nodup → (∃ t, qs.foldl addT acc = acc ++ t) ∧ (qs.foldl addT acc).Nodup ∧ ∀ x, x ∈ qs.foldl addT acc ↔ x ∈ acc ∨ x ∈ qs
  | [], acc, h => ⟨⟨[], by simp⟩, h, by simp⟩
  | q :: qs, acc, h => by
    rw [List.foldl_cons]
    by_cases hq : q ∈ acc
    · rw [show addT acc q = acc from if_pos hq]
      obtain ⟨h1, h2, h3⟩ := addT_fold qs acc h
      refine ⟨h1, h2, fun x => (h3 x).trans ?_⟩
      rw [List.mem_cons]
      constructor
      · rintro (z | z)
        · exact .inl z
        · exact .inr (.inr z)
      · rintro (z | rfl | z)
        · exact .inl z
        · exact .inl hq
        · exact .inr z
    · rw [show addT acc q = acc ++ [q] from if_neg hq]
      have hn : (acc ++ [q]).Nodup := List.nodup_append.mpr ⟨h, by simp, fun a ha b hb => by rw [List.mem_singleton.mp hb]; exact fun z => hq (by rw [← z]; exact ha)⟩
      obtain ⟨⟨t, h1⟩, h2, h3⟩ := addT_fold qs (acc ++ [q]) hn
      refine ⟨⟨q :: t, by rw [h1]; simp⟩, h2, fun x => (h3 x).trans ?_⟩
      rw [List.mem_append, List.mem_singleton, List.mem_cons, or_assoc]
theorem nodup_le : ∀ {xs ys : List Th}, xs.Nodup → (∀ x ∈ xs, x ∈ ys) → xs.length ≤ ys.length
  | [], _, _, _ => Nat.zero_le _
  | x :: xs, ys, h, hs => by
    obtain ⟨h1, h2⟩ := List.nodup_cons.mp h
    have hx := hs x List.mem_cons_self
    have := nodup_le (xs := xs) (ys := ys.erase x) h2 fun z hz => (List.mem_erase_of_ne (fun e => h1 (by rw [← e]; exact hz))).mpr (hs z (List.mem_cons_of_mem _ hz))
    rw [List.length_erase_of_mem hx] at this
    have := List.length_pos_of_mem hx
    rw [List.length_cons]
    omega
structure PInv (ts : List Th) (E : List (Th × Th)) (m : Th → Nat) (spot : Th) (k : Nat) (found : List Th) : Prop where
  nd : found.Nodup
  sub : ∀ p ∈ found, p ∈ ts
  eq : ∀ p ∈ found, m p = m spot
  cl : ∀ (j : Nat) (p : Th), j < k → found[j]? = some p → ∀ q ∈ bes E p, q ∈ found
  sp : spot ∈ found
variable {ts : List Th} {E : List (Th × Th)} {m : Th → Nat} {spot : Th} {k : Nat} {found : List Th}
theorem PInv.start (h : spot ∈ ts) : PInv ts E m spot 0 [spot] := ⟨by simp, by simpa using h, by simp, fun j p h => by omega, by simp⟩
theorem PInv.step (I : PInv ts E m spot k found) {p : Th} (hp : found[k]? = some p) (hE : ∀ e ∈ E, m e.1 = m e.2 ∧ e.1 ∈ ts ∧ e.2 ∈ ts) : PInv ts E m spot (k + 1) ((bes E p).foldl addT found) := by
  obtain ⟨⟨t, h1⟩, h2, h3⟩ := addT_fold (bes E p) found I.nd
  have hpm := I.eq p (List.mem_of_getElem? hp)
  have hk := (List.getElem?_eq_some_iff.mp hp).1
  have hb : ∀ q ∈ bes E p, q ∈ ts ∧ m q = m spot := fun q hq => by
    obtain ⟨e, he, c, d⟩ := mem_bes.mp hq
    obtain ⟨e1, e2, e3⟩ := hE e he
    have hpe : m p = m e.1 := by
      rcases c with rfl | rfl
      · rfl
      · exact e1.symm
    rcases d with rfl | rfl
    · exact ⟨e2, hpe.symm.trans hpm⟩
    · exact ⟨e3, (e1.symm.trans hpe.symm).trans hpm⟩
  refine ⟨h2, fun q hq => ?_, fun q hq => ?_, fun j q hj hq r hr => ?_, (h3 _).mpr (.inl I.sp)⟩
  · exact ((h3 q).mp hq).elim (I.sub q) fun z => (hb q z).1
  · exact ((h3 q).mp hq).elim (I.eq q) fun z => (hb q z).2
  · rw [h1, List.getElem?_append_left (by omega)] at hq
    by_cases e : j = k
    · rw [e, hp] at hq
      cases hq
      exact (h3 r).mpr (.inr hr)
    · exact (h3 r).mpr (.inl (I.cl j q (by omega) hq r hr))
theorem PInv.done (I : PInv ts E m spot k found) (hk : found.length ≤ k) {m0 : Th → Nat} (hm : m = mfin m0 E) (h0 : ∀ p q, p ∈ ts → q ∈ ts → m0 p = m0 q → p = q) (hE : ∀ e ∈ E, e.1 ∈ ts ∧ e.2 ∈ ts) (p : Th) : p ∈ found ↔ p ∈ ts ∧ m p = m spot := by
  refine ⟨fun h => ⟨I.sub p h, I.eq p h⟩, fun ⟨h1, h2⟩ => ?_⟩
  have cl : ∀ q ∈ found, ∀ r ∈ bes E q, r ∈ found := fun q hq => by
    obtain ⟨j, hj, e⟩ := List.mem_iff_getElem.mp hq
    exact I.cl j q (by omega) (by rw [List.getElem?_eq_getElem hj, e])
  have := mfin_set (S := fun p => p ∈ found) (D := fun p => p ∈ ts) (E := E) (m0 := m0) (fun e he => ⟨⟨fun h => cl _ h _ (mem_bes.mpr ⟨e, he, .inl rfl, .inr rfl⟩), fun h => cl _ h _ (mem_bes.mpr ⟨e, he, .inr rfl, .inl rfl⟩)⟩, hE e he⟩) (fun p q hp hq h => by rw [h0 p q hp hq h]) p spot h1 (I.sub _ I.sp) (by rw [← hm]; exact h2)
  exact this.mpr I.sp
theorem PInv.len (I : PInv ts E m spot k found) : found.length ≤ ts.length := by
  exact nodup_le I.nd I.sub
end VL
set_option Elab.async false
set_option linter.all false
set_option maxRecDepth 100000
set_option maxHeartbeats 4000000
namespace VL
open PySem L2
/-! ### edges -/
section
variable {sz : Nat → Nat} {cs : List Fn} {K : Nat} {L : List Nat} {as : List (List Nat)} {p : Th} {wa : Nat} [Le8 wa]
end
end VL
set_option Elab.async false
set_option linter.all false
set_option maxRecDepth 100000
set_option maxHeartbeats 4000000
namespace VL
open PySem L2
section
variable {sz : Nat → Nat} {cs : List Fn} {K : Nat} {L : List Nat} {as : List (List Nat)} {p : Th} {wa : Nat} [Le8 wa]
end
end VL
set_option Elab.async false
set_option linter.all false
set_option maxRecDepth 100000
set_option maxHeartbeats 4000000
namespace VL
open PySem L2
section
variable {sz : Nat → Nat} {cs : List Fn} {K : Nat} {L : List Nat} {as : List (List Nat)} {spot : Th} {m : Th → Nat} {wa : Nat} [Le8 wa]
end
end VL
set_option Elab.async false
set_option linter.all false
set_option maxRecDepth 100000
set_option maxHeartbeats 4000000
namespace VL
open PySem L2
theorem nodup_len' : ∀ {xs ys : List Nat}, xs.Nodup → (∀ x ∈ xs, x ∈ ys) → xs.length ≤ ys.length
  | [], _, _, _ => Nat.zero_le _
  | x :: xs, ys, h, hs => by
    obtain ⟨h1, h2⟩ := List.nodup_cons.mp h
    have hx := hs x List.mem_cons_self
    have := nodup_len' (xs := xs) (ys := ys.erase x) h2 fun z hz => (List.mem_erase_of_ne (fun e => h1 (by rw [← e]; exact hz))).mpr (hs z (List.mem_cons_of_mem _ hz))
    rw [List.length_erase_of_mem hx] at this
    have := List.length_pos_of_mem hx
    rw [List.length_cons]
    omega
end VL
set_option Elab.async false
set_option linter.all false
set_option maxRecDepth 100000
set_option maxHeartbeats 4000000
namespace VL
open PySem L2
end VL
set_option Elab.async false
set_option linter.all false
set_option maxRecDepth 100000
set_option maxHeartbeats 4000000
namespace VL
open PySem L2
def off (L : List Nat) (k : Nat) : Nat := (L.take k).sum
section
variable {sz : Nat → Nat} {cs : List Fn} {K : Nat} {L : List Nat} {as : List (List Nat)} {wa : Nat} [Le8 wa]
end
end VL
set_option Elab.async false
set_option linter.all false
set_option maxRecDepth 100000
set_option maxHeartbeats 4000000
namespace VL
open PySem L2
section
variable {sz : Nat → Nat} {cs : List Fn} {K : Nat} {L : List Nat} {as : List (List Nat)} {wa : Nat} [Le8 wa]
end
end VL
set_option Elab.async false
set_option linter.all false
set_option maxRecDepth 100000
set_option maxHeartbeats 4000000
namespace VL
open PySem L2
section
variable {sz : Nat → Nat} {cs : List Fn} {K wb wc : Nat} {L M : List Nat} {as bs ms os : List (List Nat)}
/-! ### maps lead a piece into a piece -/
/-! ### orders are maps -/
/-! ### as many pieces, of the same sizes -/
end
end VL
set_option Elab.async false
set_option linter.all false
set_option maxRecDepth 100000
set_option maxHeartbeats 4000000
namespace VL
open PySem L2
/-! ### things drawn together: labels -/
def mk1 (ms : List (List Nat)) (e a b : Nat) : List (List Nat) := ms.set e (relab (min (g2 ms e a) (g2 ms e b)) (max (g2 ms e a) (g2 ms e b)) (ms.getD e []))
abbrev Pr3 := Nat × Nat × Nat
section
variable {sz : Nat → Nat} {cs : List Fn} {K : Nat} {L : List Nat} {as ms : List (List Nat)}
theorem Mk.row (M : Mk L ms) {e n : Nat} (h : L[e]? = some n) : ∃ r, ms[e]? = some r ∧ ms.getD e [] = r ∧ r.length = n ∧ Idem r := by
  obtain ⟨r, h1, h2, h3⟩ := M.get h
  exact ⟨r, h1, getD_of h1, h2, h3⟩
theorem g2_row {r : List Nat} {e u : Nat} (h : ms[e]? = some r) (hu : u < r.length) : r[u]? = some (g2 ms e u) := by
  have h1 : r[u]? = some r[u] := List.getElem?_eq_getElem hu
  rw [g2_of h h1, h1]
theorem Mk.one (M : Mk L ms) {e a b n : Nat} (he : L[e]? = some n) (ha : a < n) (hb : b < n) : Mk L (mk1 ms e a b) := by
  obtain ⟨r, h1, h2, h3, h4⟩ := M.row he
  unfold mk1
  rw [h2]
  refine M.relab h1 ?_
  have ea := h4 a _ (g2_row h1 (u := a) (by omega))
  have eb := h4 b _ (g2_row h1 (u := b) (by omega))
  rcases Nat.le_total (g2 ms e a) (g2 ms e b) with q | q
  · rw [Nat.min_eq_left q]; exact ea
  · rw [Nat.min_eq_right q]; exact eb
/-- pairs of things of one kind -/
def PrOk (L : List Nat) (K : Nat) (p : Pr3) : Prop := p.1 < K ∧ ∃ n, L[p.1]? = some n ∧ p.2.1 < n ∧ p.2.2 < n
theorem PrOk.way (P : PatK sz cs K) (W : Wd cs K L as) {p : Pr3} (h : PrOk L K p) {w : Int} (hw : w ∈ wys cs p.1) : ∃ m, L[endW cs p.1 w]? = some m ∧ lg as w p.2.1 < m ∧ lg as w p.2.2 < m := by
  obtain ⟨_, n, h1, h2, h3⟩ := h
  obtain ⟨_, m, g1, h4⟩ := lg_ok W (wys_way hw) h1 h2
  obtain ⟨_, m', g2, h5⟩ := lg_ok W (wys_way hw) h1 h3
  rw [g1] at g2
  cases g2
  exact ⟨m, g1, h4, h5⟩
end
end VL
set_option Elab.async false
set_option linter.all false
set_option maxRecDepth 100000
set_option maxHeartbeats 4000000
namespace VL
open PySem L2
/-! ### a world drawn together, drawn together once more -/
theorem hd_lt (r : List Nat) : (hd r).Pairwise (· < ·) := by
  have h := sortSet_lt (natI r)
  rw [natI_hd] at h
  unfold natI at h
  exact (List.pairwise_map.mp h).imp fun h => by omega
theorem natI_inj {a b : List Nat} (h : natI a = natI b) : a = b := by
  unfold natI at h
  exact (List.map_inj_right fun x y h => by omega).mp h
theorem hd_uniq {l r : List Nat} (s : l.Pairwise (· < ·)) (m : ∀ x, x ∈ l ↔ x ∈ r) : l = hd r := by
  refine natI_inj ?_
  rw [← natI_hd]
  have mm : ∀ (l : List Nat) (k : Int), k ∈ natI l ↔ ∃ x ∈ l, (x : Int) = k := fun l k => by unfold natI; rw [List.mem_map]
  refine sortSet_uniq ?_ fun k => ?_
  · unfold natI
    rw [List.pairwise_map]
    exact s.imp fun h => by omega
  · rw [mm, mm]
    exact ⟨fun ⟨x, h, e⟩ => ⟨x, (m x).mp h, e⟩, fun ⟨x, h, e⟩ => ⟨x, (m x).mpr h, e⟩⟩
/-- the number of a thing's class; the least thing of a class -/
def pi (ms : List (List Nat)) (e u : Nat) : Nat := (hd (ms.getD e [])).idxOf (g2 ms e u)
def ph (ms : List (List Nat)) (e i : Nat) : Nat := (hd (ms.getD e [])).getD i 0
section
variable {sz : Nat → Nat} {cs : List Fn} {K : Nat} {L : List Nat} {as ms ns : List (List Nat)}
/-! ### where the drawn world's doings lead -/
/-! ### both drawings keep step -/
variable {m0 : List (List Nat)}
/-- a pair's classes -/
def later (m0 : List (List Nat)) (p : Pr3) : Pr3 := (p.1, pi m0 p.1 p.2.1, pi m0 p.1 p.2.2)
/-! ### the told worlds are one -/
/-! ### drawn together by no pairs -/
theorem hd_range (n : Nat) : hd (List.range n) = List.range n := (hd_uniq List.pairwise_lt_range fun x => Iff.rfl).symm
end
end VL
set_option Elab.async false
set_option linter.all false
set_option maxRecDepth 100000
set_option maxHeartbeats 4000000
namespace VL
open PySem L2
/-! ### partial maps, plain -/
abbrev Pm := List (Th × Nat)
abbrev pvl (l : Pm) (q : Th) : Option Nat := valD l q
/-- puts in pair by pair, if none clashes -/
def putAll : List (Th × Nat) → Pm → Option Pm
  | [], l => some l
  | e :: es, l => if (pvl l e.1).getD e.2 = e.2 then putAll es (putD l e.1 e.2) else none
structure Put (es : List (Th × Nat)) (l l' : Pm) : Prop where
  old : ∀ q v, pvl l q = some v → pvl l' q = some v
  new : ∀ e ∈ es, pvl l' e.1 = some e.2
  only : ∀ q v, pvl l' q = some v → pvl l q = some v ∨ (q, v) ∈ es
  few : l'.length ≤ l.length + es.length
section
variable {sz : Nat → Nat} {cs : List Fn} {K wb wc : Nat} {L M : List Nat} {as bs : List (List Nat)}
/-- where the way w leads a thing -/
def goA (cs : List Fn) (as : List (List Nat)) (p : Th) (w : Int) : Th := (endW cs p.1 w, lg as w p.2)
def pairsP (cs : List Fn) (as bs : List (List Nat)) (p : Th) (g : Nat) : List (Th × Nat) := (wys cs p.1).map fun w => (goA cs as p w, lg bs w g)
def along (cs : List Fn) (as bs : List (List Nat)) (l : Pm) (p : Th) (g : Nat) : Option Pm := putAll (pairsP cs as bs p g) l
/-- a thing of the world -/
def IsTh (L : List Nat) (p : Th) : Prop := ∃ n, L[p.1]? = some n ∧ p.2 < n
/-- a partial map: what it tells are things, and it has with a thing all that ways make of it -/
structure PH (cs : List Fn) (L M : List Nat) (as bs : List (List Nat)) (l : Pm) : Prop where
  th : ∀ q v, pvl l q = some v → IsTh L q ∧ IsTh M (q.1, v)
  cl : ∀ q v, pvl l q = some v → ∀ w ∈ wys cs q.1, pvl l (goA cs as q w) = some (lg bs w v)
/-- a function that goes along with doings -/
structure Hom (cs : List Fn) (L M : List Nat) (as bs : List (List Nat)) (f : Th → Nat) : Prop where
  th : ∀ q, IsTh L q → IsTh M (q.1, f q)
  cl : ∀ q, IsTh L q → ∀ w ∈ wys cs q.1, f (goA cs as q w) = lg bs w (f q)
def Under (l : Pm) (f : Th → Nat) : Prop := ∀ q v, pvl l q = some v → v = f q
/-! ### all partial maps, place by place -/
/-- what ways make of some places -/
def Clo (cs : List Fn) (as : List (List Nat)) (ps : List Th) (q : Th) : Prop := ∃ p ∈ ps, ∃ w ∈ wys cs p.1, q = goA cs as p w
structure RInv (cs : List Fn) (L M : List Nat) (as bs : List (List Nat)) (ps : List Th) (rows : List Pm) : Prop where
  ph : ∀ l ∈ rows, PH cs L M as bs l
  dom : ∀ l ∈ rows, ∀ q, (pvl l q).isSome = true ↔ Clo cs as ps q
  all : ∀ f, Hom cs L M as bs f → ∃ l ∈ rows, Under l f
  nd : rows.Pairwise fun l l' => ∃ q, pvl l q ≠ pvl l' q
  few : ∀ l ∈ rows, l.length ≤ 6 * ps.length
end
end VL
set_option Elab.async false
set_option linter.all false
set_option maxRecDepth 100000
set_option maxHeartbeats 4000000
namespace VL
open PySem L2
section
variable {sz : Nat → Nat} {cs : List Fn} {K wb wc : Nat} {L M : List Nat} {as bs : List (List Nat)}
/-! ### drawn worlds: all comes from a few heads -/
/-- all things come from these heads -/
structure Gen (cs : List Fn) (L : List Nat) (as : List (List Nat)) (hs : List Th) : Prop where
  th : ∀ h ∈ hs, IsTh L h
  all : ∀ q, IsTh L q → ∃ h ∈ hs, ∃ w ∈ wys cs h.1, q = goA cs as h w
/-! ### heads of which none comes from another one -/
/-! ### how many rows -/
/-! ### the places in their order: those to which nothing leads ahead -/
open Classical in
/-! ### a bound for drawn worlds -/
end
end VL
set_option Elab.async false
set_option linter.all false
set_option maxRecDepth 100000
set_option maxHeartbeats 4000000
namespace VL
open PySem L2
section
variable {sz : Nat → Nat} {cs : List Fn} {K : Nat} {L M : List Nat} {as bs : List (List Nat)} {wa : Nat} [Le8 wa]
/-! ### the weights of drawn heads -/
/-! ### the places, in their order -/
end
end VL
set_option Elab.async false
set_option linter.all false
set_option maxRecDepth 100000
set_option maxHeartbeats 4000000
namespace VL
open PySem L2
/-! ### partial maps as dicts -/
/-- keys that are small -/
structure Sml (l : Pm) : Prop where
  nd : (l.map (·.1)).Nodup
  sm : ∀ e ∈ l, e.1.1 < 5 ∧ e.1.2 < 128
section
variable {sz : Nat → Nat} {cs : List Fn} {K wc : Nat} {L M : List Nat} {as bs : List (List Nat)} {wa : Nat} [Le8 wa]
/-! ### how many rows there are at most -/
end
/-! ### a row of maps -/
def mapP (l : Pm) (K : Nat) (L : List Nat) : List (List Nat) := (List.range K).map fun k => (List.range (L.getD k 0)).map fun x => (pvl l (k, x)).getD 0
section
variable {sz : Nat → Nat} {cs : List Fn} {K wc : Nat} {L M : List Nat} {as bs : List (List Nat)} {wa : Nat} [Le8 wa]
end
end VL
set_option Elab.async false
set_option linter.all false
set_option maxRecDepth 100000
set_option maxHeartbeats 4000000
namespace VL
open PySem L2
section
variable {ρ ρ0 : Env'} {Q : Out → Env' → Prop}
end
section
variable {sz : Nat → Nat} {cs : List Fn} {K wc : Nat} {L M : List Nat} {as bs : List (List Nat)}
end
end VL
set_option Elab.async false
set_option linter.all false
set_option maxRecDepth 100000
set_option maxHeartbeats 4000000
namespace VL
open PySem L2
/-! ### tuples of rows, sorted -/
section
variable {sz : Nat → Nat} {cs : List Fn} {K wc : Nat} {L M : List Nat} {as bs : List (List Nat)} {wa : Nat} [Le8 wa]
/-! ### _law_maps -/
/-! ### what these maps are -/
end
end VL
set_option Elab.async false
set_option linter.all false
set_option maxRecDepth 100000
set_option maxHeartbeats 4000000
namespace VL
open PySem L2
section
variable {ρ ρ0 : Env'} {Q : Out → Env' → Prop}
/-- [e for x, y in xs] -/
theorem lcZ {n v w m : Nat} {it : IF} {e : DF} {z y : Option O} (a b r : Nat → D) (hi : it ρ0 = some ((List.range m).map fun k => D.tup [a k, b k], ρ)) (hl : m ≤ 6000000) (hn : ρ.length = n) (hvw : v ≠ w) (ev : ρ[v]? = some z) (hz : Kp z) (ew : ρ[w]? = some y) (hy : Kp y)
    (he : ∀ k, k < m → e ((ρ.set v (some (.fz (a k)))).set w (some (.fz (b k)))) = some (r k, (ρ.set v (some (.fz (a k)))).set w (some (.fz (b k))))) :
    toD (nLc n [v, w] it (gTu 2 (gsCons (gN v) (gsCons (gN w) gsNil))) bYes e) ρ0 = some (.lst ((List.range m).map r), ρ) := by
  have hv := (List.getElem?_eq_some_iff.mp ev).1
  have hw := (List.getElem?_eq_some_iff.mp ew).1
  rw [ap_toD, nLc_ap, hi]
  simp only [Option.bind_some]
  rw [if_pos (by rw [List.length_map, List.length_range]; unfold lim; omega), compL_all (n := n) (vs := [v, w]) (e := e) (fun k => D.tup [a k, b k]) r hn fun k hk => ⟨(ρ.set v (some (.fz (a k)))).set w (some (.fz (b k))), ?_, (ρ.set v (some (.fz (a k)))).set w (some (.fz (b k))), he k (List.mem_range.mp hk), ?_⟩]
  · simp
  · show some ((((ρ.set w none).set v none).set v (some (.fz (a k)))).set w (some (.fz (b k)))) = _
    rw [List.set_set, List.set_comm _ _ (Ne.symm hvw), List.set_set]
  · show (((ρ.set v (some (.fz (a k)))).set w (some (.fz (b k)))).set w (keepD ρ[w]?)).set v (keepD ρ[v]?) = ρ
    have h1 : keepD (some z) = z := hz
    have h2 : keepD (some y) = y := hy
    rw [List.set_set, List.set_comm _ _ hvw, List.set_set, ev, ew, h1, h2]
    refine List.ext_getElem? fun j => ?_
    rw [List.getElem?_set, List.getElem?_set]
    by_cases q1 : w = j
    · subst q1
      rw [ew]
      simp [hw, hvw]
    · by_cases q2 : v = j
      · subst q2
        rw [ev]
        simp [hv, q1]
      · simp [q1, q2]
end
/-- a world's shape -/
structure Shp (cs : List Fn) (K b : Nat) (L : List Nat) (as : List (List Nat)) : Prop where
  k : L.length = K
  n : as.length = cs.length
  sz : ∀ n ∈ L, n ≤ b
  row : ∀ r ∈ as, r.length ≤ b
section
variable {sz : Nat → Nat} {cs : List Fn} {K b c : Nat} {L M : List Nat} {as bs : List (List Nat)}
theorem Shp.at_ (S : Shp cs K b L as) {k : Nat} (hk : k < K) : k < L.length ∧ L.getD k 0 ≤ b := by
  have h : k < L.length := by rw [S.k]; exact hk
  refine ⟨h, ?_⟩
  rw [List.getD_eq_getElem?_getD, List.getElem?_eq_getElem h]
  exact S.sz _ (List.getElem_mem h)
end
end VL
set_option Elab.async false
set_option linter.all false
set_option maxRecDepth 100000
set_option maxHeartbeats 4000000
namespace VL
open PySem L2
section
variable {sz : Nat → Nat} {cs : List Fn} {K b c : Nat} {L M : List Nat} {as bs : List (List Nat)}
/-! ### two maps put together, out of the sum -/
/-! ### one of them, drawn -/
end
end VL
set_option Elab.async false
set_option linter.all false
set_option maxRecDepth 100000
set_option maxHeartbeats 4000000
namespace VL
open PySem L2
section
variable {ρ : Env'} {t u : BF}
end
section
variable {sz : Nat → Nat} {cs : List Fn} {K : Nat} {L M : List Nat} {as bs : List (List Nat)}
/-- a pattern, drawn -/
theorem draw_pat (ns : List Int) (k : Nat) : ∃ (cs : List Fn) (sz : Nat → Nat) (K : Nat) (o1 o2 : O), f__law_state [.fz (.scr (ns.map .int)), .fz (nD k)] = some (o1, []) ∧ f__law_pattern [o1] = some (.fz (patD K cs), [o2]) ∧ PatK sz cs K ∧ StOk o2 := by
  obtain ⟨o1, e1, ho⟩ := state_ok ns k
  obtain ⟨o2, cs, sz, K, e2, ho2, hz, g, hc, h5, h1, h3, hb⟩ := pattern_ok ho
  exact ⟨cs, sz, K, o1, o2, e1, e2, ⟨⟨hz, g, hc⟩, h5, h1, h3, hb⟩, ho2⟩
end
end VL
set_option Elab.async false
set_option linter.all false
set_option maxRecDepth 100000
set_option maxHeartbeats 4000000
namespace VL
open PySem L2
section
variable {sz : Nat → Nat} {cs : List Fn} {K wb wc : Nat} {L M : List Nat} {as bs ms os : List (List Nat)}
/-! ### the place of a thing among the pieces -/
/-! ### a map turned back -/
theorem ddI_self : ∀ {r : List Int}, r.Nodup → ddI r = r
  | [], _ => rfl
  | x :: r, h => by
    rw [List.nodup_cons] at h
    unfold ddI
    rw [if_neg h.1, ddI_self h.2]
end
end VL
set_option Elab.async false
set_option linter.all false
set_option maxRecDepth 100000
set_option maxHeartbeats 4000000
namespace VL
open PySem L2
/-! ### is_apart, is_onto, turned_back of any rows -/
/-- a row; b: a tuple known to its object -/
abbrev rzD (b : Bool) (r : List Nat) : D := bif b then tzR r else tpR r
abbrev mzD (b : Bool) (ms : List (List Nat)) : D := .tup (ms.map (rzD b))
theorem len_rz (b : Bool) (r : List Nat) : gLen [rzD b r] = some (nD r.length) := by
  cases b with
  | false => exact o_lenR
  | true => show some (D.int _) = _; rw [List.length_map]
theorem hd_len (r : List Nat) : (hd r).length = (ddI (natI r)).length := by
  unfold hd sortSet
  rw [List.length_map]
  exact (sortI_perm _).length_eq
theorem lenSet_rz (b : Bool) {r : List Nat} (h : r.length < 64) : gLenSet [rzD b r] = some (nD (hd r).length) := by
  have e : (intsD (r.map nD)).bind (fun ns => if ns.length < 64 then some (D.int (ddI ns).length) else none) = some (nD (hd r).length) := by
    rw [ints_nD]
    simp only [Option.bind_some, List.length_map]
    rw [if_pos h, hd_len]
    rfl
  cases b with
  | false => exact e
  | true => exact e
theorem ddI_all : ∀ {xs : List Int}, (ddI xs).length = xs.length → xs.Nodup
  | [], _ => List.nodup_nil
  | x :: xs, h => by
    have h2 := len_ddI xs
    unfold ddI at h
    split at h
    · simp only [List.length_cons] at h
      omega
    · rename_i hx
      simp only [List.length_cons, Nat.add_right_cancel_iff] at h
      exact List.nodup_cons.mpr ⟨hx, ddI_all h⟩
theorem natI_nd {r : List Nat} : (natI r).Nodup ↔ r.Nodup := by
  unfold natI
  constructor
  · intro h
    exact (List.pairwise_map.mp h).imp fun {a b} hne e => hne (by rw [e])
  · intro h
    exact List.pairwise_map.mpr (h.imp fun {a b} hne e => hne (by omega))
theorem hd_nodup (r : List Nat) : (hd r).length = r.length ↔ r.Nodup := by
  rw [hd_len]
  have e : (natI r).length = r.length := by unfold natI; rw [List.length_map]
  constructor
  · intro h
    exact natI_nd.mp (ddI_all (by rw [h, e]))
  · intro h
    rw [ddI_self (natI_nd.mpr h), e]
theorem hd_onto {r : List Nat} {m : Nat} (h : ∀ x ∈ r, x < m) : (hd r).length = m ↔ hd r = List.range m := by
  constructor
  · intro e
    have nd : (hd r).Nodup := (hd_lt r).imp fun {a b} q => Nat.ne_of_lt q
    refine ((hd_uniq List.pairwise_lt_range fun x => ⟨fun hx => ?_, fun hx => List.mem_range.mpr (h x hx)⟩)).symm
    rw [List.mem_range] at hx
    by_cases q : x ∈ r
    · exact q
    · exfalso
      have nd2 : (x :: hd r).Nodup := List.nodup_cons.mpr ⟨fun z => q (mem_hd.mp z), nd⟩
      have := nodup_len' nd2 (ys := List.range m) fun y hy => by
        rcases List.mem_cons.mp hy with rfl | hy
        · exact List.mem_range.mpr hx
        · exact List.mem_range.mpr (h y (mem_hd.mp hy))
      rw [List.length_cons, List.length_range] at this
      omega
  · intro e
    rw [e, List.length_range]
theorem apartG (b : Bool) {ms : List (List Nat)} (h64 : ∀ r ∈ ms, r.length < 64) (hl : ms.length ≤ 100) : f_is_apart [.fz (mzD b ms)] = some (.fz (.bl (ms.all fun r => decide r.Nodup)), []) := by
  rw [fx_is_apart]
  unfold b_is_apart
  refine fn_wp ?_
  have lc := lcA (n := 2) (v := 1) (it := iSeq (dVar 0)) (e := e_is_apart_1) (ρ := [some (.fz (mzD b ms)), none]) (rzD b) (fun r => D.bl (decide r.Nodup)) (xs := ms) (iSeq_tup (var_at rfl)) (by omega) rfl rfl .none fun r hr => by
    unfold e_is_apart_1
    walk_at "sets"
    refine d2_pure (dA_pure (aOne_pure (var_at rfl)) (lenSet_rz b (h64 r hr))) (dA_pure (aOne_pure (var_at rfl)) (len_rz b r)) ((eq_nat _ _).trans ?_)
    rw [decide_eq_decide.mpr (hd_nodup r)]
  exact wp_ret (dA_pure (aOne_pure lc) (gAll_of _ _)) ⟨rfl, rfl⟩
theorem zip_rz (b : Bool) (ms : List (List Nat)) (L : List Nat) (h : ms.length = L.length) : zipD (ms.map (rzD b)) (L.map nD) = (List.range L.length).map fun k => D.tup [rzD b (ms.getD k []), nD (L.getD k 0)] := by
  refine List.ext_getElem? fun k => ?_
  by_cases hk : k < L.length
  · have hz : k < (zipD (ms.map (rzD b)) (L.map nD)).length := by rw [zipD_length, List.length_map, List.length_map]; omega
    rw [List.getElem?_eq_getElem hz, List.getElem?_map, List.getElem?_range hk]
    obtain ⟨x, y, hx, hy, e⟩ := zipD_at (List.getElem?_eq_getElem hz)
    rw [e]
    simp only [Option.map_some]
    rw [getD_of hx, getD_of hy]
  · rw [List.getElem?_eq_none (by rw [zipD_length, List.length_map, List.length_map]; omega), List.getElem?_eq_none (by simp; omega)]
def ontoB (M : List Nat) (ms : List (List Nat)) : Bool := (List.range M.length).all fun k => decide (hd (ms.getD k []) = List.range (M.getD k 0))
theorem ontoG (b : Bool) {M : List Nat} {bs ms : List (List Nat)} (hl : ms.length = M.length) (h3 : M.length ≤ 100) (h64 : ∀ r ∈ ms, r.length < 64) (hb : ∀ k, k < M.length → ∀ x ∈ ms.getD k [], x < M.getD k 0) : f_is_onto [.fz (worldD M bs), .fz (mzD b ms)] = some (.fz (.bl (ontoB M ms)), []) := by
  rw [fx_is_onto]
  unfold b_is_onto
  refine fn_wp ?_
  have ez : iZip (dVar 1) (d2 gIx (dVar 0) (dC (.int 0))) [some (.fz (worldD M bs)), some (.fz (mzD b ms)), none, none] = some ((List.range M.length).map fun k => D.tup [rzD b (ms.getD k []), nD (M.getD k 0)], [some (.fz (worldD M bs)), some (.fz (mzD b ms)), none, none]) := by
    rw [zip_pure (xs := ms.map (rzD b)) (ys := M.map nD) (var_at rfl) (d2_pure (var_at rfl) dC_pure o_w0), zip_rz b ms M hl]
  have lc := lcZ (n := 4) (v := 2) (w := 3) (e := e_is_onto_1) (fun k => rzD b (ms.getD k [])) (fun k => nD (M.getD k 0)) (fun k => D.bl (decide (hd (ms.getD k []) = List.range (M.getD k 0)))) ez (by omega) rfl (by decide) rfl .none rfl .none fun k hk => by
    have hr : ms.getD k [] ∈ ms := by
      rw [List.getD_eq_getElem?_getD, List.getElem?_eq_getElem (by omega)]
      exact List.getElem_mem _
    unfold e_is_onto_1
    walk_at "sets"
    refine d2_pure (dA_pure (aOne_pure (var_at rfl)) (lenSet_rz b (h64 _ hr))) (var_at rfl) ((eq_nat _ _).trans ?_)
    rw [decide_eq_decide.mpr (hd_onto (hb k hk))]
  exact wp_ret (dA_pure (aOne_pure lc) (gAll_of _ _)) ⟨rfl, rfl⟩
theorem rf_turnG (b : Bool) {M : List Nat} {bs ms : List (List Nat)} (hl : ms.length = M.length) (h3 : M.length ≤ 100) (h64 : ∀ r ∈ ms, r.length < 64) (hb : ∀ k, k < M.length → ∀ x ∈ ms.getD k [], x < M.getD k 0) (no : ((ms.all fun r => decide r.Nodup) && ontoB M ms) = false) :
    rf_turned_back [.fz (worldD M bs), .fz (mzD b ms)] = some ("NoMap" : Str) := by
  have g1 := apartG b h64 (by omega)
  have g2 := ontoG (bs := bs) b hl h3 h64 hb
  have t := bOr_pure (bNot_pure (x := ms.all fun r => decide r.Nodup) (bD_pure (cal_p1 (f0 := dVar 1) (ρ := [some (.fz (worldD M bs)), some (.fz (mzD b ms)), none, none, none, none, none]) (var_at rfl) g1))) (bNot_pure (x := ontoB M ms) (bD_pure (cal_p2 (f0 := dVar 0) (f1 := dVar 1) (var_at rfl) (var_at rfl) g2)))
  show Option.map (fun p : Str × Env' => p.1) (rb_turned_back _) = _
  unfold rb_turned_back rIf
  show Option.map (fun p : Str × Env' => p.1) (Option.bind (bOr _ _ [some (.fz (worldD M bs)), some (.fz (mzD b ms)), none, none, none, none, none]) _) = _
  rw [t]
  have e : (!(ms.all fun r => decide r.Nodup) || !ontoB M ms) = true := by rw [← Bool.not_and, no]; rfl
  simp only [Option.bind_some, e, if_true]
  rfl
/-- rows that are orders -/
theorem ords_all {M : List Nat} {ms : List (List Nat)} (OR : Ords M ms) : (ms.all fun r => decide r.Nodup) = true ∧ ontoB M ms = true := by
  constructor
  · rw [List.all_eq_true]
    intro r hr
    obtain ⟨k, hk⟩ := List.mem_iff_getElem?.mp hr
    have hkM : k < M.length := by rw [← OR.len]; exact (List.getElem?_eq_some_iff.mp hk).1
    obtain ⟨p, h1, h2⟩ := OR.perm k _ (List.getElem?_eq_getElem hkM)
    rw [hk] at h1
    cases h1
    exact decide_eq_true (perm_nd h2)
  · unfold ontoB
    rw [List.all_eq_true]
    intro k hk
    rw [List.mem_range] at hk
    have hn : M[k]? = some (M.getD k 0) := by rw [List.getD_eq_getElem?_getD, List.getElem?_eq_getElem hk]; rfl
    have h2 := OR.at_ hn
    refine decide_eq_true ?_
    rw [← hd_range (M.getD k 0)]
    exact hd_uniq (hd_lt _) (fun x => mem_hd.trans h2.mem_iff)
abbrev tbG (M : List Nat) (bs : List (List Nat)) (b : Bool) (ms : List (List Nat)) (v2 v3 v4 v5 v6 : Option O) : Env' := [some (.fz (worldD M bs)), some (.fz (mzD b ms)), v2, v3, v4, v5, v6]
theorem turnG (b : Bool) {M : List Nat} {bs ms : List (List Nat)} (OR : Ords M ms) (h3 : M.length ≤ 3) (few : ∀ n ∈ M, n ≤ 60) : f_turned_back [.fz (worldD M bs), .fz (mzD b ms)] = some (.fz (tpD (ms.map invL)), []) := by
  have ol := OR.len
  have rows : ∀ k, k < M.length → (ms.getD k []).Perm (List.range (M.getD k 0)) ∧ M.getD k 0 ≤ 60 := fun k hk => by
    have hn : M[k]? = some (M.getD k 0) := by rw [List.getD_eq_getElem?_getD, List.getElem?_eq_getElem hk]; rfl
    exact ⟨OR.at_ hn, few _ (List.mem_of_getElem? hn)⟩
  have h64 : ∀ r ∈ ms, r.length < 64 := fun r hr => by
    obtain ⟨k, hk⟩ := List.mem_iff_getElem?.mp hr
    obtain ⟨h1, h2⟩ := rows k (by rw [← ol]; exact (List.getElem?_eq_some_iff.mp hk).1)
    rw [getD_of hk] at h1
    rw [perm_len h1]
    omega
  have g1 := apartG b h64 (by omega)
  have g2 := ontoG (bs := bs) b ol (by omega) h64 fun k hk x hx => by
    have := (rows k hk).1.mem_iff.mp hx
    exact List.mem_range.mp this
  obtain ⟨a1, a2⟩ := ords_all OR
  rw [a1] at g1
  rw [a2] at g2
  rw [fx_turned_back]
  unfold b_turned_back
  refine fn_wp ?_
  refine wp_no (bOr_pure (x := false) (y := false) (bNot_pure (x := true) (bD_pure (cal_p1 (a0 := mzD b ms) (var_at rfl) g1))) (bNot_pure (x := true) (bD_pure (cal_p2 (a0 := worldD M bs) (a1 := mzD b ms) (var_at rfl) (var_at rfl) g2)))) ?_
  refine wp_nil ?_
  walk_at "sets"
  refine wp_xs (enc := rzD b) (xs := ms) (fun i ρ => ∃ v3 v4 v5 v6, ρ = tbG M bs b ms (some (.lst ((ms.take i).map fun p => .fz (tpR (invL p))))) v3 v4 v5 v6) (iSeq_tup (var_at rfl)) ⟨none, none, none, none, rfl⟩ ?_ ?_
  · rintro i r ρ hr ⟨v3, v4, v5, v6, rfl⟩
    have hi := (List.getElem?_eq_some_iff.mp hr).1
    obtain ⟨h2, h7⟩ := rows i (by omega)
    rw [getD_of hr] at h2
    generalize M.getD i 0 = n at h2 h7
    have hln := perm_len h2
    refine ⟨_, rfl, ?_⟩
    walk_at "sets"
    unfold l_turned_back_2
    refine wp_set (rep_pure (n := r.length) (dA_pure (aOne_pure (var_at rfl)) (len_rz b r)) (by omega)) ?_
    walk_at "sets"
    have hen : iEnum (dVar 3) (tbG M bs b ms (some (.lst ((ms.take i).map fun p => .fz (tpR (invL p))))) (some (.fz (rzD b r))) (some (rwO (List.replicate r.length 0))) v5 v6) = some ((List.range r.length).map fun k => D.tup [nD k, nD (r.getD k 0)], tbG M bs b ms (some (.lst ((ms.take i).map fun p => .fz (tpR (invL p))))) (some (.fz (rzD b r))) (some (rwO (List.replicate r.length 0))) v5 v6) := by
      have e0 : iEnum (dVar 3) (tbG M bs b ms (some (.lst ((ms.take i).map fun p => .fz (tpR (invL p))))) (some (.fz (rzD b r))) (some (rwO (List.replicate r.length 0))) v5 v6) = some (enumD 0 (r.map nD), tbG M bs b ms (some (.lst ((ms.take i).map fun p => .fz (tpR (invL p))))) (some (.fz (rzD b r))) (some (rwO (List.replicate r.length 0))) v5 v6) := by cases b <;> rfl
      rw [e0, enum_ix, List.length_map]
      congr 2
      refine List.map_congr_left fun k hk => ?_
      rw [List.mem_range] at hk
      rw [getD_map (d' := 0) hk, Nat.zero_add]
    refine wp_rg (n := r.length) (fun j ρ => ∃ c v5 v6, ρ = tbG M bs b ms (some (.lst ((ms.take i).map fun p => .fz (tpR (invL p))))) (some (.fz (rzD b r))) (some (rwO c)) v5 v6 ∧ c.length = r.length ∧ ∀ x, x < j → c.getD (r.getD x 0) 0 = x) hen ⟨List.replicate r.length 0, v5, v6, rfl, by simp, fun x hx => absurd hx (Nat.not_lt_zero _)⟩ ?_ ?_
    · rintro j ρ hj ⟨c, v5, v6, rfl, hb, hx⟩
      have hpj := perm_lt h2 (x := j) (by omega)
      refine ⟨_, rfl, ?_⟩
      walk_at "sets"
      unfold l_turned_back_1
      refine wp_nx (st_seti (var_at rfl) (var_at rfl) rfl (rwO_set (k := r.getD j 0) (v := j) (by omega))) ⟨rfl, c.set (r.getD j 0) j, some (.fz (nD j)), some (.fz (nD (r.getD j 0))), rfl, by rw [List.length_set]; exact hb, fun x hxj => ?_⟩
      rw [getD_set]
      by_cases z : x = j
      · subst z; rw [if_pos ⟨rfl, by omega⟩]
      · rw [if_neg fun w => z (perm_inj h2 (by omega) (by omega) w.1.symm)]
        exact hx x (by omega)
    · rintro ρ ⟨c, v5, v6, rfl, hb, hx⟩
      have eb : c = invL r := ext_row (by unfold invL; rw [List.length_map, List.length_range]; exact hb) fun y hy => by
        obtain ⟨i1, i2⟩ := perm_idx h2 (y := y) (by omega)
        have := hx (r.idxOf y) (by omega)
        rw [i2] at this
        rw [this]
        unfold invL
        rw [getD_rg (by omega)]
      have fz : (rwO c).freeze = .lst (c.map nD) := by
        unfold rwO
        exact frz_map nD c
      have et := tuple_own (i := 4) (ρ := tbG M bs b ms (some (.lst ((ms.take i).map fun p => .fz (tpR (invL p))))) (some (.fz (rzD b r))) (some (rwO c)) v5 v6) rfl fz
      simp only [List.set_cons_succ, List.set_cons_zero] at et
      refine ⟨.nx, tbG M bs b ms (some (.lst ((ms.take (i + 1)).map fun p => .fz (tpR (invL p))))) (some (.fz (rzD b r))) (some (.fz (.lst (c.map nD)))) v5 v6, ?_, rfl, _, _, _, _, rfl⟩
      rw [ap_sExpr, ap_dMet]
      simp only [List.getElem?_cons_succ, List.getElem?_cons_zero]
      rw [ap_aCons, et]
      simp only [Option.bind_some, ap_aNil, Option.map_some, List.getElem?_cons_succ, List.getElem?_cons_zero, ap_mApp]
      rw [if_pos (by rw [List.length_map, List.length_take]; unfold lim; omega)]
      simp only [Option.map_some, List.set_cons_succ, List.set_cons_zero]
      rw [List.take_succ, hr, List.map_append, eb]
      rfl
  · rintro ρ ⟨v3, v4, v5, v6, rfl⟩
    rw [List.take_length]
    have fz := frz_map (fun p => tpR (invL p)) ms
    have e7 : ms.map (fun p => tpR (invL p)) = (ms.map invL).map tpR := by rw [List.map_map]; rfl
    rw [e7] at fz
    exact wp_ret (tuple_own (i := 2) rfl fz) ⟨rfl, rfl⟩
end VL
set_option Elab.async false
set_option linter.all false
set_option maxRecDepth 100000
set_option maxHeartbeats 4000000
namespace VL
open PySem L2
theorem orders_ok {L : List Nat} {as : List (List Nat)} {o : O} (ho : StOk o) (hL : L.length ≤ 1000) (few : ∀ n ∈ L, n ≤ 7) : ∃ o' os, f__law_orders [o, .fz (worldD L as)] = some (.fz (tzD os), [o']) ∧ StOk o' ∧ Ords L os := by
  obtain ⟨ρ', e, o', os, v3, v4, rfl, ho', hlen, hp⟩ := forL_inv (g := gN 3) (b := l__law_orders_1) (ds := L.map nD) (ρ := [some o, some (.fz (worldD L as)), some (tzO []), none, none, none])
    (fun i ρ => ∃ o' os v3 v4, ρ = [some o', some (.fz (worldD L as)), some (tzO os), v3, v4, none] ∧ StOk o' ∧ os.length = i ∧ ∀ (e n : Nat), e < i → L[e]? = some n → ∃ p, os[e]? = some p ∧ p.Perm (List.range n))
    ⟨o, [], _, _, rfl, ho, rfl, fun e n h => absurd h (Nat.not_lt_zero _)⟩ (by
      rintro i d ρ hd ⟨o1, os, v3, v4, rfl, ho1, hlen, hp⟩
      rw [List.getElem?_map] at hd
      cases q : L[i]? with
      | none => rw [q] at hd; cases hd
      | some n =>
        rw [q] at hd
        cases hd
        have n7 := few n (List.mem_of_getElem? q)
        have hiL := (List.getElem?_eq_some_iff.mp q).1
        obtain ⟨o2, p, v4', ec, ho2, hpp⟩ := orders_1 (n := n) (o := o1) (v1 := some (.fz (worldD L as))) (v2 := some (tzO os)) ho1 (by omega)
        refine ⟨[some o1, some (.fz (worldD L as)), some (tzO os), some (.fz (nD n)), v4, none], [some o2, some (.fz (worldD L as)), some (tzO (os ++ [p])), some (.fz (nD n)), v4', none], rfl, ?_, o2, os ++ [p], _, _, rfl, ho2, by rw [List.length_append, hlen]; rfl, fun e m he hm => ?_⟩
        · unfold l__law_orders_1
          have el : nListR1 (dVar 3) [some o1, some (.fz (worldD L as)), some (tzO os), some (.fz (nD n)), v4, none] = some (.lst ((rgD 0 n).map .fz), [some o1, some (.fz (worldD L as)), some (tzO os), some (.fz (nD n)), v4, none]) := by
            unfold nListR1
            rw [var_at (i := 3) rfl]
            simp only [Option.bind_some]
            rw [if_pos (tupR (by omega)), Int.toNat_natCast]
          rw [st_set el]
          simp only [List.set_cons_succ, List.set_cons_zero]
          have e1 : toD (nLc 6 [5] (iRg gRg1 (aCons (dVar 3) aNil)) (gN 5) bYes e__law_orders_1) [some o1, some (.fz (worldD L as)), some (tzO os), some (.fz (nD n)), some (.lst ((rgD 0 n).map .fz)), none] = some (.lst (p.map nD), [some o2, some (.fz (worldD L as)), some (tzO os), some (.fz (nD n)), v4', none]) := by
            refine toD_lst2 ?_
            rw [nLc_ap, rg_pure (n := n) (aOne_pure (var_at rfl)) (by omega)]
            simp only [Option.bind_some, rgD_len]
            rw [if_pos (by unfold lim; omega), ec]
            rfl
          rw [ap_sExpr, ap_dMet]
          simp only [List.getElem?_cons_succ, List.getElem?_cons_zero]
          rw [ap_aCons, ap_dA, ap_aCons, e1]
          simp only [Option.bind_some, ap_aNil, Option.map_some, gTupleZ_lst, List.getElem?_cons_succ, List.getElem?_cons_zero, ap_mApp]
          rw [if_pos (by rw [List.length_map, hlen]; unfold lim; omega)]
          simp only [Option.map_some, List.set_cons_succ, List.set_cons_zero]
          rw [tzO, List.map_append]
          rfl
        · by_cases z : e < i
          · obtain ⟨p', h1, h2⟩ := hp e m z hm
            exact ⟨p', by rw [List.getElem?_append_left (by omega)]; exact h1, h2⟩
          · have : e = i := by omega
            subst this
            rw [q] at hm
            cases hm
            exact ⟨p, by rw [List.getElem?_append_right (by omega), hlen, Nat.sub_self]; rfl, hpp⟩)
  rw [List.length_map] at hlen hp
  refine ⟨o', os, ?_, ho', ⟨hlen, fun e n h => hp e n (List.getElem?_eq_some_iff.mp h).1 h⟩⟩
  rw [fx__law_orders]
  unfold b__law_orders
  have e0 : nA gLst' aNil [some o, some (.fz (worldD L as)), none, none, none, none] = some (tzO [], [some o, some (.fz (worldD L as)), none, none, none, none]) := nA_pure rfl (if_pos (show 0 ≤ lim from by decide))
  rw [st_set e0]
  simp only [List.set_cons_succ, List.set_cons_zero]
  have ew : d2 gIx (dVar 1) (dC (.int 0)) [some o, some (.fz (worldD L as)), some (tzO []), none, none, none] = some (tpR L, _) := d2_pure (var_at rfl) rfl (by unfold worldD; simp)
  rw [st_for (iSeq_tup ew) e]
  have hfz : (tzO os).freeze = .lst (os.map tzR) := by
    unfold tzO
    rw [fz_lst', freezes_fun]
  rw [ap_sRet, ap_toO, ap_dA, ap_aCons, dFz_own (i := 2) rfl hfz]
  simp only [Option.bind_some, ap_aNil, Option.map_some, gTuple_lst]
  rfl
end VL
set_option Elab.async false
set_option linter.all false
set_option maxRecDepth 100000
set_option maxHeartbeats 4000000
namespace VL
open PySem L2
section
variable {sz : Nat → Nat} {cs : List Fn} {K : Nat} {L M : List Nat} {as bs : List (List Nat)}
theorem some_mapZ_ok (P : PatK sz cs K) (A : Wd cs K L as) (B : Wd cs K M bs) {o : O} (ho : StOk o) :
    (∃ o' ms, f__law_some_map [o, .fz (patD K cs), .fz (worldD L as), .fz (worldD M bs)] = some (.fz (tzD ms), [o']) ∧ StOk o' ∧ Mp cs K L M as bs ms) ∨
    ∃ o', f__law_some_map [o, .fz (patD K cs), .fz (worldD L as), .fz (worldD M bs)] = some (.fz .non, [o']) ∧ StOk o' ∧ ¬ ∀ m ∈ M, m = 1 := by
  have hK3 := P.k3
  have hK1 := P.k1
  rw [fx__law_some_map]
  unfold b__law_some_map
  have e0 : toD (nLc 10 [5] (iRg gRg1 (aCons (d2 gIx (dVar 1) (dC (.int 0))) aNil)) (gN 5) bYes e__law_some_map_1) [some o, some (.fz (patD K cs)), some (.fz (worldD L as)), some (.fz (worldD M bs)), none, none, none, none, none, none] = some (knD (List.replicate K []), [some o, some (.fz (patD K cs)), some (.fz (worldD L as)), some (.fz (worldD M bs)), none, none, none, none, none, none]) := by
    have := nLc1 (n := 10) (v := 5) (enc := nD) (r := fun _ => D.dK []) (xs := List.range K) (e := e__law_some_map_1) (it := iRg gRg1 (aCons (d2 gIx (dVar 1) (dC (.int 0))) aNil)) (ρ := [some o, some (.fz (patD K cs)), some (.fz (worldD L as)), some (.fz (worldD M bs)), none, none, none, none, none, none]) (by rw [← rgD_eq]; exact rg_pure (aOne_pure (pat_0 (var_at rfl))) (by omega)) (by rw [List.length_range]; unfold lim; omega) rfl rfl .none fun x hx => by
      unfold e__law_some_map_1
      rw [ap_toD]
      unfold nDK0
      simp only [Option.map_some, O.freeze, O.freezeK]
    rw [toD_lst this]
    show some (D.lst _, _) = some (D.lst _, _)
    rw [List.map_replicate]
    congr 3
    exact List.map_const' .. |>.trans (by rw [List.length_range]; rfl)
  rw [st_asg e0]
  simp only [List.set_cons_succ, List.set_cons_zero]
  have := forL_or (g := gN 5) (b := l__law_some_map_3) (ds := rgD 0 K) (ρ := smE K cs L M as bs o (List.replicate K []) none none none none none)
    (fun i ρ => ∃ o' ks' v5' v6' v7' v8' v9', ρ = smE K cs L M as bs o' ks' v5' v6' v7' v8' v9' ∧ StOk o' ∧ Kp v6' ∧ Kp v9' ∧ Kd cs K L M as bs ks' ∧ ∀ k n x, k < i → L[k]? = some n → x < n → ∃ y, at_ ks' k x = some y) (Lost M)
    ⟨o, _, none, none, none, none, none, rfl, ho, .none, .none, Kd.start (by omega), fun k n x h => absurd h (Nat.not_lt_zero _)⟩ (by
      rintro i d ρ hd ⟨o1, ks1, v5, v6, v7, v8, v9, rfl, ho1, k6, k9, D1, hx⟩
      obtain ⟨hi, rfl⟩ := rgD_get hd
      obtain ⟨n, hn⟩ : ∃ n, L[i]? = some n := ⟨_, List.getElem?_eq_getElem (show i < L.length by rw [A.k]; exact hi)⟩
      have hn7 := A.few n (List.mem_of_getElem? hn)
      refine ⟨_, rfl, ?_⟩
      show (∃ ρ2, l__law_some_map_3 (smE K cs L M as bs o1 ks1 (some (.fz (nD i))) v6 v7 v8 v9) = _ ∧ _) ∨ ∃ r ρ2, l__law_some_map_3 (smE K cs L M as bs o1 ks1 (some (.fz (nD i))) v6 v7 v8 v9) = _ ∧ _
      unfold l__law_some_map_3
      rw [sFor_ap, rg_pure (n := n) (aOne_pure (d2_pure (wD_0 (L := L) (as := as) (var_at (i := 2) rfl)) (var_at (i := 5) rfl) (tpR_ix hn))) (by omega)]
      simp only [Option.bind_some]
      rcases sm_2 (v6 := v6) (v7 := v7) (v8 := v8) (v9 := v9) P A B D1 ho1 hi hn k6 k9 with ⟨o', ks', v6', v7', v8', v9', e1, h1, h2, h3, h4, h5, h6⟩ | h
      · refine .inl ⟨_, e1, o', ks', _, v6', v7', v8', v9', rfl, h1, h2, h3, h4, fun k n' x hk hn' hxn => ?_⟩
        rcases Nat.lt_succ_iff_lt_or_eq.mp hk with hk | rfl
        · obtain ⟨y, hy⟩ := hx k n' x hk hn' hxn
          exact ⟨y, h5 _ _ _ hy⟩
        · rw [hn] at hn'
          cases hn'
          exact h6 x hxn
      · exact .inr h)
  rcases this with ⟨ρ', e1, o', ks', v5', v6', v7', v8', v9', rfl, h1, h2, h3, h4, h5⟩ | ⟨r, ρ', e1, rfl, h1, o', ρ1, rfl, h2⟩
  · rw [rgD_len] at h5
    have h5 : ∀ k n x, L[k]? = some n → x < n → ∃ y, at_ ks' k x = some y := fun k n x hn hx => h5 k n x (by rw [← A.k]; exact (List.getElem?_eq_some_iff.mp hn).1) hn hx
    refine .inl ⟨o', mapK ks' K L, ?_, h1, mapK_ok P A B h4 h5⟩
    rw [st_for (rg_pure (n := K) (aOne_pure (pat_0 (var_at rfl))) (by omega)) e1]
    have ec := nLc1 (n := 10) (v := 9) (enc := nD) (r := fun k => tzR (mapR ks' k (L.getD k 0))) (xs := List.range K) (e := e__law_some_map_3) (it := iRg gRg1 (aCons (d2 gIx (dVar 1) (dC (.int 0))) aNil)) (ρ := smE K cs L M as bs o' ks' v5' v6' v7' v8' v9') (by rw [← rgD_eq]; exact rg_pure (aOne_pure (pat_0 (var_at rfl))) (by omega)) (by rw [List.length_range]; unfold lim; omega) rfl rfl h3 fun k hk => by
      rw [List.mem_range] at hk
      have hkL : k < L.length := by rw [A.k]; exact hk
      have hn : L[k]? = some (L.getD k 0) := by rw [List.getD_eq_getElem?_getD, List.getElem?_eq_getElem hkL]; rfl
      have hn7 := A.few _ (List.mem_of_getElem? hn)
      have hk1 : k < ks'.length := by rw [h4.len]; exact hk
      unfold e__law_some_map_3
      have ei := nLc1 (n := 10) (v := 6) (enc := nD) (r := fun x => nD ((at_ ks' k x).getD 0)) (xs := List.range (L.getD k 0)) (e := e__law_some_map_2) (it := iRg gRg1 (aCons (d2 gIx (d2 gIx (dVar 2) (dC (.int 0))) (dVar 9)) aNil)) (ρ := smE K cs L M as bs o' ks' v5' v6' v7' v8' (some (.fz (nD k)))) (by rw [← rgD_eq]; exact rg_pure (aOne_pure (d2_pure (wD_0 (L := L) (as := as) (var_at (i := 2) rfl)) (var_at (i := 9) rfl) (tpR_ix hn))) (by omega)) (by rw [List.length_range]; unfold lim; omega) rfl rfl h2 fun x hx => by
        rw [List.mem_range] at hx
        obtain ⟨y, hy⟩ := h5 k _ x hn hx
        unfold e__law_some_map_2
        refine d2_pure (d2_pure (var_at (i := 4) (d := knD ks') rfl) (var_at (i := 9) (d := nD k) rfl) (kn_ix hk1)) (var_at (i := 6) (d := nD x) rfl) ?_
        unfold gIx dkD keyD
        simp only [Option.bind_some]
        rw [dk_val nD]
        unfold at_ at hy ⊢
        rw [hy]
        rfl
      show dA gTupleZ _ (smE K cs L M as bs o' ks' v5' v6' v7' v8' (some (.fz (nD k)))) = _
      rw [dA_pure (aOne_pure (toD_lst ei)) (gTupleZ_lst _)]
      show some (D.tz _, _) = some (D.tz _, _)
      unfold mapR
      rw [List.map_map]
      rfl
    rw [ap_sRet, ap_toO, dA_pure (aOne_pure (toD_lst ec)) (gTuple_lst _)]
    show some (O.fz (D.tup _), _) = some (O.fz (D.tup _), _)
    unfold mapK
    rw [List.map_map]
    rfl
  · refine .inr ⟨o', ?_, h2, h1⟩
    rw [ap_sSeq, sFor_ap, rg_pure (n := K) (aOne_pure (pat_0 (var_at rfl))) (by omega)]
    simp only [Option.bind_some, e1]
    rfl
end
end VL
set_option Elab.async false
set_option linter.all false
set_option maxRecDepth 100000
set_option maxHeartbeats 4000000
namespace VL
open PySem L2
/-! ### crowds -/
section
variable {sz : Nat → Nat} {cs : List Fn} {K k : Nat}
end
end VL
set_option Elab.async false
set_option linter.all false
set_option maxRecDepth 100000
set_option maxHeartbeats 4000000
namespace VL
open PySem L2
/-! ### the world of truths -/
section
variable {sz : Nat → Nat} {cs : List Fn} {K k : Nat}
/-! ### the law's own -/
end
end VL
set_option Elab.async false
set_option linter.all false
set_option maxRecDepth 100000
set_option maxHeartbeats 4000000
namespace VL
open PySem L2
/-! ### crowds, how many -/
section
variable {sz : Nat → Nat} {cs : List Fn} {K : Nat} {L M : List Nat} {as bs : List (List Nat)}
/-! ### the world of truths -/
end
end VL
set_option Elab.async false
set_option linter.all false
set_option maxRecDepth 100000
set_option maxHeartbeats 4000000
namespace VL
open PySem L2
section
variable {sz : Nat → Nat} {cs : List Fn} {K : Nat} {L M : List Nat} {as bs part some_ : List (List Nat)}
/-! ### characters -/
end
end VL
set_option Elab.async false
set_option linter.all false
set_option maxRecDepth 100000
set_option maxHeartbeats 4000000
namespace VL
open PySem L2
section
variable {sz : Nat → Nat} {cs : List Fn} {K : Nat} {L M : List Nat} {as bs part f : List (List Nat)}
/-! ### character, part_by: the walks -/
end
end VL
set_option Elab.async false
set_option linter.all false
set_option maxRecDepth 100000
set_option maxHeartbeats 4000000
namespace VL
open PySem L2
section
variable {ρ ρ2 : Env'} {f : DF}
end
/-- a world's shape, its doings as long as the kinds they start at -/
structure Shq (cs : List Fn) (K b : Nat) (L : List Nat) (as : List (List Nat)) : Prop extends Shp cs K b L as where
  ln : ∀ k, k < cs.length → (as.getD k []).length = L.getD (dA_ cs k) 0
section
variable {sz : Nat → Nat} {cs : List Fn} {K b c : Nat} {L M : List Nat} {as bs : List (List Nat)}
end
end VL
set_option Elab.async false
set_option linter.all false
set_option maxRecDepth 100000
set_option maxHeartbeats 4000000
namespace VL
open PySem L2
section
variable {sz : Nat → Nat} {cs : List Fn} {K b c : Nat} {L M : List Nat} {as bs : List (List Nat)}
end
end VL
set_option Elab.async false
set_option linter.all false
set_option maxRecDepth 100000
set_option maxHeartbeats 4000000
namespace VL
open PySem L2
section
variable {sz : Nat → Nat} {cs : List Fn} {K b c : Nat} {L M : List Nat} {as bs ms ns : List (List Nat)} {ρ : Env'} {f g h : DF}
theorem listR_pure {n : Nat} (e : f ρ = some (nD n, ρ)) (hn : n ≤ 1000000) : toD (nListR1 f) ρ = some (rowL (List.range n), ρ) := by
  have : nListR1 f ρ = some (.lst (((List.range n).map nD).map .fz), ρ) := by
    unfold nListR1
    rw [e]
    simp only [Option.bind_some]
    rw [if_pos (tupR (n := n) (by omega)), Int.toNat_natCast, rgD_eq]
  exact toD_lst this
end
end VL
set_option Elab.async false
set_option linter.all false
set_option maxRecDepth 100000
set_option maxHeartbeats 4000000
namespace VL
open PySem L2
section
variable {sz : Nat → Nat} {cs : List Fn} {K : Nat} {L M : List Nat} {as bs ms os : List (List Nat)} {ns : List Int}
theorem eq_mz (b : Bool) (x y : List (List Nat)) : gEq (tpD x) (mzD b y) = some (.bl (decide (x = y))) := by
  cases b with
  | false => exact eq_tpD
  | true =>
    have e1 : ∀ ys : List (List Nat), D.pys (ys.map tzR) = D.pys (ys.map tpR) := fun ys => by
      induction ys with
      | nil => rfl
      | cons r ys ih =>
        rw [List.map_cons, List.map_cons, D.pys, D.pys, ih]
        rfl
    have e2 : (mzD true y).py = (tpD y).py := congrArg PyData.tuple (e1 y)
    have e3 : (mzD true y).dat = (tpD y).dat := congrArg SeqAt.shaped e2
    have h := eq_tpD (a := x) (b := y)
    unfold gEq at h ⊢
    rw [e2, e3]
    exact h
theorem g13 : ∃ z, g__law_refused (refE 5 1 "NoMap") = some (.rt (.lst [.fz (.int 1)]), z) := ⟨_, rfl⟩
theorem nref13 {ρ : Env'} {d1 d2 : D} (h1 : ρ[1]? = some (some (.fz d1))) (h2 : ρ[2]? = some (some (.fz d2))) (h : rf_turned_back [.fz d1, .fz d2] = some ("NoMap" : Str)) :
    toD (nRef (calR rf_turned_back (aCons (dVar 1) (aCons (dVar 2) aNil))) 5 1 ["NoMap"] g__law_refused) ρ = some (.lst [.int 1], ρ) := by
  obtain ⟨z, e⟩ := g13
  have er : calR rf_turned_back (aCons (dVar 1) (aCons (dVar 2) aNil)) ρ = some (("NoMap" : Str), ρ) := by
    unfold calR
    rw [aTwo_pure (var_at h1) (var_at h2)]
    show Option.map _ (rf_turned_back [.fz d1, .fz d2]) = _
    rw [h]
    rfl
  have en : nRef (calR rf_turned_back (aCons (dVar 1) (aCons (dVar 2) aNil))) 5 1 ["NoMap"] g__law_refused ρ = some (.lst [.fz (.int 1)], ρ) := by
    unfold nRef
    rw [er]
    dsimp only
    rw [if_pos (by exact List.mem_singleton.mpr rfl), e]
  exact toD_pure en rfl
def apB (ms : List (List Nat)) (i : Nat) : Bool := (ms.take i).all fun r => decide r.Nodup
def onB (M : List Nat) (ms : List (List Nat)) (i : Nat) : Bool := (List.range i).all fun k => decide (hd (ms.getD k []) = List.range (M.getD k 0))
abbrev lkE (L M : List Nat) (as bs : List (List Nat)) (b : Bool) (ms : List (List Nat)) (v3 v4 v5 v6 v7 v8 v9 : Option O) : Env' := [some (.fz (worldD L as)), some (.fz (worldD M bs)), some (.fz (mzD b ms)), v3, v4, v5, v6, v7, v8, v9]
theorem o_mz {b : Bool} {ms : List (List Nat)} {k : Nat} (h : k < ms.length) : gIx (mzD b ms) (nD k) = some (rzD b (ms.getD k [])) := by rw [gIx_tup, atI_nat, List.getElem?_map, getD_at h]; rfl
theorem sortSet_rz (b : Bool) {r : List Nat} (h : r.length < 64) : nSortSet [rzD b r] = some (.lst (((hd r).map nD).map .fz)) := by
  have e : nSortSet [rowL r] = some (.lst (((hd r).map nD).map .fz)) := sortSet_row h
  cases b with
  | false => exact e
  | true => exact e
theorem rowL_pl (r : List Nat) : plN 1 (rowL r) := plN_lst fun d hd => by
  obtain ⟨i, _, rfl⟩ := List.mem_map.mp hd
  exact ⟨_, rfl⟩
theorem rowL_inj {a b : List Nat} (h : rowL a = rowL b) : a = b := by
  have e := D.lst.inj h
  refine List.map_inj_right (fun x y q => ?_) |>.mp e
  exact Int.ofNat.inj (D.int.inj q)
theorem invL_invL {p : List Nat} {n : Nat} (hp : p.Perm (List.range n)) : invL (invL p) = p := by
  have hi := invL_perm hp
  refine ext_row (by unfold invL; simp) fun x hx => ?_
  have hxn : x < n := by rw [perm_len (invL_perm hi)] at hx; exact hx
  have hxp : x < p.length := by rw [perm_len hp]; exact hxn
  have hy := perm_lt hp hxn
  have at_ : (invL p)[p.getD x 0]? = some x := by
    have h := perm_of hp hxn
    unfold invL
    rw [List.getElem?_map, List.getElem?_range (by rw [perm_len hp]; exact hy), Option.map_some, h]
  have e : (invL p).idxOf x = p.getD x 0 := idx_of_at (perm_nd hi) at_
  show ((List.range (invL p).length).map fun y => (invL p).idxOf y).getD x 0 = _
  rw [getD_rg (by rw [perm_len hi]; exact hxn), e]
theorem ords_of (hl : ms.length = M.length) (hb : ∀ k, k < M.length → ∀ x ∈ ms.getD k [], x < M.getD k 0) (h1 : (ms.all fun r => decide r.Nodup) = true) (h2 : ontoB M ms = true) : Ords M ms := by
  refine ⟨hl, fun k n hn => ?_⟩
  have hk : k < M.length := (List.getElem?_eq_some_iff.mp hn).1
  have hkm : k < ms.length := by omega
  refine ⟨ms.getD k [], getD_at hkm, ?_⟩
  have nd : (ms.getD k []).Nodup := by
    rw [List.all_eq_true] at h1
    have := h1 (ms.getD k []) (by rw [List.getD_eq_getElem?_getD, List.getElem?_eq_getElem hkm]; exact List.getElem_mem _)
    exact of_decide_eq_true this
  have on : hd (ms.getD k []) = List.range (M.getD k 0) := by
    unfold ontoB at h2
    rw [List.all_eq_true] at h2
    exact of_decide_eq_true (h2 k (List.mem_range.mpr hk))
  have en : M.getD k 0 = n := getD_of hn
  rw [en] at on
  refine (List.perm_ext_iff_of_nodup nd List.nodup_range).mpr fun x => ?_
  rw [← on]
  exact mem_hd.symm
theorem looked13 (b : Bool) (hl : ms.length = M.length) (hLM : L.length = M.length) (rows : ∀ k, k < M.length → (ms.getD k []).length = L.getD k 0 ∧ ∀ x ∈ ms.getD k [], x < M.getD k 0) (fewL : ∀ n ∈ L, n ≤ 60) (fewM : ∀ n ∈ M, n ≤ 60) (h3 : M.length ≤ 3) (hz : b = true ∨ ∀ r ∈ ms, r = []) :
    f__law_looked [.fz (worldD L as), .fz (worldD M bs), .fz (mzD b ms)] = some (.fz (.bl true), []) := by
  have row : ∀ r ∈ ms, r.length < 64 := fun r hr => by
    obtain ⟨k, hk⟩ := List.mem_iff_getElem?.mp hr
    have hkM : k < M.length := by rw [← hl]; exact (List.getElem?_eq_some_iff.mp hk).1
    have h1 := (rows k hkM).1
    rw [getD_of hk] at h1
    rw [h1]
    have := fewL (L.getD k 0) (by rw [List.getD_eq_getElem?_getD, List.getElem?_eq_getElem (by omega)]; exact List.getElem_mem _)
    omega
  have inb : ∀ k, k < M.length → ∀ x ∈ ms.getD k [], x < M.getD k 0 := fun k hk => (rows k hk).2
  have gA := apartG b row (by omega)
  have gO := ontoG (bs := bs) b hl (by omega) row inb
  rw [fx__law_looked]
  unfold b__law_looked
  refine fn_wp ?_
  refine wp_asg (d := .bl true) dC_pure ?_
  walk_at "sets"
  refine wp_asg (d := .bl true) dC_pure ?_
  walk_at "sets"
  refine wp_rg (n := ms.length) (fun i ρ => ∃ v5, ρ = lkE L M as bs b ms (some (.fz (.bl (apB ms i)))) (some (.fz (.bl (onB M ms i)))) v5 none none none none) (rg1_map (n := ms.length) (aOne_pure (dA_pure (aOne_pure (var_at rfl)) (by rw [gLen_tup, List.length_map]))) (by omega)) ⟨none, rfl⟩ ?_ ?_
  · rintro i ρ hi ⟨v5, rfl⟩
    have hr : ms.getD i [] ∈ ms := by rw [List.getD_eq_getElem?_getD, List.getElem?_eq_getElem hi]; exact List.getElem_mem _
    have g1 := o_mz (b := b) hi
    have gM : gIx (tpR M) (nD i) = some (nD (M.getD i 0)) := o_tpR (by omega)
    have hM : M.getD i 0 ≤ 60 := fewM _ (by rw [List.getD_eq_getElem?_getD, List.getElem?_eq_getElem (by omega)]; exact List.getElem_mem _)
    refine ⟨_, rfl, ?_⟩
    walk_at "sets"
    unfold l__law_looked_1
    refine wp_asg (d := .bl (apB ms (i + 1))) ?_ ?_
    · have e : apB ms (i + 1) = (apB ms i && decide (ms.getD i []).Nodup) := by
        unfold apB
        rw [List.take_succ, getD_at hi, List.all_append]
        show (_ && (decide (ms.getD i []).Nodup && true)) = _
        rw [Bool.and_true]
      rw [e]
      refine dAnd_pure (var_at rfl) (d2_pure (dA_pure (aOne_pure (d2_pure (var_at rfl) (var_at rfl) g1)) (lenSet_rz b (row _ hr))) (dA_pure (aOne_pure (d2_pure (var_at rfl) (var_at rfl) g1)) (len_rz b _)) ((eq_nat _ _).trans ?_))
      rw [decide_eq_decide.mpr (hd_nodup (ms.getD i []))]
    walk_at "sets"
    refine wp_asgE (d := .bl (onB M ms (i + 1))) ?_ ⟨rfl, _, rfl⟩
    have e : onB M ms (i + 1) = (onB M ms i && decide (hd (ms.getD i []) = List.range (M.getD i 0))) := by
      unfold onB
      rw [List.range_succ, List.all_append]
      simp
    rw [e]
    refine dAnd_pure (var_at rfl) (d2_pure (toD_lst (nA_pure (aOne_pure (d2_pure (var_at rfl) (var_at rfl) g1)) (sortSet_rz b (row _ hr)))) (listR_pure (d2_pure (d2_pure (var_at rfl) dC_pure o_w0) (var_at rfl) gM) (by omega)) ((gEq_pl (n := 1) (rowL_pl _) (rowL_pl _)).trans ?_))
    congr 2
    rw [decide_eq_decide]
    exact ⟨fun h => rowL_inj h, fun h => by rw [h]⟩
  · rintro ρ ⟨v5, rfl⟩
    have eA : apB ms ms.length = ms.all fun r => decide r.Nodup := by unfold apB; rw [List.take_length]
    have eO : onB M ms ms.length = ontoB M ms := by unfold onB ontoB; rw [hl]
    rw [eA, eO]
    generalize ha : (ms.all fun r => decide r.Nodup) = va at gA
    generalize ho : ontoB M ms = vo at gO
    refine wp_asg (d := .lst [.bl va, .bl vo]) (lst2_pure (cal_p1 (a0 := mzD b ms) (var_at rfl) gA) (cal_p2 (a0 := worldD M bs) (a1 := mzD b ms) (var_at rfl) (var_at rfl) gO)) ?_
    walk_at "sets"
    have gn : gNe (.lst [.bl va, .bl vo]) (.lst [.bl va, .bl vo]) = some (.bl false) := by cases va <;> cases vo <;> rfl
    have i0 : gIx (.lst [.bl va, .bl vo]) (.int 0) = some (.bl va) := rfl
    have i1 : gIx (.lst [.bl va, .bl vo]) (.int 1) = some (.bl vo) := rfl
    have ib : (["bool"].any fun T => isB "bool" T) = true := by decide +kernel
    have is0 : ∀ {ρ : Env'} {f : DF} {v : Bool}, f ρ = some (.bl v, ρ) → dIsi ["bool"] f ρ = some (.bl true, ρ) := fun {ρ f v} h => by rw [isi_pure h rfl, ib]
    refine wp_no (bOr_pure (x := false) (y := false) (bD_pure (d2_pure (var_at rfl) (lst2_pure (var_at rfl) (var_at rfl)) gn)) (bOr_pure (x := false) (y := false) (bNot_pure (x := true) (bD_pure (is0 (d2_pure (var_at rfl) dC_pure i0)))) (bNot_pure (x := true) (bD_pure (is0 (d2_pure (var_at rfl) dC_pure i1)))))) ?_
    by_cases both : (va && vo) = false
    · have rf := rf_turnG (bs := bs) b hl (by omega) row inb (by rw [ha, ho]; exact both)
      refine wp_ifN (bOr_pure (x := !va) (y := !vo) (bNot_pure (bD_pure (var_at rfl))) (bNot_pure (bD_pure (var_at rfl)))) (fun _ => ?_) fun q => ?_
      · exact wp_retS (d2_pure (nref13 rfl rfl rf) (lst1_pure dC_pure) rfl) ⟨rfl, rfl⟩
      · rw [← Bool.not_and, both] at q
        cases q
    · have both : va = true ∧ vo = true := by cases va <;> cases vo <;> simp at both ⊢
      obtain ⟨rfl, rfl⟩ := both
      have OR := ords_of hl inb ha ho
      have LM : L = M := by
        refine ext_row hLM fun k hk => ?_
        have hkM : k < M.length := by omega
        have hn : M[k]? = some (M.getD k 0) := by rw [List.getD_eq_getElem?_getD, List.getElem?_eq_getElem hkM]; rfl
        rw [← (rows k hkM).1, perm_len (OR.at_ hn)]
      subst LM
      have gt := turnG (bs := bs) b OR h3 fewM
      have gt2 := turnG (bs := as) false OR.back h3 fewM
      have eb : (ms.map invL).map invL = ms := by
        rw [List.map_map]
        refine (List.map_congr_left (g := id) fun r hr => ?_).trans (List.map_id ms)
        obtain ⟨k, hk⟩ := List.mem_iff_getElem?.mp hr
        have hkM : k < L.length := by rw [← hl]; exact (List.getElem?_eq_some_iff.mp hk).1
        have hn : L[k]? = some (L.getD k 0) := by rw [List.getD_eq_getElem?_getD, List.getElem?_eq_getElem hkM]; rfl
        have hp := OR.at_ hn
        rw [getD_of hk] at hp
        exact invL_invL hp
      rw [eb] at gt2
      refine wp_no (bOr_pure (x := false) (y := false) (bNot_pure (x := true) (bD_pure (var_at rfl))) (bNot_pure (x := true) (bD_pure (var_at rfl)))) ?_
      have lc : toD (nLc 10 [9] (iSeq (dVar 2)) (gN 9) bYes e__law_looked_2) (lkE L L as bs b ms (some (.fz (.bl true))) (some (.fz (.bl true))) v5 (some (.fz (.lst [.bl true, .bl true]))) none none none) = some (.lst ((ms.map invL).map tpR), lkE L L as bs b ms (some (.fz (.bl true))) (some (.fz (.bl true))) v5 (some (.fz (.lst [.bl true, .bl true]))) none none none) := by
        have := lcA (n := 10) (v := 9) (it := iSeq (dVar 2)) (e := e__law_looked_2) (ρ := lkE L L as bs b ms (some (.fz (.bl true))) (some (.fz (.bl true))) v5 (some (.fz (.lst [.bl true, .bl true]))) none none none) (rzD b) (fun r => tpR (invL r)) (xs := ms) (iSeq_tup (var_at rfl)) (by omega) rfl rfl .none fun r hr => by
          obtain ⟨k, hk⟩ := List.mem_iff_getElem?.mp hr
          have hkM : k < L.length := by rw [← hl]; exact (List.getElem?_eq_some_iff.mp hk).1
          have hn : L[k]? = some (L.getD k 0) := by rw [List.getD_eq_getElem?_getD, List.getElem?_eq_getElem hkM]; rfl
          have hp := OR.at_ hn
          rw [getD_of hk] at hp
          have hlr := perm_len hp
          unfold e__law_looked_2
          walk_at "sets"
          have l2 := lcA (n := 10) (v := 8) (it := iRg gRg1 (aCons (dA gLen (aCons (dVar 9) aNil)) aNil)) (e := e__law_looked_1) (ρ := lkE L L as bs b ms (some (.fz (.bl true))) (some (.fz (.bl true))) v5 (some (.fz (.lst [.bl true, .bl true]))) none none (some (.fz (rzD b r)))) nD (fun x => nD (r.idxOf x)) (xs := List.range r.length) (rg1_map (n := r.length) (aOne_pure (dA_pure (aOne_pure (var_at rfl)) (len_rz b r))) (by have := row r hr; omega)) (by rw [List.length_range]; have := row r hr; omega) rfl rfl .none fun x hx => by
            rw [List.mem_range] at hx
            unfold e__law_looked_1
            walk_at "sets"
            rcases hz with rfl | hz
            · exact index_tz (r := r) (x := x) (var_at (i := 9) rfl) (aOne_pure (var_at (i := 8) (d := nD x) rfl)) ((perm_in hp (x := x)).mpr (by rw [← hlr]; exact hx))
            · rw [hz r hr] at hx
              exact absurd hx (Nat.not_lt_zero _)
          have et := tuple_pure l2
          rw [et]
          show some (D.tup _, _) = some (D.tup _, _)
          unfold invL
          rw [List.map_map]
          rfl
        rw [this, List.map_map]
        rfl
      refine wp_asg (d := tpD (ms.map invL)) (tuple_pure lc) ?_
      walk_at "sets"
      refine wp_asg (d := tpD (ms.map invL)) (cal_p2 (a0 := worldD L bs) (a1 := mzD b ms) (var_at rfl) (var_at rfl) gt) ?_
      walk_at "sets"
      have it : (["tuple"].any fun T => isB "tuple" T) = true := by decide +kernel
      refine wp_ret (dAnd_pure (x := true) (y := true) ?_ (dAnd_pure (x := true) (y := true) (d2_pure (var_at rfl) (var_at rfl) (eq_tpD.trans (by simp))) (d2_pure (cal_p2 (a0 := worldD L as) (a1 := tpD (ms.map invL)) (var_at rfl) (var_at rfl) gt2) (var_at rfl) ((eq_mz b _ _).trans (by simp))))) ⟨rfl, rfl⟩
      rw [isi_pure (var_at rfl) rfl, it]
theorem bAnd_no13 {t u : BF} {ρ : Env'} (h : t ρ = some (false, ρ)) : bAnd t u ρ = some (false, ρ) := by
  rw [ap_bAnd, h]
  rfl
theorem mulT_one (d : D) {n : Nat} (h : n ≤ 1000) : gMulT (.tup [d]) (nD n) = some (.tup (List.replicate n d)) := by
  have e : ∀ n : Nat, (List.replicate n [d]).flatten = List.replicate n d := fun n => by
    induction n with
    | zero => rfl
    | succ n ih => rw [List.replicate_succ, List.flatten_cons, ih]; rfl
  unfold gMulT
  show (if _ then some (D.tup (List.replicate (Int.toNat (n : Int)) [d]).flatten) else none) = _
  rw [if_pos ⟨by simp, by omega, by omega, by simp⟩, Int.toNat_natCast, e]
theorem rep_wD (K n : Nat) : D.tup [.tup (List.replicate K (D.int 0)), .tup (List.replicate n (D.tup []))] = worldD (List.replicate K 0) (List.replicate n []) := by
  have e1 : (List.replicate K 0).map nD = List.replicate K (D.int 0) := by rw [List.map_replicate]; rfl
  have e2 : (List.replicate n ([] : List Nat)).map tpR = List.replicate n (D.tup []) := by rw [List.map_replicate]; rfl
  show _ = D.tup [D.tup ((List.replicate K 0).map nD), D.tup ((List.replicate n ([] : List Nat)).map tpR)]
  rw [e1, e2]
theorem law_ok (ns : List Int) : ∃ os, f_law [.fz (.scr (ns.map .int))] = some (.fz (.bl true), os) := by
  obtain ⟨cs, sz, K, o1, o2, e1, e2, P, ho2⟩ := draw_pat ns 0
  have hK := P.k3
  have h5 := P.l5
  rw [fx_law]
  unfold b_law
  refine ⟨[], fn_wp ?_⟩
  refine wp_set (cal_pure (aTwo_pure (var_at rfl) rfl) e1) ?_
  walk_at "sets"
  refine wp_asg' (cal1_d (o := o1) (o' := o2) (ds := []) (r := patD K cs) rfl rfl e2) ?_
  walk_at "sets"
  refine wp_rg (n := 3) (fun i ρ => ∃ o v3 v4 v5 v6 v7, ρ = [some (.fz (.scr (ns.map .int))), some o, some (.fz (patD K cs)), v3, v4, v5, v6, v7, none] ∧ StOk o) (rg1_map (n := 3) (aOne_pure dC_pure) (by omega)) ⟨o2, none, none, none, none, none, rfl, ho2⟩ ?_ ?_
  · rintro i ρ hi ⟨o, v3, v4, v5, v6, v7, rfl, ho⟩
    obtain ⟨o3, L, as, ew1, ho3, A, _⟩ := world_okS (most := 3) P ho (by omega)
    obtain ⟨o4, M, bs, ew2, ho4, B, _⟩ := world_okS (most := 3) P ho3 (by omega)
    have hLK := A.k
    have hMK := B.k
    have seven : ∀ {Z : List Nat}, (∀ n ∈ Z, n ≤ 7) → ∀ n ∈ Z, n ≤ 60 := fun h n hn => by have := h n hn; omega
    refine ⟨_, rfl, ?_⟩
    walk_at "sets"
    unfold l_law_1
    refine wp_asg' (cal1_d (o := o) (o' := o3) (ds := [patD K cs, .int 3]) (r := worldD L as) rfl (aTwo_pure (var_at rfl) dC_pure) ew1) ?_
    walk_at "sets"
    refine wp_asg' (cal1_d (o := o3) (o' := o4) (ds := [patD K cs, .int 3]) (r := worldD M bs) rfl (aTwo_pure (var_at rfl) dC_pure) ew2) ?_
    walk_at "sets"
    obtain ⟨o5, r6, em, ho5, hr6⟩ : ∃ o5 r6, f__law_some_map [o4, .fz (patD K cs), .fz (worldD L as), .fz (worldD M bs)] = some (.fz r6, [o5]) ∧ StOk o5 ∧ ∀ {ρ : Env'}, ρ[4]? = some (some (.fz (worldD L as))) → ρ[5]? = some (some (.fz (worldD M bs))) → ρ[6]? = some (some (.fz r6)) → bAnd (bD (d2 gIsNot (dVar 6) (dC .non))) (bNot (bD (toD (nA (cal f__law_looked) (aCons (dVar 4) (aCons (dVar 5) (aCons (dVar 6) aNil))))))) ρ = some (false, ρ) := by
      rcases some_mapZ_ok P A B ho4 with ⟨o5, ms, e, h1, h2⟩ | ⟨o5, e, h1, _⟩
      · refine ⟨o5, tzD ms, e, h1, fun a4 a5 a6 => ?_⟩
        have rows : ∀ k, k < M.length → (ms.getD k []).length = L.getD k 0 ∧ ∀ x ∈ ms.getD k [], x < M.getD k 0 := fun k hk => by
          have hkm : k < ms.length := by rw [h2.len]; omega
          obtain ⟨n, m, q1, q2, q3, q4⟩ := h2.row k _ (getD_at hkm)
          rw [getD_of q1, getD_of q2]
          exact ⟨q3, q4⟩
        have g := looked13 (as := as) (bs := bs) true (by rw [h2.len, hMK]) (by omega) rows (seven A.few) (seven B.few) (by omega) (.inl rfl)
        exact bAnd_pure (x := true) (y := false) (bD_pure (d2_pure (a := tzD ms) (var_at a6) dC_pure rfl)) (bNot_pure (x := true) (bD_pure (cal_p3 (a0 := worldD L as) (a1 := worldD M bs) (a2 := tzD ms) (var_at a4) (var_at a5) (var_at a6) g)))
      · exact ⟨o5, .non, e, h1, fun a4 a5 a6 => bAnd_no13 (bD_pure (d2_pure (a := D.non) (var_at a6) dC_pure rfl))⟩
    refine wp_asg' (cal1_d (o := o4) (o' := o5) (ds := [patD K cs, worldD L as, worldD M bs]) (r := r6) rfl (aCons_pure (var_at rfl) (aTwo_pure (var_at rfl) (var_at rfl))) em) ?_
    walk_at "sets"
    refine wp_no (hr6 rfl rfl rfl) ?_
    obtain ⟨o6, os, eo, ho6, OR⟩ := orders_ok (L := L) (as := as) ho5 (by omega) A.few
    refine wp_asg' (cal1_d (o := o5) (o' := o6) (ds := [worldD L as]) (r := tzD os) rfl (aOne_pure (var_at rfl)) eo) ?_
    walk_at "sets"
    have gt := turn_ok P A OR
    have g := looked13 (as := as) (bs := renA cs as os) true OR.len rfl (fun k hk => by
      have hn : L[k]? = some (L.getD k 0) := by rw [List.getD_eq_getElem?_getD, List.getElem?_eq_getElem hk]; rfl
      exact ⟨perm_len (OR.at_ hn), fun x hx => (perm_in (OR.at_ hn)).mp hx⟩) (seven A.few) (seven A.few) (by omega) (.inl rfl)
    exact wp_noE (bNot_pure (x := true) (bD_pure (cal_p3 (a0 := worldD L as) (a1 := worldD L (renA cs as os)) (a2 := tzD os) (var_at rfl) (cal_p3 (a0 := patD K cs) (a1 := worldD L as) (a2 := tzD os) (var_at rfl) (var_at rfl) (var_at rfl) gt) (var_at rfl) g))) ⟨rfl, o6, _, _, _, _, _, rfl, ho6⟩
  · rintro ρ ⟨o, v3, v4, v5, v6, v7, rfl, ho⟩
    have g := looked13 (L := List.replicate K 0) (M := List.replicate K 0) (as := List.replicate cs.length []) (bs := List.replicate cs.length []) (ms := List.replicate K []) false (by simp) rfl (fun k hk => by
      rw [List.length_replicate] at hk
      rw [getD_of (List.getElem?_replicate_of_lt hk), getD_of (List.getElem?_replicate_of_lt hk)]
      exact ⟨rfl, fun x hx => nomatch hx⟩) (fun n hn => by rw [(List.mem_replicate.mp hn).2]; omega) (fun n hn => by rw [(List.mem_replicate.mp hn).2]; omega) (by rw [List.length_replicate]; omega) (.inr fun r hr => (List.mem_replicate.mp hr).2)
    have m1 : gMulT (.tup [.int 0]) (nD K) = some (.tup (List.replicate K (D.int 0))) := mulT_one _ (by omega)
    have m2 : gMulT (.tup [.tup []]) (nD cs.length) = some (.tup (List.replicate cs.length (D.tup []))) := mulT_one _ (by omega)
    have m3 : gMulT (.tup [.tup []]) (nD K) = some (mzD false (List.replicate K [])) := by
      rw [mulT_one _ (by omega)]
      show _ = some (D.tup ((List.replicate K []).map (rzD false)))
      rw [List.map_replicate]
      rfl
    have t2 : ∀ {a b : D}, gTup' [a, b] = some (.tup [a, b]) := fun {a b} => gTup2 a b
    refine wp_asg (d := worldD (List.replicate K 0) (List.replicate cs.length [])) ?_ ?_
    · rw [← rep_wD]
      refine dA_pure (aTwo_pure (d2_pure (dA_pure (aOne_pure dC_pure) (gTup1 _)) (d2_pure (var_at rfl) dC_pure o_p0) m1) (d2_pure (dA_pure (aOne_pure tup0_pure) (gTup1 _)) (dA_pure (aOne_pure (d2_pure (var_at rfl) dC_pure o_p1)) o_lenE) m2)) t2
    walk_at "sets"
    exact wp_retO (cal_pure (ds := [worldD (List.replicate K 0) (List.replicate cs.length []), worldD (List.replicate K 0) (List.replicate cs.length []), mzD false (List.replicate K [])]) (aCons_pure (var_at rfl) (aTwo_pure (var_at rfl) (d2_pure (dA_pure (aOne_pure tup0_pure) (gTup1 _)) (d2_pure (var_at rfl) dC_pure o_p0) m3))) g) ⟨rfl, rfl⟩
end
end VL
set_option Elab.async false
set_option linter.all false
set_option maxRecDepth 100000
set_option maxHeartbeats 8000000
namespace VL
open PySem L2
def top (i : Nat) : Stmt := PySem.Challenge.pw_mapwright_k13_apart_onto_back.main.body.getD i (.Pass ⟨0, 0, 0, 0⟩)
structure Fx (G : Gx) (mg : Str → Option Value) (base : Heap) where
  bl : Bl mg
  d__law_cell_at : DefAt G.K mg "_law_cell_at" (top 13) ["script", "k"]
  d__law_state : DefAt G.K mg "_law_state" (top 14) ["script", "k"]
  d__law_take : DefAt G.K mg "_law_take" (top 15) ["state", "many"]
  d__law_begun : DefAt G.K mg "_law_begun" (top 16) ["state"]
  d__law_closed : DefAt G.K mg "_law_closed" (top 17) ["begun"]
  d__law_pattern : DefAt G.K mg "_law_pattern" (top 18) ["state"]
  d_is_apart : DefAt G.K mg "is_apart" (top 9) ["some"]
  d_is_onto : DefAt G.K mg "is_onto" (top 10) ["other", "some"]
  d_turned_back : DefAt G.K mg "turned_back" (top 11) ["other", "some"]
  d__law_refused : DefAt G.K mg "_law_refused" (top 27) ["call"]
  d__law_looked : DefAt G.K mg "_law_looked" (top 30) ["one", "other", "some"]
  d__law_merged : DefAt G.K mg "_law_merged" (top 22) ["pat", "marks", "acts"]
  d__law_end : DefAt G.K mg "_law_end" (top 20) ["pat", "kind", "way"]
  d__law_ways : DefAt G.K mg "_law_ways" (top 19) ["pat", "kind"]
  d__law_behind : DefAt G.K mg "_law_behind" (top 21) ["pat", "one", "other"]
  d__law_world : DefAt G.K mg "_law_world" (top 23) ["state", "pat", "most"]
  d__law_led : DefAt G.K mg "_law_led" (top 24) ["world", "thing", "way"]
  d__law_known : DefAt G.K mg "_law_known" (top 25) ["pat", "one", "other", "known", "kind", "thing", "end"]
  d__law_some_map : DefAt G.K mg "_law_some_map" (top 26) ["state", "pat", "one", "other"]
  d__law_orders : DefAt G.K mg "_law_orders" (top 28) ["state", "world"]
  d__law_turned : DefAt G.K mg "_law_turned" (top 29) ["pat", "world", "orders"]
  d_law : DefAt G.K mg "law" (top 31) ["script"]
  L__law_looked : LamAt G mg base "_law_looked" "_law_looked" (top 30) d__law_looked.fa d__law_looked.fd
  x_NoMap : ExcAt G.K mg "NoMap" (G.cl "NoMap")
  xc_NoMap : ExcC G.K (G.cl "NoMap")
  x_NoPattern : ExcAt G.K mg "NoPattern" (G.cl "NoPattern")
  x_TooMany : ExcAt G.K mg "TooMany" (G.cl "TooMany")
  x_NoSaying : ExcAt G.K mg "NoSaying" (G.cl "NoSaying")
  x_NoName : ExcAt G.K mg "NoName" (G.cl "NoName")
  x_BadNote : ExcAt G.K mg "BadNote" (G.cl "BadNote")
  x_MapError : ExcAt G.K mg "MapError" (G.cl "MapError")
  bz_ValueError : mg "ValueError" = none
  xk_NoMap_NoPattern : PySem.W.kitOne G.K (.ref (G.cl "NoMap")) (.ref (G.cl "NoPattern")) = some false
  xk_NoMap_NoMap : PySem.W.kitOne G.K (.ref (G.cl "NoMap")) (.ref (G.cl "NoMap")) = some true
  xk_NoMap_TooMany : PySem.W.kitOne G.K (.ref (G.cl "NoMap")) (.ref (G.cl "TooMany")) = some false
  xk_NoMap_NoSaying : PySem.W.kitOne G.K (.ref (G.cl "NoMap")) (.ref (G.cl "NoSaying")) = some false
  xk_NoMap_NoName : PySem.W.kitOne G.K (.ref (G.cl "NoMap")) (.ref (G.cl "NoName")) = some false
  xk_NoMap_BadNote : PySem.W.kitOne G.K (.ref (G.cl "NoMap")) (.ref (G.cl "BadNote")) = some false
  xk_NoMap_ValueError : PySem.W.kitOne G.K (.ref (G.cl "NoMap")) (.type "ValueError") = some true
  xm_NoMap_MapError : PySem.W.exmOne G.K (.ref (G.cl "NoMap")) (.ref (G.cl "MapError")) = some true
section
variable {P : Program} {w : World} {mg : Str → Option Value} {base : Heap} {G : Gx}
theorem ok__law_cell_at (T : Fx G mg base) : FnOk P w G.K mg base CX0 1 T.d__law_cell_at.fa T.d__law_cell_at.fd ["script", "k"] (spF G 2 [] f__law_cell_at) := fn_ok (N := ["script", "k"]) (pn := []) T.d__law_cell_at.F ⟨rfl, rfl, rfl, by decide +kernel, rfl, by decide +kernel, by decide +kernel⟩ fun cdv A outer s H E hr => by
  have R : Rdy G (cxOf CX0 P w G.K mg base ["script", "k"] "_law_cell_at" (defScope (top 13)) T.d__law_cell_at.fa cdv A outer s H E).nox := rdy_of hr (by decide +kernel) T.bl
  exact (vb_cons (vs_if (t_lt (vx_var (pv 1)) (x_len R (va_cons (vx_var (pv 0)) va_nil))) (vb_one (vs_ret (vn_of_vx (x_ix R (vx_var (pv 0)) (vx_var (pv 1)))))) vb_nil)
    (vb_one (vs_ret (vn_of_vx vx_int))))
theorem ok__law_state (T : Fx G mg base) : FnOk P w G.K mg base CX0 2 T.d__law_state.fa T.d__law_state.fd ["script", "k"] (spF G 2 [] f__law_state) := fn_ok (N := ["script", "k", "cell"]) (pn := []) T.d__law_state.F ⟨rfl, rfl, rfl, by decide +kernel, rfl, by decide +kernel, by decide +kernel⟩ fun cdv A outer s H E hr => by
  have R : Rdy G (cxOf CX0 P w G.K mg base ["script", "k", "cell"] "_law_state" (defScope (top 14)) T.d__law_state.fa cdv A outer s H E).nox := rdy_of hr (by decide +kernel) T.bl
  exact (vb_cons (vs_set (i := 2) R.nd rfl (by first | exact .inl rfl | exact .inr rfl) (by decide) (vx_of_vn (n_call T.d__law_cell_at (ok__law_cell_at T) fnF_hn R (hr.mono (by decide)) (va_cons (vx_var (pv 0)) (va_cons (vx_var (pv 1)) va_nil)))))
    (vb_cons (vs_if (t_ge (vx_var (pv 2)) (x_pow vx_int vx_int)) (vb_one (vs_ret (vn_lst (va_cons (x_sub (vx_var (pv 2)) (x_pow vx_int vx_int)) (va_cons vx_bl va_nil))))) vb_nil)
    (vb_one (vs_ret (vn_lst (va_cons (x_mod (vx_var (pv 2)) vx_int) (va_cons vx_bl va_nil)))))))
theorem ok__law_take (T : Fx G mg base) : FnOk P w G.K mg base CX0 1 T.d__law_take.fa T.d__law_take.fd ["state", "many"] (spF G 2 [0] f__law_take) := fn_ok (N := ["state", "many", "found", "mixed"]) (pn := [0]) T.d__law_take.F ⟨rfl, rfl, rfl, by decide +kernel, rfl, by decide +kernel, by decide +kernel⟩ fun cdv A outer s H E hr => by
  have R : Rdy G (cxOf CX0 P w G.K mg base ["state", "many", "found", "mixed"] "_law_take" (defScope (top 15)) T.d__law_take.fa cdv A outer s H E).nox := rdy_of hr (by decide +kernel) T.bl
  exact (vb_cons (vs_if (vt_val (x_ixv R (pv 0) vx_int)) (vb_cons (vs_set (i := 2) R.nd rfl (by first | exact .inl rfl | exact .inr rfl) (by decide) (x_mod (x_ixv R (pv 0) vx_int) (vx_var (pv 1))))
    (vb_cons (s_ix R (pv 0) vx_int (x_div (x_ixv R (pv 0) vx_int) (vx_var (pv 1))))
    (vb_one (vs_ret (vn_of_vx (vx_var (pv 2))))))) vb_nil)
    (vb_cons (s_ix R (pv 0) vx_int (x_mod (x_add R (x_mul (x_ixv R (pv 0) vx_int) vx_int) vx_int) vx_int))
    (vb_cons (vs_set (i := 3) R.nd rfl (by first | exact .inl rfl | exact .inr rfl) (by decide) (x_mod (x_add R (x_add R (x_mul (x_ixv R (pv 0) vx_int) (x_ixv R (pv 0) vx_int)) (x_mul vx_int (x_ixv R (pv 0) vx_int))) vx_int) vx_int))
    (vb_cons (vs_set (i := 3) R.nd rfl (by first | exact .inl rfl | exact .inr rfl) (by decide) (x_mod (x_add R (x_mul (vx_var (pv 3)) (vx_var (pv 3))) (x_mul vx_int (vx_var (pv 3)))) vx_int))
    (vb_one (vs_ret (vn_of_vx (x_mod (x_div (vx_var (pv 3)) vx_int) (vx_var (pv 1))))))))))
theorem ok__law_begun (T : Fx G mg base) : FnOk P w G.K mg base CX0 2 T.d__law_begun.fa T.d__law_begun.fd ["state"] (spF G 1 [0] f__law_begun) := fn_ok (N := ["state", "way", "graph", "loops", "swap", "known", "kinds", "sizes", "kind", "found", "k", "one", "other", "thing"]) (pn := [0]) T.d__law_begun.F ⟨rfl, rfl, rfl, by decide +kernel, rfl, by decide +kernel, by decide +kernel⟩ fun cdv A outer s H E hr => by
  have R : Rdy G (cxOf CX0 P w G.K mg base ["state", "way", "graph", "loops", "swap", "known", "kinds", "sizes", "kind", "found", "k", "one", "other", "thing"] "_law_begun" (defScope (top 16)) T.d__law_begun.fa cdv A outer s H E).nox := rdy_of hr (by decide +kernel) T.bl
  exact (vb_cons (vs_set (i := 1) R.nd rfl (by first | exact .inl rfl | exact .inr rfl) (by decide) (vx_of_vn (n_call1 (pl := 0) (i := 0) T.d__law_take (ok__law_take T) fnF_hn R (hr.mono (by decide)) (vm_own (pv 0) (va_cons vx_int va_nil)))))
    (vb_cons (vs_if (t_lt (vx_var (pv 1)) vx_int) (vb_cons (vs_set (i := 2) R.nd rfl (by first | exact .inl rfl | exact .inr rfl) (by decide) (vx_of_vn (vn_lst (va_cons (vx_tup (va_cons vx_int (va_cons vx_int (va_cons (vx_tup (va_cons vx_int (va_cons vx_int va_nil))) va_nil)))) (va_cons (vx_tup (va_cons vx_int (va_cons vx_int (va_cons (vx_tup (va_cons vx_int (va_cons vx_int va_nil))) va_nil)))) va_nil)))))
    (vb_cons (vs_set (i := 3) R.nd rfl (by first | exact .inl rfl | exact .inr rfl) (by decide) (vx_of_vn (vn_lst (va_cons (vx_tup (va_cons vx_int (va_cons vx_int (va_cons (vx_tup (va_cons vx_int (va_cons vx_int (va_cons vx_int (va_cons vx_int va_nil))))) va_nil)))) (va_cons (vx_tup (va_cons vx_int (va_cons vx_int (va_cons (vx_tup (va_cons vx_int (va_cons vx_int (va_cons vx_int (va_cons vx_int va_nil))))) va_nil)))) (va_cons (vx_tup (va_cons vx_int (va_cons vx_int (va_cons (vx_tup (va_cons vx_int (va_cons vx_int va_nil))) va_nil)))) va_nil))))))
    (vb_cons (vs_set (i := 4) R.nd rfl (by first | exact .inl rfl | exact .inr rfl) (by decide) (vx_of_vn (vn_lst (va_cons (vx_tup (va_cons vx_int (va_cons vx_int (va_cons (vx_tup (va_cons vx_int (va_cons vx_int va_nil))) va_nil)))) va_nil))))
    (vb_cons (vs_set (i := 5) R.nd rfl (by first | exact .inl rfl | exact .inr rfl) (by decide) (vx_of_vn (vn_lst (va_cons (vx_var (pv 2)) (va_cons (vx_var (pv 3)) (va_cons (vx_var (pv 4)) (va_cons (vx_of_vn (vn_lst (va_cons (vx_tup (va_cons vx_int (va_cons vx_int (va_cons (vx_tup (va_cons vx_int (va_cons vx_int (va_cons vx_int va_nil)))) va_nil)))) va_nil))) (va_cons (vx_of_vn (vn_lst (va_cons (vx_tup (va_cons vx_int (va_cons vx_int (va_cons (vx_tup (va_cons vx_int (va_cons vx_int va_nil))) va_nil)))) va_nil))) (va_cons (vx_of_vn (vn_lst va_nil)) (va_cons (vx_of_vn (vn_lst (va_cons (vx_tup (va_cons vx_int (va_cons vx_int (va_cons (vx_tup (va_cons vx_int (va_cons vx_int va_nil))) va_nil)))) (va_cons (vx_tup (va_cons vx_int (va_cons vx_int (va_cons (vx_tup (va_cons vx_int (va_cons vx_int (va_cons vx_int va_nil)))) va_nil)))) va_nil)))) va_nil))))))))))
    (vb_one (vs_ret (vn_of_vx (x_ix R (vx_var (pv 5)) (vx_var (pv 1)))))))))) vb_nil)
    (vb_cons (vs_set (i := 6) R.nd rfl (by first | exact .inl rfl | exact .inr rfl) (by decide) (x_add R vx_int (vx_of_vn (n_call1 (pl := 0) (i := 0) T.d__law_take (ok__law_take T) fnF_hn R (hr.mono (by decide)) (vm_own (pv 0) (va_cons vx_int va_nil))))))
    (vb_cons (vs_set (i := 7) R.nd rfl (by first | exact .inl rfl | exact .inr rfl) (by decide) (vx_of_vn (vn_lc (own := [("kind", 8)]) (P := [0, 1, 2, 3, 4, 5, 6, 7, 9, 10, 11, 12, 13]) (n := 14) R.calm R.nd (vi_range1 rfl R.bl.range (va_cons (vx_var (pv 6)) va_nil)) (blk_ok rfl (by dsimp only [cxOf, Cx.nox, Cx.wish, Cx.blk, PyProof.Rows.envOfC, compEnvC]; first | decide +kernel | kernel_rfl)) (fun _ _ _ _ _ => (vg_name (i := 8) R.blk.nd rfl (by first | exact .inl rfl | exact .inr rfl) (by decide))) (fun _ _ _ _ _ => vts_nil) (fun _ _ _ _ _ => (x_add R.blk vx_int (vx_of_vn (n_call1 (pl := 0) (i := 0) T.d__law_take (ok__law_take T) fnF_hn R.blk (hr.mono (by decide)) (vm_own (pv 0) (va_cons vx_int va_nil)))))) (by decide))))
    (vb_cons (vs_setN (i := 9) R.nd rfl (by first | exact .inl rfl | exact .inr rfl) (by decide) (vn_lst va_nil))
    (vb_cons (vs_for R.own R.calm (vi_range1 rfl R.bl.range (va_cons (vx_of_vn (n_call1 (pl := 0) (i := 0) T.d__law_take (ok__law_take T) fnF_hn R (hr.mono (by decide)) (vm_own (pv 0) (va_cons vx_int va_nil)))) va_nil)) (vg_name (i := 10) R.nd rfl (by first | exact .inl rfl | exact .inr rfl) (by decide)) (vb_cons (vs_set (i := 11) R.nd rfl (by first | exact .inl rfl | exact .inr rfl) (by decide) (vx_of_vn (n_call1 (pl := 0) (i := 0) T.d__law_take (ok__law_take T) fnF_hn R (hr.mono (by decide)) (vm_own (pv 0) (va_cons (vx_var (pv 6)) va_nil)))))
    (vb_cons (vs_set (i := 12) R.nd rfl (by first | exact .inl rfl | exact .inr rfl) (by decide) (vx_of_vn (n_call1 (pl := 0) (i := 0) T.d__law_take (ok__law_take T) fnF_hn R (hr.mono (by decide)) (vm_own (pv 0) (va_cons (vx_var (pv 6)) va_nil)))))
    (vb_one (vs_expr (x_append (pv 9) (va_cons (vx_tup (va_cons (vx_var (pv 11)) (va_cons (vx_var (pv 12)) (va_cons (x_tuple R (va_cons (vx_of_vn (vn_lc (own := [("thing", 13)]) (P := [0, 1, 2, 3, 4, 5, 6, 7, 8, 9, 10, 11, 12]) (n := 14) R.calm R.nd (vi_range1 rfl R.bl.range (va_cons (x_ix R (vx_var (pv 7)) (vx_var (pv 11))) va_nil)) (blk_ok rfl (by dsimp only [cxOf, Cx.nox, Cx.wish, Cx.blk, PyProof.Rows.envOfC, compEnvC]; first | decide +kernel | kernel_rfl)) (fun _ _ _ _ _ => (vg_name (i := 13) R.blk.nd rfl (by first | exact .inl rfl | exact .inr rfl) (by decide))) (fun _ _ _ _ _ => vts_nil) (fun _ _ _ _ _ => (vx_of_vn (n_call1 (pl := 0) (i := 0) T.d__law_take (ok__law_take T) fnF_hn R.blk (hr.mono (by decide)) (vm_own (pv 0) (va_cons (x_ix R.blk (vx_var (pv 7)) (vx_var (pv 12))) va_nil))))) (by decide))) va_nil)) va_nil)))) va_nil)))))))
    (vb_one (vs_ret (vn_move (pv 9))))))))))
theorem ok__law_closed (T : Fx G mg base) : FnOk P w G.K mg base CX0 1 T.d__law_closed.fa T.d__law_closed.fd ["begun"] (spF G 1 [] f__law_closed) := fn_ok (N := ["begun", "found", "one", "other", "row", "k", "j", "first", "second", "thing", "more"]) (pn := []) T.d__law_closed.F ⟨rfl, rfl, rfl, by decide +kernel, rfl, by decide +kernel, by decide +kernel⟩ fun cdv A outer s H E hr => by
  have R : Rdy G (cxOf CX0 P w G.K mg base ["begun", "found", "one", "other", "row", "k", "j", "first", "second", "thing", "more"] "_law_closed" (defScope (top 17)) T.d__law_closed.fa cdv A outer s H E).nox := rdy_of hr (by decide +kernel) T.bl
  exact (vb_cons (vs_setN (i := 1) R.nd rfl (by first | exact .inl rfl | exact .inr rfl) (by decide) (vn_lst va_nil))
    (vb_cons (vs_for R.own R.calm (vi_seq R.hK (vx_var (pv 0))) (vg_tup R.calm R.hK (vgs_cons (vg_name (i := 2) R.nd rfl (by first | exact .inl rfl | exact .inr rfl) (by decide)) (vgs_cons (vg_name (i := 3) R.nd rfl (by first | exact .inl rfl | exact .inr rfl) (by decide)) (vgs_cons (vg_name (i := 4) R.nd rfl (by first | exact .inl rfl | exact .inr rfl) (by decide)) vgs_nil)))) (vb_one (vs_if (PW.pt (vw_and (PW.pt (vw_or (t_ne R (vx_var (pv 2)) (vx_var (pv 3))) (vw_or1 (t_ne R (vx_var (pv 4)) (vx_tupR1 R.calm rfl R.bl.tuple rfl R.bl.range (x_len R (va_cons (vx_var (pv 4)) va_nil))))))) (vw_and1 (t_notinv R (vx_tup (va_cons (vx_var (pv 2)) (va_cons (vx_var (pv 3)) (va_cons (vx_var (pv 4)) va_nil)))) (pv 1))))) (vb_one (vs_expr (x_append (pv 1) (va_cons (vx_tup (va_cons (vx_var (pv 2)) (va_cons (vx_var (pv 3)) (va_cons (vx_var (pv 4)) va_nil)))) va_nil)))) vb_nil)))
    (vb_cons (vs_set (i := 5) R.nd rfl (by first | exact .inl rfl | exact .inr rfl) (by decide) vx_int)
    (vb_cons (vs_while 1000 R.own (PW.pt (vw_and (t_lt (vx_var (pv 5)) (x_lenv R (pv 1))) (vw_and1 (t_lt (x_lenv R (pv 1)) vx_int)))) (vb_cons (vs_for R.own R.calm (vi_range1 rfl R.bl.range (va_cons (x_lenv R (pv 1)) va_nil)) (vg_name (i := 6) R.nd rfl (by first | exact .inl rfl | exact .inr rfl) (by decide)) (vb_one (vs_for R.own R.calm (vi_seq R.hK (vx_of_vn (vn_lst (va_cons (vx_tup (va_cons (x_ixv R (pv 1) (vx_var (pv 5))) (va_cons (x_ixv R (pv 1) (vx_var (pv 6))) va_nil))) (va_cons (vx_tup (va_cons (x_ixv R (pv 1) (vx_var (pv 6))) (va_cons (x_ixv R (pv 1) (vx_var (pv 5))) va_nil))) va_nil))))) (vg_tup R.calm R.hK (vgs_cons (vg_name (i := 7) R.nd rfl (by first | exact .inl rfl | exact .inr rfl) (by decide)) (vgs_cons (vg_name (i := 8) R.nd rfl (by first | exact .inl rfl | exact .inr rfl) (by decide)) vgs_nil))) (vb_cons (vs_set (i := 4) R.nd rfl (by first | exact .inl rfl | exact .inr rfl) (by decide) (vx_tup va_nil))
    (vb_cons (vs_if (t_eq R (x_ix R (vx_var (pv 7)) vx_int) (x_ix R (vx_var (pv 8)) vx_int)) (vb_one (vs_set (i := 4) R.nd rfl (by first | exact .inl rfl | exact .inr rfl) (by decide) (x_tuple R (va_cons (vx_of_vn (vn_lc (own := [("thing", 9)]) (P := [0, 1, 2, 3, 4, 5, 6, 7, 8, 10]) (n := 11) R.calm R.nd (vi_seq R.hK (x_ix R (vx_var (pv 7)) vx_int)) (blk_ok rfl (by dsimp only [cxOf, Cx.nox, Cx.wish, Cx.blk, PyProof.Rows.envOfC, compEnvC]; first | decide +kernel | kernel_rfl)) (fun _ _ _ _ _ => (vg_name (i := 9) R.blk.nd rfl (by first | exact .inl rfl | exact .inr rfl) (by decide))) (fun _ _ _ _ _ => vts_nil) (fun _ _ _ _ _ => (x_ix R.blk (x_ix R.blk (vx_var (pv 8)) vx_int) (vx_var (pv 9)))) (by decide))) va_nil)))) vb_nil)
    (vb_cons (vs_set (i := 10) R.nd rfl (by first | exact .inl rfl | exact .inr rfl) (by decide) (vx_tup (va_cons (x_ix R (vx_var (pv 7)) vx_int) (va_cons (x_ix R (vx_var (pv 8)) vx_int) (va_cons (vx_var (pv 4)) va_nil)))))
    (vb_one (vs_if (PW.pt (vw_and (t_ne R (vx_var (pv 4)) (vx_tup va_nil)) (vw_and (t_notinv R (vx_var (pv 10)) (pv 1)) (vw_and1 (PW.pt (vw_or (t_ne R (x_ix R (vx_var (pv 10)) vx_int) (x_ix R (vx_var (pv 10)) vx_int)) (vw_or1 (t_ne R (vx_var (pv 4)) (vx_tupR1 R.calm rfl R.bl.tuple rfl R.bl.range (x_len R (va_cons (vx_var (pv 4)) va_nil))))))))))) (vb_one (vs_expr (x_append (pv 1) (va_cons (vx_var (pv 10)) va_nil)))) vb_nil))))))))
    (vb_one (vs_set (i := 5) R.nd rfl (by first | exact .inl rfl | exact .inr rfl) (by decide) (x_add R (vx_var (pv 5)) vx_int)))))
    (vb_one (vs_ret (vn_move (pv 1))))))))
theorem ok__law_pattern (T : Fx G mg base) : FnOk P w G.K mg base CX0 3 T.d__law_pattern.fa T.d__law_pattern.fd ["state"] (spF G 1 [0] f__law_pattern) := fn_ok (N := ["state", "begun", "closed", "kinds", "one", "other", "row", "table", "j", "k", "more", "thing"]) (pn := [0]) T.d__law_pattern.F ⟨rfl, rfl, rfl, by decide +kernel, rfl, by decide +kernel, by decide +kernel⟩ fun cdv A outer s H E hr => by
  have R : Rdy G (cxOf CX0 P w G.K mg base ["state", "begun", "closed", "kinds", "one", "other", "row", "table", "j", "k", "more", "thing"] "_law_pattern" (defScope (top 18)) T.d__law_pattern.fa cdv A outer s H E).nox := rdy_of hr (by decide +kernel) T.bl
  exact (vb_cons (vs_set (i := 1) R.nd rfl (by first | exact .inl rfl | exact .inr rfl) (by decide) (vx_of_vn (n_call1 (pl := 0) (i := 0) T.d__law_begun (ok__law_begun T) fnF_hn R (hr.mono (by decide)) (vm_own (pv 0) va_nil))))
    (vb_cons (vs_set (i := 2) R.nd rfl (by first | exact .inl rfl | exact .inr rfl) (by decide) (vx_of_vn (n_call T.d__law_closed (ok__law_closed T) fnF_hn R (hr.mono (by decide)) (va_cons (vx_var (pv 1)) va_nil))))
    (vb_cons (vs_while 1000 R.own (t_gt (x_len R (va_cons (vx_var (pv 2)) va_nil)) vx_int) (vb_cons (vs_set (i := 1) R.nd rfl (by first | exact .inl rfl | exact .inr rfl) (by decide) (vx_cut (vx_var (pv 1)) vp_none (vp_some c_nint)))
    (vb_one (vs_set (i := 2) R.nd rfl (by first | exact .inl rfl | exact .inr rfl) (by decide) (vx_of_vn (n_call T.d__law_closed (ok__law_closed T) fnF_hn R (hr.mono (by decide)) (va_cons (vx_var (pv 1)) va_nil)))))))
    (vb_cons (vs_set (i := 3) R.nd rfl (by first | exact .inl rfl | exact .inr rfl) (by decide) (x_add R vx_int (x_max R (va_cons (x_add R (vx_of_vn (vn_lc (own := [("one", 4), ("other", 5), ("row", 6)]) (P := [0, 1, 2, 3, 7, 8, 9, 10, 11]) (n := 12) R.calm R.nd (vi_seq R.hK (vx_var (pv 2))) (blk_ok rfl (by dsimp only [cxOf, Cx.nox, Cx.wish, Cx.blk, PyProof.Rows.envOfC, compEnvC]; first | decide +kernel | kernel_rfl)) (fun _ _ _ _ _ => (vg_tup R.blk.calm R.blk.hK (vgs_cons (vg_name (i := 4) R.blk.nd rfl (by first | exact .inl rfl | exact .inr rfl) (by decide)) (vgs_cons (vg_name (i := 5) R.blk.nd rfl (by first | exact .inl rfl | exact .inr rfl) (by decide)) (vgs_cons (vg_name (i := 6) R.blk.nd rfl (by first | exact .inl rfl | exact .inr rfl) (by decide)) vgs_nil))))) (fun _ _ _ _ _ => vts_nil) (fun _ _ _ _ _ => (x_max R.blk (va_cons (vx_var (pv 4)) (va_cons (vx_var (pv 5)) va_nil)))) (by decide))) (vx_of_vn (vn_lst (va_cons vx_int va_nil)))) va_nil))))
    (vb_cons (vs_if (t_eq R (vx_var (pv 2)) (vx_of_vn (vn_lst va_nil))) (vb_one (vs_set (i := 3) R.nd rfl (by first | exact .inl rfl | exact .inr rfl) (by decide) (x_add R vx_int (vx_of_vn (n_call1 (pl := 0) (i := 0) T.d__law_take (ok__law_take T) fnF_hn R (hr.mono (by decide)) (vm_own (pv 0) (va_cons vx_int va_nil))))))) vb_nil)
    (vb_cons (vs_setN (i := 7) R.nd rfl (by first | exact .inl rfl | exact .inr rfl) (by decide) vn_dT0)
    (vb_cons (vs_for R.own R.calm (vi_range1 rfl R.bl.range (va_cons (x_len R (va_cons (vx_var (pv 2)) va_nil)) va_nil)) (vg_name (i := 8) R.nd rfl (by first | exact .inl rfl | exact .inr rfl) (by decide)) (vb_one (vs_for R.own R.calm (vi_range1 rfl R.bl.range (va_cons (x_len R (va_cons (vx_var (pv 2)) va_nil)) va_nil)) (vg_name (i := 9) R.nd rfl (by first | exact .inl rfl | exact .inr rfl) (by decide)) (vb_one (vs_if (t_eq R (x_ix R (x_ix R (vx_var (pv 2)) (vx_var (pv 8))) vx_int) (x_ix R (x_ix R (vx_var (pv 2)) (vx_var (pv 9))) vx_int)) (vb_cons (vs_set (i := 10) R.nd rfl (by first | exact .inl rfl | exact .inr rfl) (by decide) (vx_tup (va_cons (x_ix R (x_ix R (vx_var (pv 2)) (vx_var (pv 8))) vx_int) (va_cons (x_ix R (x_ix R (vx_var (pv 2)) (vx_var (pv 9))) vx_int) (va_cons (x_tuple R (va_cons (vx_of_vn (vn_lc (own := [("thing", 11)]) (P := [0, 1, 2, 3, 4, 5, 6, 7, 8, 9, 10]) (n := 12) R.calm R.nd (vi_seq R.hK (x_ix R (x_ix R (vx_var (pv 2)) (vx_var (pv 8))) vx_int)) (blk_ok rfl (by dsimp only [cxOf, Cx.nox, Cx.wish, Cx.blk, PyProof.Rows.envOfC, compEnvC]; first | decide +kernel | kernel_rfl)) (fun _ _ _ _ _ => (vg_name (i := 11) R.blk.nd rfl (by first | exact .inl rfl | exact .inr rfl) (by decide))) (fun _ _ _ _ _ => vts_nil) (fun _ _ _ _ _ => (x_ix R.blk (x_ix R.blk (x_ix R.blk (vx_var (pv 2)) (vx_var (pv 9))) vx_int) (vx_var (pv 11)))) (by decide))) va_nil)) va_nil)))))
    (vb_one (s_ix R (pv 7) (vx_tup (va_cons (vx_var (pv 8)) (va_cons (vx_var (pv 9)) va_nil))) (vx_if (t_in R (vx_var (pv 10)) (vx_var (pv 2))) (x_index R (vx_var (pv 2)) (va_cons (vx_var (pv 10)) va_nil)) c_nint)))) vb_nil)))))
    (vb_one (vs_ret (vn_of_vx (vx_tup (va_cons (vx_var (pv 3)) (va_cons (x_tuple R (va_cons (vx_of_vn (vn_lc (own := [("one", 4), ("other", 5), ("row", 6)]) (P := [0, 1, 2, 3, 7, 8, 9, 10, 11]) (n := 12) R.calm R.nd (vi_seq R.hK (vx_var (pv 2))) (blk_ok rfl (by dsimp only [cxOf, Cx.nox, Cx.wish, Cx.blk, PyProof.Rows.envOfC, compEnvC]; first | decide +kernel | kernel_rfl)) (fun _ _ _ _ _ => (vg_tup R.blk.calm R.blk.hK (vgs_cons (vg_name (i := 4) R.blk.nd rfl (by first | exact .inl rfl | exact .inr rfl) (by decide)) (vgs_cons (vg_name (i := 5) R.blk.nd rfl (by first | exact .inl rfl | exact .inr rfl) (by decide)) (vgs_cons (vg_name (i := 6) R.blk.nd rfl (by first | exact .inl rfl | exact .inr rfl) (by decide)) vgs_nil))))) (fun _ _ _ _ _ => vts_nil) (fun _ _ _ _ _ => (vx_tup (va_cons (vx_var (pv 4)) (va_cons (vx_var (pv 5)) va_nil)))) (by decide))) va_nil)) (va_cons (vx_fz (pv 7)) va_nil))))))))))))))
theorem ok_is_apart (T : Fx G mg base) : FnOk P w G.K mg base CX0 1 T.d_is_apart.fa T.d_is_apart.fd ["some"] (spF G 1 [] f_is_apart) := fn_ok (N := ["some", "row"]) (pn := []) T.d_is_apart.F ⟨rfl, rfl, rfl, by decide +kernel, rfl, by decide +kernel, by decide +kernel⟩ fun cdv A outer s H E hr => by
  have R : Rdy G (cxOf CX0 P w G.K mg base ["some", "row"] "is_apart" (defScope (top 9)) T.d_is_apart.fa cdv A outer s H E).nox := rdy_of hr (by decide +kernel) T.bl
  exact (vb_one (vs_ret (vn_of_vx (x_all R (va_cons (vx_of_vn (vn_lc (own := [("row", 1)]) (P := [0]) (n := 2) R.calm R.nd (vi_seq R.hK (vx_var (pv 0))) (blk_ok rfl (by dsimp only [cxOf, Cx.nox, Cx.wish, Cx.blk, PyProof.Rows.envOfC, compEnvC]; first | decide +kernel | kernel_rfl)) (fun _ _ _ _ _ => (vg_name (i := 1) R.blk.nd rfl (by first | exact .inl rfl | exact .inr rfl) (by decide))) (fun _ _ _ _ _ => vts_nil) (fun _ _ _ _ _ => (x_eq R.blk (x_lenset R.blk (va_cons (vx_var (pv 1)) va_nil)) (x_len R.blk (va_cons (vx_var (pv 1)) va_nil)))) (by decide))) va_nil)))))
theorem ok_is_onto (T : Fx G mg base) : FnOk P w G.K mg base CX0 1 T.d_is_onto.fa T.d_is_onto.fd ["other", "some"] (spF G 2 [] f_is_onto) := fn_ok (N := ["other", "some", "row", "size"]) (pn := []) T.d_is_onto.F ⟨rfl, rfl, rfl, by decide +kernel, rfl, by decide +kernel, by decide +kernel⟩ fun cdv A outer s H E hr => by
  have R : Rdy G (cxOf CX0 P w G.K mg base ["other", "some", "row", "size"] "is_onto" (defScope (top 10)) T.d_is_onto.fa cdv A outer s H E).nox := rdy_of hr (by decide +kernel) T.bl
  exact (vb_one (vs_ret (vn_of_vx (x_all R (va_cons (vx_of_vn (vn_lc (own := [("row", 2), ("size", 3)]) (P := [0, 1]) (n := 4) R.calm R.nd (vi_zip R.hK rfl R.bl.zip (vx_var (pv 1)) (x_ix R (vx_var (pv 0)) vx_int)) (blk_ok rfl (by dsimp only [cxOf, Cx.nox, Cx.wish, Cx.blk, PyProof.Rows.envOfC, compEnvC]; first | decide +kernel | kernel_rfl)) (fun _ _ _ _ _ => (vg_tup R.blk.calm R.blk.hK (vgs_cons (vg_name (i := 2) R.blk.nd rfl (by first | exact .inl rfl | exact .inr rfl) (by decide)) (vgs_cons (vg_name (i := 3) R.blk.nd rfl (by first | exact .inl rfl | exact .inr rfl) (by decide)) vgs_nil)))) (fun _ _ _ _ _ => vts_nil) (fun _ _ _ _ _ => (x_eq R.blk (x_lenset R.blk (va_cons (vx_var (pv 2)) va_nil)) (vx_var (pv 3)))) (by decide))) va_nil)))))
theorem ok_turned_back (T : Fx G mg base) : FnOk P w G.K mg base CX0 2 T.d_turned_back.fa T.d_turned_back.fd ["other", "some"] (spF G 2 [] f_turned_back) := fn_ok (N := ["other", "some", "found", "row", "back", "thing", "end"]) (pn := []) T.d_turned_back.F ⟨rfl, rfl, rfl, by decide +kernel, rfl, by decide +kernel, by decide +kernel⟩ fun cdv A outer s H E hr => by
  have R : Rdy G (cxOf CX0 P w G.K mg base ["other", "some", "found", "row", "back", "thing", "end"] "turned_back" (defScope (top 11)) T.d_turned_back.fa cdv A outer s H E).nox := rdy_of hr (by decide +kernel) T.bl
  exact (vb_cons (vs_if (PW.pt (vw_or (vt_not (vt_val (vx_of_vn (n_call T.d_is_apart (ok_is_apart T) fnF_hn R (hr.mono (by decide)) (va_cons (vx_var (pv 1)) va_nil))))) (vw_or1 (vt_not (vt_val (vx_of_vn (n_call T.d_is_onto (ok_is_onto T) fnF_hn R (hr.mono (by decide)) (va_cons (vx_var (pv 0)) (va_cons (vx_var (pv 1)) va_nil))))))))) (vb_one vs_never) vb_nil)
    (vb_cons (vs_setN (i := 2) R.nd rfl (by first | exact .inl rfl | exact .inr rfl) (by decide) (vn_lst va_nil))
    (vb_cons (vs_for R.own R.calm (vi_seq R.hK (vx_var (pv 1))) (vg_name (i := 3) R.nd rfl (by first | exact .inl rfl | exact .inr rfl) (by decide)) (vb_cons (vs_setN (i := 4) R.nd rfl (by first | exact .inl rfl | exact .inr rfl) (by decide) (n_rep (vx_of_vn (vn_lst (va_cons vx_int va_nil))) (x_len R (va_cons (vx_var (pv 3)) va_nil))))
    (vb_cons (vs_for R.own R.calm (vi_enum R.hK rfl R.bl.enumerate (vx_var (pv 3))) (vg_tup R.calm R.hK (vgs_cons (vg_name (i := 5) R.nd rfl (by first | exact .inl rfl | exact .inr rfl) (by decide)) (vgs_cons (vg_name (i := 6) R.nd rfl (by first | exact .inl rfl | exact .inr rfl) (by decide)) vgs_nil))) (vb_one (s_ix R (pv 4) (vx_var (pv 6)) (vx_var (pv 5)))))
    (vb_one (vs_expr (x_append (pv 2) (va_cons (x_tuple R (va_cons (vx_fz (pv 4)) va_nil)) va_nil)))))))
    (vb_one (vs_ret (vn_of_vx (x_tuple R (va_cons (vx_fz (pv 2)) va_nil))))))))
theorem okR_turned_back (T : Fx G mg base) : FnOk P w G.K mg base (CX P w) 2 T.d_turned_back.fa T.d_turned_back.fd ["other", "some"] (spR G 2 rf_turned_back) := fn_okR (N := ["other", "some", "found", "row", "back", "thing", "end"]) T.d_turned_back.F ⟨rfl, rfl, rfl, by decide +kernel, rfl, by decide +kernel, by decide +kernel⟩ fun cdv A outer s H E hr => by
  have R : Rdy G (cxOf (CX P w) P w G.K mg base ["other", "some", "found", "row", "back", "thing", "end"] "turned_back" (defScope (top 11)) T.d_turned_back.fa cdv A outer s H E) := rdy_cx hr (by decide +kernel) T.bl
  have tk : Takes (cxOf (CX P w) P w G.K mg base ["other", "some", "found", "row", "back", "thing", "end"] "turned_back" (defScope (top 11)) T.d_turned_back.fa cdv A outer s H E) (fun cls d _ H => E cls d H) := takes_cx
  exact (vrs_here (vr_if (PW.pt (vw_or (vt_not (vt_val (vx_of_vn (n_call T.d_is_apart (ok_is_apart T) fnF_hn R (hr.mono (by decide)) (va_cons (vx_var (pv 1)) va_nil))))) (vw_or1 (vt_not (vt_val (vx_of_vn (n_call T.d_is_onto (ok_is_onto T) fnF_hn R (hr.mono (by decide)) (va_cons (vx_var (pv 0)) (va_cons (vx_var (pv 1)) va_nil))))))))) (vrs_here (vr_raise R tk T.x_NoMap)) vrs_no))
theorem gv__law_refused (T : Fx G mg base) {N0 : List Str} {q0 q : Str} {sc0 : Scope} {f0 : Addr} {cd0 : Value} {A0 : Around} {o0 : List Env} {s0 : Shared} {H0 : Hp} {E0 : XK} {k : Nat} (hr : Room (k + 1) (cxOf CX0 P w G.K mg base N0 q0 sc0 f0 cd0 A0 o0 s0 H0 E0).nox.A) (cdv : Value) :
    LamX.GivesTo (cxOf CX0 P w G.K mg base N0 q0 sc0 f0 cd0 A0 o0 s0 H0 E0).nox ["call", "error", "e", "kinds", "k"] "_law_refused" (defScope (top 27)) T.d__law_refused.fa cdv (defBody (top 27)) "call" q (TRef G G.K (.ref (G.cl "MapError")) 5 1 g__law_refused) := by
  have nd : List.Nodup (["call", "error", "e", "kinds", "k"] : List Str) := by decide +kernel
  refine refused_gives (X := (cxOf CX0 P w G.K mg base N0 q0 sc0 f0 cd0 A0 o0 s0 H0 E0).nox) (Ng := ["call", "error", "e", "kinds", "k"]) (i := 2) (j := 1) hr nd rfl (by decide) (by decide) (by decide) rfl (fun _ => rfl) (fun _ _ => ⟨rfl, by decide, .inl T.x_MapError.m⟩) (fun _ _ => h_none nd rfl (by first | exact .inl rfl | exact .inr rfl)) (fun _ _ _ _ => he_set nd rfl (.inl rfl) rfl (by first | exact .inl rfl | exact .inr rfl)) fun s H hr2 => ?_
  have R := rdy_of (G := G) (P := P) (w := w) (base := base) (outer := (cxOf CX0 P w G.K mg base N0 q0 sc0 f0 cd0 A0 o0 s0 H0 E0).nox.stack) (N := ["call", "error", "e", "kinds", "k"]) (E := C8.E0) (H := H) hr2 nd T.bl
  exact (vb_cons (vs_set (i := 3) R.nd rfl (by first | exact .inl rfl | exact .inr rfl) (by decide) (vx_of_vn (vn_lst (va_cons (vx_isX R.hK (isl_one T.xc_NoMap T.xk_NoMap_NoPattern) (vx_var (pv 1)) (pe_glob (v := .ref (G.cl "NoPattern")) (by rfl) T.x_NoPattern.m (by rfl)) (fun _ h => h) (by rfl) R.bl.isinstance) (va_cons (vx_isX R.hK (isl_one T.xc_NoMap T.xk_NoMap_NoMap) (vx_var (pv 1)) (pe_glob (v := .ref (G.cl "NoMap")) (by rfl) T.x_NoMap.m (by rfl)) (fun _ h => h) (by rfl) R.bl.isinstance) (va_cons (vx_isX R.hK (isl_one T.xc_NoMap T.xk_NoMap_TooMany) (vx_var (pv 1)) (pe_glob (v := .ref (G.cl "TooMany")) (by rfl) T.x_TooMany.m (by rfl)) (fun _ h => h) (by rfl) R.bl.isinstance) va_nil))))))
    (vb_cons (vs_set (i := 3) R.nd rfl (by first | exact .inl rfl | exact .inr rfl) (by decide) (x_add R (vx_var (pv 3)) (vx_of_vn (vn_lst (va_cons (vx_isX R.hK (isl_one T.xc_NoMap T.xk_NoMap_NoSaying) (vx_var (pv 1)) (pe_glob (v := .ref (G.cl "NoSaying")) (by rfl) T.x_NoSaying.m (by rfl)) (fun _ h => h) (by rfl) R.bl.isinstance) (va_cons (vx_isX R.hK (isl_one T.xc_NoMap T.xk_NoMap_NoName) (vx_var (pv 1)) (pe_glob (v := .ref (G.cl "NoName")) (by rfl) T.x_NoName.m (by rfl)) (fun _ h => h) (by rfl) R.bl.isinstance) (va_cons (vx_isX R.hK (isl_one T.xc_NoMap T.xk_NoMap_BadNote) (vx_var (pv 1)) (pe_glob (v := .ref (G.cl "BadNote")) (by rfl) T.x_BadNote.m (by rfl)) (fun _ h => h) (by rfl) R.bl.isinstance) va_nil)))))))
    (vb_cons (vs_if (vt_not (vt_val (vx_isX R.hK (isl_one T.xc_NoMap T.xk_NoMap_ValueError) (vx_var (pv 1)) (pe_bltn (v := .ty "ValueError") (by rfl) T.bz_ValueError boot_ValueError (by rfl)) (fun _ h => h) (by rfl) R.bl.isinstance))) (vb_one (vs_ret (vn_of_vx vx_non))) vb_nil)
    (vb_one (vs_ret (vn_lc (own := [("k", 4)]) (P := [0, 1, 2, 3]) (n := 5) R.calm R.nd (vi_range1 rfl R.bl.range (va_cons vx_int va_nil)) (blk_ok rfl (by dsimp only [cxOf, Cx.nox, Cx.wish, Cx.blk, PyProof.Rows.envOfC, compEnvC]; first | decide +kernel | kernel_rfl)) (fun _ _ _ _ _ => (vg_name (i := 4) R.blk.nd rfl (by first | exact .inl rfl | exact .inr rfl) (by decide))) (fun _ _ _ _ _ => (vts_one (vt_val (x_ix R.blk (vx_var (pv 3)) (vx_var (pv 4)))))) (fun _ _ _ _ _ => (vx_var (pv 4))) (by decide)))))))
theorem ok__law_looked (T : Fx G mg base) : FnOk P w G.K mg base CX0 6 T.d__law_looked.fa T.d__law_looked.fd ["one", "other", "some"] (spF G 3 [] f__law_looked) := fn_okL (N := ["one", "other", "some", "apart", "onto", "kind", "found", "due", "thing", "row"]) (pn := []) T.L__law_looked ⟨rfl, rfl, rfl, by decide +kernel, rfl, by decide +kernel, by decide +kernel⟩ fun A outer s H E hr => by
  have R : Rdy G (cxOf CX0 P w G.K mg base ["one", "other", "some", "apart", "onto", "kind", "found", "due", "thing", "row"] "_law_looked" (defScope (top 30)) T.d__law_looked.fa (.ref T.L__law_looked.c) A outer s H E).nox := rdy_of hr (by decide +kernel) T.bl
  exact (vb_cons (vs_set (i := 3) R.nd rfl (by first | exact .inl rfl | exact .inr rfl) (by decide) vx_bl)
    (vb_cons (vs_set (i := 4) R.nd rfl (by first | exact .inl rfl | exact .inr rfl) (by decide) vx_bl)
    (vb_cons (vs_for R.own R.calm (vi_range1 rfl R.bl.range (va_cons (x_len R (va_cons (vx_var (pv 2)) va_nil)) va_nil)) (vg_name (i := 5) R.nd rfl (by first | exact .inl rfl | exact .inr rfl) (by decide)) (vb_cons (vs_set (i := 3) R.nd rfl (by first | exact .inl rfl | exact .inr rfl) (by decide) (vx_and (vx_var (pv 3)) (vx_one (x_eq R (x_lenset R (va_cons (x_ix R (vx_var (pv 2)) (vx_var (pv 5))) va_nil)) (x_len R (va_cons (x_ix R (vx_var (pv 2)) (vx_var (pv 5))) va_nil))))))
    (vb_one (vs_set (i := 4) R.nd rfl (by first | exact .inl rfl | exact .inr rfl) (by decide) (vx_and (vx_var (pv 4)) (vx_one (x_eq R (vx_of_vn (n_sortset R (va_cons (x_ix R (vx_var (pv 2)) (vx_var (pv 5))) va_nil))) (vx_of_vn (vn_listR1 R.calm rfl R.bl.list rfl R.bl.range (x_ix R (x_ix R (vx_var (pv 1)) vx_int) (vx_var (pv 5))))))))))))
    (vb_cons (vs_set (i := 6) R.nd rfl (by first | exact .inl rfl | exact .inr rfl) (by decide) (vx_of_vn (vn_lst (va_cons (vx_of_vn (n_call T.d_is_apart (ok_is_apart T) fnF_hn R (hr.mono (by decide)) (va_cons (vx_var (pv 2)) va_nil))) (va_cons (vx_of_vn (n_call T.d_is_onto (ok_is_onto T) fnF_hn R (hr.mono (by decide)) (va_cons (vx_var (pv 1)) (va_cons (vx_var (pv 2)) va_nil)))) va_nil)))))
    (vb_cons (vs_if (PW.pt (vw_or (t_ne R (vx_var (pv 6)) (vx_of_vn (vn_lst (va_cons (vx_var (pv 3)) (va_cons (vx_var (pv 4)) va_nil))))) (vw_or (vt_not (vt_val (x_isi1 R (x_ix R (vx_var (pv 6)) vx_int) (by decide) R.bl.bool PyProof.Rows.boot_bool))) (vw_or1 (vt_not (vt_val (x_isi1 R (x_ix R (vx_var (pv 6)) vx_int) (by decide) R.bl.bool PyProof.Rows.boot_bool))))))) (vb_one (vs_ret (vn_of_vx vx_bl))) vb_nil)
    (vb_cons (vs_if (PW.pt (vw_or (vt_not (vt_val (vx_var (pv 3)))) (vw_or1 (vt_not (vt_val (vx_var (pv 4))))))) (vb_one (vs_ret (vn_of_vx (x_eq R (vx_of_vn (vn_refusedD (k := 2) (Ng := ["call", "error", "e", "kinds", "k"]) R T.d__law_refused ⟨rfl, rfl, rfl, by decide +kernel, rfl, by decide +kernel, by decide +kernel⟩ rfl (.inl rfl) (gv__law_refused T (k := 1) (hr.mono (by decide))) (cs_one T.xm_NoMap_MapError) T.L__law_looked.tb rfl T.L__law_looked.hm T.L__law_looked.hq (hr.mono (by decide)) (LamX.lamS_by (by first | rfl | kernel_rfl)) rfl (by intros; rfl) (fun A outer s H E f c' hr2 => by
      have R2 := rdy_lam (outer := outer) (H := H) (E := E) R hr2
      exact lamR_call T.d_turned_back (okR_turned_back T) fnR_hn R2 hr2 (va_cons (vx_var (pv 1)) (va_cons (vx_var (pv 2)) va_nil))))) (vx_of_vn (vn_lst (va_cons vx_int va_nil))))))) vb_nil)
    (vb_cons (vs_set (i := 7) R.nd rfl (by first | exact .inl rfl | exact .inr rfl) (by decide) (x_tuple R (va_cons (vx_of_vn (vn_lc (own := [("row", 9)]) (P := [0, 1, 2, 3, 4, 5, 6, 7, 8]) (n := 10) R.calm R.nd (vi_seq R.hK (vx_var (pv 2))) (blk_ok rfl (by dsimp only [cxOf, Cx.nox, Cx.wish, Cx.blk, PyProof.Rows.envOfC, compEnvC]; first | decide +kernel | kernel_rfl)) (fun _ _ _ _ _ => (vg_name (i := 9) R.blk.nd rfl (by first | exact .inl rfl | exact .inr rfl) (by decide))) (fun _ _ _ _ _ => vts_nil) (fun _ _ _ _ _ => (x_tuple R.blk (va_cons (vx_of_vn (vn_lc (own := [("thing", 8)]) (P := [0, 1, 2, 3, 4, 5, 6, 7, 9]) (n := 10) R.blk.calm R.blk.nd (vi_range1 rfl R.blk.bl.range (va_cons (x_len R.blk (va_cons (vx_var (pv 9)) va_nil)) va_nil)) (blk_ok rfl (by dsimp only [cxOf, Cx.nox, Cx.wish, Cx.blk, PyProof.Rows.envOfC, compEnvC]; first | decide +kernel | kernel_rfl)) (fun _ _ _ _ _ => (vg_name (i := 8) R.blk.blk.nd rfl (by first | exact .inl rfl | exact .inr rfl) (by decide))) (fun _ _ _ _ _ => vts_nil) (fun _ _ _ _ _ => (x_indexZ (vx_var (pv 9)) (va_cons (vx_var (pv 8)) va_nil))) (by decide))) va_nil))) (by decide))) va_nil)))
    (vb_cons (vs_set (i := 6) R.nd rfl (by first | exact .inl rfl | exact .inr rfl) (by decide) (vx_of_vn (n_call T.d_turned_back (ok_turned_back T) fnF_hn R (hr.mono (by decide)) (va_cons (vx_var (pv 1)) (va_cons (vx_var (pv 2)) va_nil)))))
    (vb_one (vs_ret (vn_of_vx (vx_and (x_isi1 R (vx_var (pv 6)) (by decide) R.bl.tuple PyProof.Rows.boot_tuple) (vx_and (x_eq R (vx_var (pv 6)) (vx_var (pv 7))) (vx_one (x_eq R (vx_of_vn (n_call T.d_turned_back (ok_turned_back T) fnF_hn R (hr.mono (by decide)) (va_cons (vx_var (pv 0)) (va_cons (vx_var (pv 6)) va_nil)))) (vx_var (pv 2)))))))))))))))))
theorem ok__law_merged (T : Fx G mg base) : FnOk P w G.K mg base CX0 1 T.d__law_merged.fa T.d__law_merged.fd ["pat", "marks", "acts"] (spF G 3 [] f__law_merged) := fn_ok (N := ["pat", "marks", "acts", "changed", "k", "one", "other", "first", "thing", "mark", "end", "low", "high", "old"]) (pn := []) T.d__law_merged.F ⟨rfl, rfl, rfl, by decide +kernel, rfl, by decide +kernel, by decide +kernel⟩ fun cdv A outer s H E hr => by
  have R : Rdy G (cxOf CX0 P w G.K mg base ["pat", "marks", "acts", "changed", "k", "one", "other", "first", "thing", "mark", "end", "low", "high", "old"] "_law_merged" (defScope (top 22)) T.d__law_merged.fa cdv A outer s H E).nox := rdy_of hr (by decide +kernel) T.bl
  exact (vb_cons (vs_set (i := 3) R.nd rfl (by first | exact .inl rfl | exact .inr rfl) (by decide) vx_bl)
    (vb_cons (vs_while 1000 R.own (vt_val (vx_var (pv 3))) (vb_cons (vs_set (i := 3) R.nd rfl (by first | exact .inl rfl | exact .inr rfl) (by decide) vx_bl)
    (vb_one (vs_for R.own R.calm (vi_range1 rfl R.bl.range (va_cons (x_len R (va_cons (x_ix R (vx_var (pv 0)) vx_int) va_nil)) va_nil)) (vg_name (i := 4) R.nd rfl (by first | exact .inl rfl | exact .inr rfl) (by decide)) (vb_cons (vs_asg (x_ix R (x_ix R (vx_var (pv 0)) vx_int) (vx_var (pv 4))) (vg_tup R.calm R.hK (vgs_cons (vg_name (i := 5) R.nd rfl (by first | exact .inl rfl | exact .inr rfl) (by decide)) (vgs_cons (vg_name (i := 6) R.nd rfl (by first | exact .inl rfl | exact .inr rfl) (by decide)) vgs_nil))))
    (vb_cons (vs_setN (i := 7) R.nd rfl (by first | exact .inl rfl | exact .inr rfl) (by decide) vn_dK0)
    (vb_one (vs_for R.own R.calm (vi_range1 rfl R.bl.range (va_cons (x_len R (va_cons (x_ixv R (pv 1) (vx_var (pv 5))) va_nil)) va_nil)) (vg_name (i := 8) R.nd rfl (by first | exact .inl rfl | exact .inr rfl) (by decide)) (vb_cons (vs_set (i := 9) R.nd rfl (by first | exact .inl rfl | exact .inr rfl) (by decide) (x_ix R (x_ixv R (pv 1) (vx_var (pv 5))) (vx_var (pv 8))))
    (vb_cons (vs_set (i := 10) R.nd rfl (by first | exact .inl rfl | exact .inr rfl) (by decide) (x_ix R (x_ixv R (pv 1) (vx_var (pv 6))) (x_ix R (x_ix R (vx_var (pv 2)) (vx_var (pv 4))) (vx_var (pv 8)))))
    (vb_cons (vs_if (t_ne R (x_getv R (pv 7) (vx_var (pv 9)) (vx_var (pv 10))) (vx_var (pv 10))) (vb_cons (vs_set (i := 11) R.nd rfl (by first | exact .inl rfl | exact .inr rfl) (by decide) (x_min R (va_cons (x_ixv R (pv 7) (vx_var (pv 9))) (va_cons (vx_var (pv 10)) va_nil))))
    (vb_cons (vs_set (i := 12) R.nd rfl (by first | exact .inl rfl | exact .inr rfl) (by decide) (x_max R (va_cons (x_ixv R (pv 7) (vx_var (pv 9))) (va_cons (vx_var (pv 10)) va_nil))))
    (vb_cons (s_ix R (pv 1) (vx_var (pv 6)) (vx_of_vn (vn_lc (own := [("old", 13)]) (P := [0, 1, 2, 3, 4, 5, 6, 7, 8, 9, 10, 11, 12]) (n := 14) R.calm R.nd (vi_seq R.hK (x_ixv R (pv 1) (vx_var (pv 6)))) (blk_ok rfl (by dsimp only [cxOf, Cx.nox, Cx.wish, Cx.blk, PyProof.Rows.envOfC, compEnvC]; first | decide +kernel | kernel_rfl)) (fun _ _ _ _ _ => (vg_name (i := 13) R.blk.nd rfl (by first | exact .inl rfl | exact .inr rfl) (by decide))) (fun _ _ _ _ _ => vts_nil) (fun _ _ _ _ _ => (vx_if (t_eq R.blk (vx_var (pv 13)) (vx_var (pv 12))) (vx_var (pv 11)) (vx_var (pv 13)))) (by decide))))
    (vb_cons (vs_set (i := 3) R.nd rfl (by first | exact .inl rfl | exact .inr rfl) (by decide) vx_bl)
    (vb_cons (vs_setN (i := 7) R.nd rfl (by first | exact .inl rfl | exact .inr rfl) (by decide) vn_dK0)
    (vb_one vs_break)))))) vb_nil)
    (vb_one (s_ix R (pv 7) (vx_var (pv 9)) (vx_var (pv 10)))))))))))))))
    (vb_one (vs_ret (vn_move (pv 1))))))
theorem ok__law_end (T : Fx G mg base) : FnOk P w G.K mg base CX0 1 T.d__law_end.fa T.d__law_end.fd ["pat", "kind", "way"] (spF G 3 [] f__law_end) := fn_ok (N := ["pat", "kind", "way"]) (pn := []) T.d__law_end.F ⟨rfl, rfl, rfl, by decide +kernel, rfl, by decide +kernel, by decide +kernel⟩ fun cdv A outer s H E hr => by
  have R : Rdy G (cxOf CX0 P w G.K mg base ["pat", "kind", "way"] "_law_end" (defScope (top 20)) T.d__law_end.fa cdv A outer s H E).nox := rdy_of hr (by decide +kernel) T.bl
  exact (vb_one (vs_ret (vn_of_vx (vx_if (t_lt (vx_var (pv 2)) vx_int) (vx_var (pv 1)) (x_ix R (x_ix R (x_ix R (vx_var (pv 0)) vx_int) (vx_var (pv 2))) vx_int)))))
theorem ok__law_ways (T : Fx G mg base) : FnOk P w G.K mg base CX0 1 T.d__law_ways.fa T.d__law_ways.fd ["pat", "kind"] (spF G 2 [] f__law_ways) := fn_ok (N := ["pat", "kind", "k"]) (pn := []) T.d__law_ways.F ⟨rfl, rfl, rfl, by decide +kernel, rfl, by decide +kernel, by decide +kernel⟩ fun cdv A outer s H E hr => by
  have R : Rdy G (cxOf CX0 P w G.K mg base ["pat", "kind", "k"] "_law_ways" (defScope (top 19)) T.d__law_ways.fa cdv A outer s H E).nox := rdy_of hr (by decide +kernel) T.bl
  exact (vb_one (vs_ret (vn_of_vx (x_add R (vx_of_vn (vn_lst (va_cons c_nint va_nil))) (vx_of_vn (vn_lc (own := [("k", 2)]) (P := [0, 1]) (n := 3) R.calm R.nd (vi_range1 rfl R.bl.range (va_cons (x_len R (va_cons (x_ix R (vx_var (pv 0)) vx_int) va_nil)) va_nil)) (blk_ok rfl (by dsimp only [cxOf, Cx.nox, Cx.wish, Cx.blk, PyProof.Rows.envOfC, compEnvC]; first | decide +kernel | kernel_rfl)) (fun _ _ _ _ _ => (vg_name (i := 2) R.blk.nd rfl (by first | exact .inl rfl | exact .inr rfl) (by decide))) (fun _ _ _ _ _ => (vts_one (t_eq R.blk (x_ix R.blk (x_ix R.blk (x_ix R.blk (vx_var (pv 0)) vx_int) (vx_var (pv 2))) vx_int) (vx_var (pv 1))))) (fun _ _ _ _ _ => (vx_var (pv 2))) (by decide)))))))
theorem ok__law_behind (T : Fx G mg base) : FnOk P w G.K mg base CX0 1 T.d__law_behind.fa T.d__law_behind.fd ["pat", "one", "other"] (spF G 3 [] f__law_behind) := fn_ok (N := ["pat", "one", "other"]) (pn := []) T.d__law_behind.F ⟨rfl, rfl, rfl, by decide +kernel, rfl, by decide +kernel, by decide +kernel⟩ fun cdv A outer s H E hr => by
  have R : Rdy G (cxOf CX0 P w G.K mg base ["pat", "one", "other"] "_law_behind" (defScope (top 21)) T.d__law_behind.fa cdv A outer s H E).nox := rdy_of hr (by decide +kernel) T.bl
  exact (vb_cons (vs_if (PW.pt (vw_or (t_lt (vx_var (pv 1)) vx_int) (vw_or1 (t_lt (vx_var (pv 2)) vx_int)))) (vb_one (vs_ret (vn_of_vx (x_add R (x_add R (vx_var (pv 1)) (vx_var (pv 2))) vx_int)))) vb_nil)
    (vb_one (vs_ret (vn_of_vx (x_ix R (x_ix R (vx_var (pv 0)) vx_int) (vx_tup (va_cons (vx_var (pv 1)) (va_cons (vx_var (pv 2)) va_nil))))))))
theorem ok__law_world (T : Fx G mg base) : FnOk P w G.K mg base CX0 2 T.d__law_world.fa T.d__law_world.fd ["state", "pat", "most"] (spF G 3 [0] f__law_world) := fn_ok (N := ["state", "pat", "most", "rows", "kind", "number", "some", "way", "row", "end", "acts", "k", "one", "other", "marks", "low", "high", "old", "heads", "told", "thing", "mark"]) (pn := [0]) T.d__law_world.F ⟨rfl, rfl, rfl, by decide +kernel, rfl, by decide +kernel, by decide +kernel⟩ fun cdv A outer s H E hr => by
  have R : Rdy G (cxOf CX0 P w G.K mg base ["state", "pat", "most", "rows", "kind", "number", "some", "way", "row", "end", "acts", "k", "one", "other", "marks", "low", "high", "old", "heads", "told", "thing", "mark"] "_law_world" (defScope (top 23)) T.d__law_world.fa cdv A outer s H E).nox := rdy_of hr (by decide +kernel) T.bl
  exact (vb_cons (vs_setN (i := 3) R.nd rfl (by first | exact .inl rfl | exact .inr rfl) (by decide) (vn_lcO (own := [("kind", 4)]) (P := [0, 1, 2, 3, 5, 6, 7, 8, 9, 10, 11, 12, 13, 14, 15, 16, 17, 18, 19, 20, 21]) (n := 22) R.calm R.nd (vi_range1 rfl R.bl.range (va_cons (x_ix R (vx_var (pv 1)) vx_int) va_nil)) (blk_ok rfl (by dsimp only [cxOf, Cx.nox, Cx.wish, Cx.blk, PyProof.Rows.envOfC, compEnvC]; first | decide +kernel | kernel_rfl)) (fun _ _ _ _ _ => (vg_name (i := 4) R.blk.nd rfl (by first | exact .inl rfl | exact .inr rfl) (by decide))) (fun _ _ _ _ _ => vts_nil) (fun _ _ _ _ _ => (vn_lst va_nil)) (by decide)))
    (vb_cons (vs_frz 3 (vs_for R.own R.calm (vi_range1 rfl R.bl.range (va_cons (vx_of_vn (n_call1 (pl := 0) (i := 0) T.d__law_take (ok__law_take T) fnF_hn R (hr.mono (by decide)) (vm_own (pv 0) (va_cons (x_add R (vx_var (pv 2)) vx_int) va_nil)))) va_nil)) (vg_name (i := 5) R.nd rfl (by first | exact .inl rfl | exact .inr rfl) (by decide)) (vb_cons (vs_set (i := 4) R.nd rfl (by first | exact .inl rfl | exact .inr rfl) (by decide) (vx_of_vn (n_call1 (pl := 0) (i := 0) T.d__law_take (ok__law_take T) fnF_hn R (hr.mono (by decide)) (vm_own (pv 0) (va_cons (x_ix R (vx_var (pv 1)) vx_int) va_nil)))))
    (vb_cons (vs_frz 6 (vs_setLc (i := 6) (own := [("way", 7)]) (P := [0, 1, 2, 3, 4, 5, 6, 8, 9, 10, 11, 12, 13, 14, 15, 16, 17, 18, 19, 20, 21]) (n := 22) R.calm R.nd rfl rfl (by decide) rfl (vi_seq R.hK (vx_of_vn (n_call T.d__law_ways (ok__law_ways T) fnF_hn R (hr.mono (by decide)) (va_cons (vx_var (pv 1)) (va_cons (vx_var (pv 4)) va_nil))))) (blk_ok rfl (by dsimp only [cxOf, Cx.nox, Cx.wish, Cx.blk, PyProof.Rows.envOfC, compEnvC]; first | decide +kernel | kernel_rfl)) (fun _ _ _ _ _ => (vg_name (i := 7) R.blk.nd rfl (by first | exact .inl rfl | exact .inr rfl) (by decide))) (fun _ _ _ _ _ => vts_nil) (fun _ _ _ _ _ => (vx_tup (va_cons (vx_of_vn (n_call T.d__law_end (ok__law_end T) fnF_hn R.blk (hr.mono (by decide)) (va_cons (vx_var (pv 1)) (va_cons (vx_var (pv 4)) (va_cons (vx_var (pv 7)) va_nil))))) (va_cons (vx_var (pv 7)) va_nil)))) (by decide)))
    (vb_one (vs_if (t_lt (x_add R (x_max R (va_cons (vx_of_vn (vn_lens (i := 3) (v := 8) (x := "row") R (pv 3) (blk_ok rfl (by dsimp only [cxOf, Cx.nox, Cx.wish, Cx.blk, PyProof.Rows.envOfC, compEnvC]; first | decide +kernel | kernel_rfl)) (fun _ _ _ _ _ => pg_name (i := 8) R.blk.nd rfl (by first | exact .inl rfl | exact .inr rfl)) (fun _ _ _ _ _ => pe_callB call_lenAll rfl R.blk.bl.len PySem.boot_len (pa_cons (pv 8) pa_nil)))) va_nil)) (x_len R (va_cons (vx_var (pv 6)) va_nil))) vx_int) (vb_one (vs_for R.own R.calm (vi_seq R.hK (vx_var (pv 6))) (vg_tup R.calm R.hK (vgs_cons (vg_name (i := 9) R.nd rfl (by first | exact .inl rfl | exact .inr rfl) (by decide)) (vgs_cons (vg_name (i := 7) R.nd rfl (by first | exact .inl rfl | exact .inr rfl) (by decide)) vgs_nil))) (vb_one (vs_expr (vx_metAt does_app PySem.F.slot_list_append PySem.F.type_list_append mt_append (pv 3) (vx_var (pv 9)) (by intro _ _; rfl) (va_cons (vx_tup (va_cons (vx_var (pv 5)) (va_cons (vx_var (pv 4)) (va_cons (vx_var (pv 7)) va_nil)))) va_nil)))))) vb_nil))))))
    (vb_cons (vs_setN (i := 10) R.nd rfl (by first | exact .inl rfl | exact .inr rfl) (by decide) (vn_lst va_nil))
    (vb_cons (vs_for R.own R.calm (vi_range1 rfl R.bl.range (va_cons (x_len R (va_cons (x_ix R (vx_var (pv 1)) vx_int) va_nil)) va_nil)) (vg_name (i := 11) R.nd rfl (by first | exact .inl rfl | exact .inr rfl) (by decide)) (vb_cons (vs_asg (x_ix R (x_ix R (vx_var (pv 1)) vx_int) (vx_var (pv 11))) (vg_tup R.calm R.hK (vgs_cons (vg_name (i := 12) R.nd rfl (by first | exact .inl rfl | exact .inr rfl) (by decide)) (vgs_cons (vg_name (i := 13) R.nd rfl (by first | exact .inl rfl | exact .inr rfl) (by decide)) vgs_nil))))
    (vb_one (vs_expr (x_append (pv 10) (va_cons (vx_of_vn (vn_lc (own := [("number", 5), ("kind", 4), ("way", 7)]) (P := [0, 1, 2, 3, 6, 8, 9, 10, 11, 12, 13, 14, 15, 16, 17, 18, 19, 20, 21]) (n := 22) R.calm R.nd (vi_seq R.hK (x_ixv R (pv 3) (vx_var (pv 12)))) (blk_ok rfl (by dsimp only [cxOf, Cx.nox, Cx.wish, Cx.blk, PyProof.Rows.envOfC, compEnvC]; first | decide +kernel | kernel_rfl)) (fun _ _ _ _ _ => (vg_tup R.blk.calm R.blk.hK (vgs_cons (vg_name (i := 5) R.blk.nd rfl (by first | exact .inl rfl | exact .inr rfl) (by decide)) (vgs_cons (vg_name (i := 4) R.blk.nd rfl (by first | exact .inl rfl | exact .inr rfl) (by decide)) (vgs_cons (vg_name (i := 7) R.blk.nd rfl (by first | exact .inl rfl | exact .inr rfl) (by decide)) vgs_nil))))) (fun _ _ _ _ _ => vts_nil) (fun _ _ _ _ _ => (x_index R.blk (x_ixv R.blk (pv 3) (vx_var (pv 13))) (va_cons (vx_tup (va_cons (vx_var (pv 5)) (va_cons (vx_var (pv 4)) (va_cons (vx_of_vn (n_call T.d__law_behind (ok__law_behind T) fnF_hn R.blk (hr.mono (by decide)) (va_cons (vx_var (pv 1)) (va_cons (vx_var (pv 7)) (va_cons (vx_var (pv 11)) va_nil))))) va_nil)))) va_nil))) (by decide))) va_nil))))))
    (vb_cons (vs_setN (i := 14) R.nd rfl (by first | exact .inl rfl | exact .inr rfl) (by decide) (vn_lc (own := [("row", 8)]) (P := [0, 1, 2, 3, 4, 5, 6, 7, 9, 10, 11, 12, 13, 14, 15, 16, 17, 18, 19, 20, 21]) (n := 22) R.calm R.nd (vi_seq R.hK (vx_fz (pv 3))) (blk_ok rfl (by dsimp only [cxOf, Cx.nox, Cx.wish, Cx.blk, PyProof.Rows.envOfC, compEnvC]; first | decide +kernel | kernel_rfl)) (fun _ _ _ _ _ => (vg_name (i := 8) R.blk.nd rfl (by first | exact .inl rfl | exact .inr rfl) (by decide))) (fun _ _ _ _ _ => vts_nil) (fun _ _ _ _ _ => (vx_of_vn (vn_listR1 R.blk.calm rfl R.blk.bl.list rfl R.blk.bl.range (x_len R.blk (va_cons (vx_var (pv 8)) va_nil))))) (by decide)))
    (vb_cons (vs_for R.own R.calm (vi_range1 rfl R.bl.range (va_cons (vx_of_vn (n_call1 (pl := 0) (i := 0) T.d__law_take (ok__law_take T) fnF_hn R (hr.mono (by decide)) (vm_own (pv 0) (va_cons vx_int va_nil)))) va_nil)) (vg_name (i := 11) R.nd rfl (by first | exact .inl rfl | exact .inr rfl) (by decide)) (vb_cons (vs_set (i := 4) R.nd rfl (by first | exact .inl rfl | exact .inr rfl) (by decide) (vx_of_vn (n_call1 (pl := 0) (i := 0) T.d__law_take (ok__law_take T) fnF_hn R (hr.mono (by decide)) (vm_own (pv 0) (va_cons (x_ix R (vx_var (pv 1)) vx_int) va_nil)))))
    (vb_cons (vs_set (i := 12) R.nd rfl (by first | exact .inl rfl | exact .inr rfl) (by decide) (vx_of_vn (n_call1 (pl := 0) (i := 0) T.d__law_take (ok__law_take T) fnF_hn R (hr.mono (by decide)) (vm_own (pv 0) (va_cons vx_int va_nil)))))
    (vb_cons (vs_set (i := 13) R.nd rfl (by first | exact .inl rfl | exact .inr rfl) (by decide) (vx_of_vn (n_call1 (pl := 0) (i := 0) T.d__law_take (ok__law_take T) fnF_hn R (hr.mono (by decide)) (vm_own (pv 0) (va_cons vx_int va_nil)))))
    (vb_one (vs_if (t_lt (x_max R (va_cons (vx_var (pv 12)) (va_cons (vx_var (pv 13)) va_nil))) (x_len R (va_cons (x_ixv R (pv 14) (vx_var (pv 4))) va_nil))) (vb_cons (vs_set (i := 15) R.nd rfl (by first | exact .inl rfl | exact .inr rfl) (by decide) (x_min R (va_cons (x_ix R (x_ixv R (pv 14) (vx_var (pv 4))) (vx_var (pv 12))) (va_cons (x_ix R (x_ixv R (pv 14) (vx_var (pv 4))) (vx_var (pv 13))) va_nil))))
    (vb_cons (vs_set (i := 16) R.nd rfl (by first | exact .inl rfl | exact .inr rfl) (by decide) (x_max R (va_cons (x_ix R (x_ixv R (pv 14) (vx_var (pv 4))) (vx_var (pv 12))) (va_cons (x_ix R (x_ixv R (pv 14) (vx_var (pv 4))) (vx_var (pv 13))) va_nil))))
    (vb_cons (s_ix R (pv 14) (vx_var (pv 4)) (vx_of_vn (vn_lc (own := [("old", 17)]) (P := [0, 1, 2, 3, 4, 5, 6, 7, 8, 9, 10, 11, 12, 13, 14, 15, 16, 18, 19, 20, 21]) (n := 22) R.calm R.nd (vi_seq R.hK (x_ixv R (pv 14) (vx_var (pv 4)))) (blk_ok rfl (by dsimp only [cxOf, Cx.nox, Cx.wish, Cx.blk, PyProof.Rows.envOfC, compEnvC]; first | decide +kernel | kernel_rfl)) (fun _ _ _ _ _ => (vg_name (i := 17) R.blk.nd rfl (by first | exact .inl rfl | exact .inr rfl) (by decide))) (fun _ _ _ _ _ => vts_nil) (fun _ _ _ _ _ => (vx_if (t_eq R.blk (vx_var (pv 17)) (vx_var (pv 16))) (vx_var (pv 15)) (vx_var (pv 17)))) (by decide))))
    (vb_one (vs_setN (i := 14) R.nd rfl (by first | exact .inl rfl | exact .inr rfl) (by decide) (n_callM (pl := 1) (i := 14) T.d__law_merged (ok__law_merged T) fnF_hn R (hr.mono (by decide)) (vm_cons (vx_var (pv 1)) (vm_own (pv 14) (va_cons (vx_fz (pv 10)) va_nil))))))))) vb_nil))))))
    (vb_cons (vs_set (i := 18) R.nd rfl (by first | exact .inl rfl | exact .inr rfl) (by decide) (vx_of_vn (vn_lc (own := [("row", 8)]) (P := [0, 1, 2, 3, 4, 5, 6, 7, 9, 10, 11, 12, 13, 14, 15, 16, 17, 18, 19, 20, 21]) (n := 22) R.calm R.nd (vi_seq R.hK (vx_fz (pv 14))) (blk_ok rfl (by dsimp only [cxOf, Cx.nox, Cx.wish, Cx.blk, PyProof.Rows.envOfC, compEnvC]; first | decide +kernel | kernel_rfl)) (fun _ _ _ _ _ => (vg_name (i := 8) R.blk.nd rfl (by first | exact .inl rfl | exact .inr rfl) (by decide))) (fun _ _ _ _ _ => vts_nil) (fun _ _ _ _ _ => (vx_of_vn (n_sortset R.blk (va_cons (vx_var (pv 8)) va_nil)))) (by decide))))
    (vb_cons (vs_setN (i := 19) R.nd rfl (by first | exact .inl rfl | exact .inr rfl) (by decide) (vn_lst va_nil))
    (vb_cons (vs_for R.own R.calm (vi_range1 rfl R.bl.range (va_cons (x_len R (va_cons (x_ix R (vx_var (pv 1)) vx_int) va_nil)) va_nil)) (vg_name (i := 11) R.nd rfl (by first | exact .inl rfl | exact .inr rfl) (by decide)) (vb_cons (vs_asg (x_ix R (x_ix R (vx_var (pv 1)) vx_int) (vx_var (pv 11))) (vg_tup R.calm R.hK (vgs_cons (vg_name (i := 12) R.nd rfl (by first | exact .inl rfl | exact .inr rfl) (by decide)) (vgs_cons (vg_name (i := 13) R.nd rfl (by first | exact .inl rfl | exact .inr rfl) (by decide)) vgs_nil))))
    (vb_cons (vs_frz 8 (vs_setLc (i := 8) (own := [("thing", 20)]) (P := [0, 1, 2, 3, 4, 5, 6, 7, 8, 9, 10, 11, 12, 13, 14, 15, 16, 17, 18, 19, 21]) (n := 22) R.calm R.nd rfl rfl (by decide) rfl (vi_seq R.hK (x_ix R (vx_var (pv 18)) (vx_var (pv 12)))) (blk_ok rfl (by dsimp only [cxOf, Cx.nox, Cx.wish, Cx.blk, PyProof.Rows.envOfC, compEnvC]; first | decide +kernel | kernel_rfl)) (fun _ _ _ _ _ => (vg_name (i := 20) R.blk.nd rfl (by first | exact .inl rfl | exact .inr rfl) (by decide))) (fun _ _ _ _ _ => vts_nil) (fun _ _ _ _ _ => (x_ix R.blk (x_ixv R.blk (pv 14) (vx_var (pv 13))) (x_ix R.blk (x_ixv R.blk (pv 10) (vx_var (pv 11))) (vx_var (pv 20))))) (by decide)))
    (vb_one (vs_expr (x_append (pv 19) (va_cons (x_tuple R (va_cons (vx_of_vn (vn_lc (own := [("mark", 21)]) (P := [0, 1, 2, 3, 4, 5, 6, 7, 8, 9, 10, 11, 12, 13, 14, 15, 16, 17, 18, 19, 20]) (n := 22) R.calm R.nd (vi_seq R.hK (vx_var (pv 8))) (blk_ok rfl (by dsimp only [cxOf, Cx.nox, Cx.wish, Cx.blk, PyProof.Rows.envOfC, compEnvC]; first | decide +kernel | kernel_rfl)) (fun _ _ _ _ _ => (vg_name (i := 21) R.blk.nd rfl (by first | exact .inl rfl | exact .inr rfl) (by decide))) (fun _ _ _ _ _ => vts_nil) (fun _ _ _ _ _ => (x_index R.blk (x_ix R.blk (vx_var (pv 18)) (vx_var (pv 13))) (va_cons (vx_var (pv 21)) va_nil))) (by decide))) va_nil)) va_nil)))))))
    (vb_one (vs_ret (vn_of_vx (vx_tup (va_cons (x_tuple R (va_cons (vx_of_vn (vn_lc (own := [("row", 8)]) (P := [0, 1, 2, 3, 4, 5, 6, 7, 9, 10, 11, 12, 13, 14, 15, 16, 17, 18, 19, 20, 21]) (n := 22) R.calm R.nd (vi_seq R.hK (vx_var (pv 18))) (blk_ok rfl (by dsimp only [cxOf, Cx.nox, Cx.wish, Cx.blk, PyProof.Rows.envOfC, compEnvC]; first | decide +kernel | kernel_rfl)) (fun _ _ _ _ _ => (vg_name (i := 8) R.blk.nd rfl (by first | exact .inl rfl | exact .inr rfl) (by decide))) (fun _ _ _ _ _ => vts_nil) (fun _ _ _ _ _ => (x_len R.blk (va_cons (vx_var (pv 8)) va_nil))) (by decide))) va_nil)) (va_cons (x_tuple R (va_cons (vx_fz (pv 19)) va_nil)) va_nil)))))))))))))))
theorem ok__law_led (T : Fx G mg base) : FnOk P w G.K mg base CX0 1 T.d__law_led.fa T.d__law_led.fd ["world", "thing", "way"] (spF G 3 [] f__law_led) := fn_ok (N := ["world", "thing", "way"]) (pn := []) T.d__law_led.F ⟨rfl, rfl, rfl, by decide +kernel, rfl, by decide +kernel, by decide +kernel⟩ fun cdv A outer s H E hr => by
  have R : Rdy G (cxOf CX0 P w G.K mg base ["world", "thing", "way"] "_law_led" (defScope (top 24)) T.d__law_led.fa cdv A outer s H E).nox := rdy_of hr (by decide +kernel) T.bl
  exact (vb_one (vs_ret (vn_of_vx (vx_if (t_lt (vx_var (pv 2)) vx_int) (vx_var (pv 1)) (x_ix R (x_ix R (x_ix R (vx_var (pv 0)) vx_int) (vx_var (pv 2))) (vx_var (pv 1)))))))
theorem ok__law_known (T : Fx G mg base) : FnOk P w G.K mg base CX0 2 T.d__law_known.fa T.d__law_known.fd ["pat", "one", "other", "known", "kind", "thing", "end"] (spF G 7 [] f__law_known) := fn_ok (N := ["pat", "one", "other", "known", "kind", "thing", "end", "more", "row", "way", "far", "here", "there"]) (pn := []) T.d__law_known.F ⟨rfl, rfl, rfl, by decide +kernel, rfl, by decide +kernel, by decide +kernel⟩ fun cdv A outer s H E hr => by
  have R : Rdy G (cxOf CX0 P w G.K mg base ["pat", "one", "other", "known", "kind", "thing", "end", "more", "row", "way", "far", "here", "there"] "_law_known" (defScope (top 25)) T.d__law_known.fa cdv A outer s H E).nox := rdy_of hr (by decide +kernel) T.bl
  exact (vb_cons (vs_setLcO (i := 7) (own := [("row", 8)]) (P := [0, 1, 2, 3, 4, 5, 6, 7, 9, 10, 11, 12]) (n := 13) R.calm R.nd rfl rfl (by decide) rfl (vi_seq R.hK (vx_var (pv 3))) (blk_ok rfl (by dsimp only [cxOf, Cx.nox, Cx.wish, Cx.blk, PyProof.Rows.envOfC, compEnvC]; first | decide +kernel | kernel_rfl)) (fun _ _ _ _ _ => (vg_name (i := 8) R.blk.nd rfl (by first | exact .inl rfl | exact .inr rfl) (by decide))) (fun _ _ _ _ _ => vts_nil) (fun _ _ _ _ _ => (n_dict R.blk (va_cons (vx_var (pv 8)) va_nil))) (by decide))
    (vb_cons (vs_frz 7 (vs_for R.own R.calm (vi_seq R.hK (vx_of_vn (n_call T.d__law_ways (ok__law_ways T) fnF_hn R (hr.mono (by decide)) (va_cons (vx_var (pv 0)) (va_cons (vx_var (pv 4)) va_nil))))) (vg_name (i := 9) R.nd rfl (by first | exact .inl rfl | exact .inr rfl) (by decide)) (vb_cons (vs_set (i := 10) R.nd rfl (by first | exact .inl rfl | exact .inr rfl) (by decide) (vx_of_vn (n_call T.d__law_end (ok__law_end T) fnF_hn R (hr.mono (by decide)) (va_cons (vx_var (pv 0)) (va_cons (vx_var (pv 4)) (va_cons (vx_var (pv 9)) va_nil))))))
    (vb_cons (vs_set (i := 11) R.nd rfl (by first | exact .inl rfl | exact .inr rfl) (by decide) (vx_of_vn (n_call T.d__law_led (ok__law_led T) fnF_hn R (hr.mono (by decide)) (va_cons (vx_var (pv 1)) (va_cons (vx_var (pv 5)) (va_cons (vx_var (pv 9)) va_nil))))))
    (vb_cons (vs_set (i := 12) R.nd rfl (by first | exact .inl rfl | exact .inr rfl) (by decide) (vx_of_vn (n_call T.d__law_led (ok__law_led T) fnF_hn R (hr.mono (by decide)) (va_cons (vx_var (pv 2)) (va_cons (vx_var (pv 6)) (va_cons (vx_var (pv 9)) va_nil))))))
    (vb_cons (vs_if (t_ne R (vx_getAt R.u1 (pv 7) (vx_var (pv 10)) (by intro _ _; rfl) (vx_var (pv 11)) (vx_var (pv 12)) ⟨rfl, rfl, rfl, rfl⟩) (vx_var (pv 12))) (vb_one (vs_ret (vn_of_vx vx_non))) vb_nil)
    (vb_one (vs_setAt R.u1 (pv 7) (vx_var (pv 10)) (by intro _ _; rfl) (vx_var (pv 11)) (vx_var (pv 12))))))))))
    (vb_one (vs_ret (vn_move (pv 7))))))
theorem ok__law_some_map (T : Fx G mg base) : FnOk P w G.K mg base CX0 3 T.d__law_some_map.fa T.d__law_some_map.fd ["state", "pat", "one", "other"] (spF G 4 [0] f__law_some_map) := fn_ok (N := ["state", "pat", "one", "other", "known", "kind", "thing", "more", "turn", "k"]) (pn := [0]) T.d__law_some_map.F ⟨rfl, rfl, rfl, by decide +kernel, rfl, by decide +kernel, by decide +kernel⟩ fun cdv A outer s H E hr => by
  have R : Rdy G (cxOf CX0 P w G.K mg base ["state", "pat", "one", "other", "known", "kind", "thing", "more", "turn", "k"] "_law_some_map" (defScope (top 26)) T.d__law_some_map.fa cdv A outer s H E).nox := rdy_of hr (by decide +kernel) T.bl
  exact (vb_cons (vs_set (i := 4) R.nd rfl (by first | exact .inl rfl | exact .inr rfl) (by decide) (vx_of_vn (vn_lc (own := [("kind", 5)]) (P := [0, 1, 2, 3, 4, 6, 7, 8, 9]) (n := 10) R.calm R.nd (vi_range1 rfl R.bl.range (va_cons (x_ix R (vx_var (pv 1)) vx_int) va_nil)) (blk_ok rfl (by dsimp only [cxOf, Cx.nox, Cx.wish, Cx.blk, PyProof.Rows.envOfC, compEnvC]; first | decide +kernel | kernel_rfl)) (fun _ _ _ _ _ => (vg_name (i := 5) R.blk.nd rfl (by first | exact .inl rfl | exact .inr rfl) (by decide))) (fun _ _ _ _ _ => vts_nil) (fun _ _ _ _ _ => (vx_of_vn vn_dK0)) (by decide))))
    (vb_cons (vs_for R.own R.calm (vi_range1 rfl R.bl.range (va_cons (x_ix R (vx_var (pv 1)) vx_int) va_nil)) (vg_name (i := 5) R.nd rfl (by first | exact .inl rfl | exact .inr rfl) (by decide)) (vb_one (vs_for R.own R.calm (vi_range1 rfl R.bl.range (va_cons (x_ix R (x_ix R (vx_var (pv 2)) vx_int) (vx_var (pv 5))) va_nil)) (vg_name (i := 6) R.nd rfl (by first | exact .inl rfl | exact .inr rfl) (by decide)) (vb_one (vs_if (t_notin R (vx_var (pv 6)) (x_ix R (vx_var (pv 4)) (vx_var (pv 5)))) (vb_cons (vs_set (i := 7) R.nd rfl (by first | exact .inl rfl | exact .inr rfl) (by decide) vx_non)
    (vb_cons (vs_set (i := 8) R.nd rfl (by first | exact .inl rfl | exact .inr rfl) (by decide) (vx_of_vn (n_call1 (pl := 0) (i := 0) T.d__law_take (ok__law_take T) fnF_hn R (hr.mono (by decide)) (vm_own (pv 0) (va_cons (x_max R (va_cons vx_int (va_cons (x_ix R (x_ix R (vx_var (pv 3)) vx_int) (vx_var (pv 5))) va_nil))) va_nil)))))
    (vb_cons (vs_for R.own R.calm (vi_range1 rfl R.bl.range (va_cons (x_ix R (x_ix R (vx_var (pv 3)) vx_int) (vx_var (pv 5))) va_nil)) (vg_name (i := 9) R.nd rfl (by first | exact .inl rfl | exact .inr rfl) (by decide)) (vb_one (vs_if (t_is (vx_var (pv 7)) vx_non) (vb_one (vs_set (i := 7) R.nd rfl (by first | exact .inl rfl | exact .inr rfl) (by decide) (vx_of_vn (n_call T.d__law_known (ok__law_known T) fnF_hn R (hr.mono (by decide)) (va_cons (vx_var (pv 1)) (va_cons (vx_var (pv 2)) (va_cons (vx_var (pv 3)) (va_cons (vx_var (pv 4)) (va_cons (vx_var (pv 5)) (va_cons (vx_var (pv 6)) (va_cons (x_mod (x_add R (vx_var (pv 9)) (vx_var (pv 8))) (x_ix R (x_ix R (vx_var (pv 3)) vx_int) (vx_var (pv 5)))) va_nil))))))))))) vb_nil)))
    (vb_cons (vs_if (t_is (vx_var (pv 7)) vx_non) (vb_one (vs_ret (vn_of_vx vx_non))) vb_nil)
    (vb_one (vs_set (i := 4) R.nd rfl (by first | exact .inl rfl | exact .inr rfl) (by decide) (vx_var (pv 7)))))))) vb_nil)))))
    (vb_one (vs_ret (vn_of_vx (x_tuple R (va_cons (vx_of_vn (vn_lc (own := [("k", 9)]) (P := [0, 1, 2, 3, 4, 5, 6, 7, 8]) (n := 10) R.calm R.nd (vi_range1 rfl R.bl.range (va_cons (x_ix R (vx_var (pv 1)) vx_int) va_nil)) (blk_ok rfl (by dsimp only [cxOf, Cx.nox, Cx.wish, Cx.blk, PyProof.Rows.envOfC, compEnvC]; first | decide +kernel | kernel_rfl)) (fun _ _ _ _ _ => (vg_name (i := 9) R.blk.nd rfl (by first | exact .inl rfl | exact .inr rfl) (by decide))) (fun _ _ _ _ _ => vts_nil) (fun _ _ _ _ _ => (x_tupleZ R.blk (va_cons (vx_of_vn (vn_lc (own := [("thing", 6)]) (P := [0, 1, 2, 3, 4, 5, 7, 8, 9]) (n := 10) R.blk.calm R.blk.nd (vi_range1 rfl R.blk.bl.range (va_cons (x_ix R.blk (x_ix R.blk (vx_var (pv 2)) vx_int) (vx_var (pv 9))) va_nil)) (blk_ok rfl (by dsimp only [cxOf, Cx.nox, Cx.wish, Cx.blk, PyProof.Rows.envOfC, compEnvC]; first | decide +kernel | kernel_rfl)) (fun _ _ _ _ _ => (vg_name (i := 6) R.blk.blk.nd rfl (by first | exact .inl rfl | exact .inr rfl) (by decide))) (fun _ _ _ _ _ => vts_nil) (fun _ _ _ _ _ => (x_ix R.blk.blk (x_ix R.blk.blk (vx_var (pv 4)) (vx_var (pv 9))) (vx_var (pv 6)))) (by decide))) va_nil))) (by decide))) va_nil)))))))
theorem ok__law_orders (T : Fx G mg base) : FnOk P w G.K mg base CX0 2 T.d__law_orders.fa T.d__law_orders.fd ["state", "world"] (spF G 2 [0] f__law_orders) := fn_ok (N := ["state", "world", "found", "size", "left", "k"]) (pn := [0]) T.d__law_orders.F ⟨rfl, rfl, rfl, by decide +kernel, rfl, by decide +kernel, by decide +kernel⟩ fun cdv A outer s H E hr => by
  have R : Rdy G (cxOf CX0 P w G.K mg base ["state", "world", "found", "size", "left", "k"] "_law_orders" (defScope (top 28)) T.d__law_orders.fa cdv A outer s H E).nox := rdy_of hr (by decide +kernel) T.bl
  exact (vb_cons (vs_setN (i := 2) R.nd rfl (by first | exact .inl rfl | exact .inr rfl) (by decide) (vn_lst va_nil))
    (vb_cons (vs_for R.own R.calm (vi_seq R.hK (x_ix R (vx_var (pv 1)) vx_int)) (vg_name (i := 3) R.nd rfl (by first | exact .inl rfl | exact .inr rfl) (by decide)) (vb_cons (vs_setN (i := 4) R.nd rfl (by first | exact .inl rfl | exact .inr rfl) (by decide) (vn_listR1 R.calm rfl R.bl.list rfl R.bl.range (vx_var (pv 3))))
    (vb_one (vs_expr (x_append (pv 2) (va_cons (x_tupleZ R (va_cons (vx_of_vn (vn_lc (own := [("k", 5)]) (P := [0, 1, 2, 3, 4]) (n := 6) R.calm R.nd (vi_range1 rfl R.bl.range (va_cons (vx_var (pv 3)) va_nil)) (blk_ok rfl (by dsimp only [cxOf, Cx.nox, Cx.wish, Cx.blk, PyProof.Rows.envOfC, compEnvC]; first | decide +kernel | kernel_rfl)) (fun _ _ _ _ _ => (vg_name (i := 5) R.blk.nd rfl (by first | exact .inl rfl | exact .inr rfl) (by decide))) (fun _ _ _ _ _ => vts_nil) (fun _ _ _ _ _ => (x_pop (pv 4) (va_cons (vx_of_vn (n_call1 (pl := 0) (i := 0) T.d__law_take (ok__law_take T) fnF_hn R.blk (hr.mono (by decide)) (vm_own (pv 0) (va_cons (x_lenv R.blk (pv 4)) va_nil)))) va_nil))) (by decide))) va_nil)) va_nil))))))
    (vb_one (vs_ret (vn_of_vx (x_tuple R (va_cons (vx_fz (pv 2)) va_nil)))))))
theorem ok__law_turned (T : Fx G mg base) : FnOk P w G.K mg base CX0 1 T.d__law_turned.fa T.d__law_turned.fd ["pat", "world", "orders"] (spF G 3 [] f__law_turned) := fn_ok (N := ["pat", "world", "orders", "acts", "k", "one", "other", "row", "thing", "old"]) (pn := []) T.d__law_turned.F ⟨rfl, rfl, rfl, by decide +kernel, rfl, by decide +kernel, by decide +kernel⟩ fun cdv A outer s H E hr => by
  have R : Rdy G (cxOf CX0 P w G.K mg base ["pat", "world", "orders", "acts", "k", "one", "other", "row", "thing", "old"] "_law_turned" (defScope (top 29)) T.d__law_turned.fa cdv A outer s H E).nox := rdy_of hr (by decide +kernel) T.bl
  exact (vb_cons (vs_setN (i := 3) R.nd rfl (by first | exact .inl rfl | exact .inr rfl) (by decide) (vn_lst va_nil))
    (vb_cons (vs_for R.own R.calm (vi_range1 rfl R.bl.range (va_cons (x_len R (va_cons (x_ix R (vx_var (pv 0)) vx_int) va_nil)) va_nil)) (vg_name (i := 4) R.nd rfl (by first | exact .inl rfl | exact .inr rfl) (by decide)) (vb_cons (vs_asg (x_ix R (x_ix R (vx_var (pv 0)) vx_int) (vx_var (pv 4))) (vg_tup R.calm R.hK (vgs_cons (vg_name (i := 5) R.nd rfl (by first | exact .inl rfl | exact .inr rfl) (by decide)) (vgs_cons (vg_name (i := 6) R.nd rfl (by first | exact .inl rfl | exact .inr rfl) (by decide)) vgs_nil))))
    (vb_cons (vs_setN (i := 7) R.nd rfl (by first | exact .inl rfl | exact .inr rfl) (by decide) (vn_lst va_nil))
    (vb_cons (vs_for R.own R.calm (vi_range1 rfl R.bl.range (va_cons (x_ix R (x_ix R (vx_var (pv 1)) vx_int) (vx_var (pv 5))) va_nil)) (vg_name (i := 8) R.nd rfl (by first | exact .inl rfl | exact .inr rfl) (by decide)) (vb_cons (vs_set (i := 9) R.nd rfl (by first | exact .inl rfl | exact .inr rfl) (by decide) (x_indexZ (x_ix R (vx_var (pv 2)) (vx_var (pv 5))) (va_cons (vx_var (pv 8)) va_nil)))
    (vb_one (vs_expr (x_append (pv 7) (va_cons (x_ix R (x_ix R (vx_var (pv 2)) (vx_var (pv 6))) (x_ix R (x_ix R (x_ix R (vx_var (pv 1)) vx_int) (vx_var (pv 4))) (vx_var (pv 9)))) va_nil))))))
    (vb_one (vs_expr (x_append (pv 3) (va_cons (x_tuple R (va_cons (vx_fz (pv 7)) va_nil)) va_nil))))))))
    (vb_one (vs_ret (vn_of_vx (vx_tup (va_cons (x_ix R (vx_var (pv 1)) vx_int) (va_cons (x_tuple R (va_cons (vx_fz (pv 3)) va_nil)) va_nil))))))))
theorem ok_law (T : Fx G mg base) : FnOk P w G.K mg base CX0 7 T.d_law.fa T.d_law.fd ["script"] (spF G 1 [] f_law) := fn_ok (N := ["script", "state", "pat", "k", "one", "other", "some", "orders", "nought"]) (pn := []) T.d_law.F ⟨rfl, rfl, rfl, by decide +kernel, rfl, by decide +kernel, by decide +kernel⟩ fun cdv A outer s H E hr => by
  have R : Rdy G (cxOf CX0 P w G.K mg base ["script", "state", "pat", "k", "one", "other", "some", "orders", "nought"] "law" (defScope (top 31)) T.d_law.fa cdv A outer s H E).nox := rdy_of hr (by decide +kernel) T.bl
  exact (vb_cons (vs_setN (i := 1) R.nd rfl (by first | exact .inl rfl | exact .inr rfl) (by decide) (n_call T.d__law_state (ok__law_state T) fnF_hn R (hr.mono (by decide)) (va_cons (vx_var (pv 0)) (va_cons vx_int va_nil))))
    (vb_cons (vs_set (i := 2) R.nd rfl (by first | exact .inl rfl | exact .inr rfl) (by decide) (vx_of_vn (n_call1 (pl := 0) (i := 1) T.d__law_pattern (ok__law_pattern T) fnF_hn R (hr.mono (by decide)) (vm_own (pv 1) va_nil))))
    (vb_cons (vs_for R.own R.calm (vi_range1 rfl R.bl.range (va_cons vx_int va_nil)) (vg_name (i := 3) R.nd rfl (by first | exact .inl rfl | exact .inr rfl) (by decide)) (vb_cons (vs_set (i := 4) R.nd rfl (by first | exact .inl rfl | exact .inr rfl) (by decide) (vx_of_vn (n_call1 (pl := 0) (i := 1) T.d__law_world (ok__law_world T) fnF_hn R (hr.mono (by decide)) (vm_own (pv 1) (va_cons (vx_var (pv 2)) (va_cons vx_int va_nil))))))
    (vb_cons (vs_set (i := 5) R.nd rfl (by first | exact .inl rfl | exact .inr rfl) (by decide) (vx_of_vn (n_call1 (pl := 0) (i := 1) T.d__law_world (ok__law_world T) fnF_hn R (hr.mono (by decide)) (vm_own (pv 1) (va_cons (vx_var (pv 2)) (va_cons vx_int va_nil))))))
    (vb_cons (vs_set (i := 6) R.nd rfl (by first | exact .inl rfl | exact .inr rfl) (by decide) (vx_of_vn (n_call1 (pl := 0) (i := 1) T.d__law_some_map (ok__law_some_map T) fnF_hn R (hr.mono (by decide)) (vm_own (pv 1) (va_cons (vx_var (pv 2)) (va_cons (vx_var (pv 4)) (va_cons (vx_var (pv 5)) va_nil)))))))
    (vb_cons (vs_if (PW.pt (vw_and (t_isnot (vx_var (pv 6)) vx_non) (vw_and1 (vt_not (vt_val (vx_of_vn (n_call T.d__law_looked (ok__law_looked T) fnF_hn R (hr.mono (by decide)) (va_cons (vx_var (pv 4)) (va_cons (vx_var (pv 5)) (va_cons (vx_var (pv 6)) va_nil)))))))))) (vb_one (vs_ret (vn_of_vx vx_bl))) vb_nil)
    (vb_cons (vs_set (i := 7) R.nd rfl (by first | exact .inl rfl | exact .inr rfl) (by decide) (vx_of_vn (n_call1 (pl := 0) (i := 1) T.d__law_orders (ok__law_orders T) fnF_hn R (hr.mono (by decide)) (vm_own (pv 1) (va_cons (vx_var (pv 4)) va_nil)))))
    (vb_one (vs_if (vt_not (vt_val (vx_of_vn (n_call T.d__law_looked (ok__law_looked T) fnF_hn R (hr.mono (by decide)) (va_cons (vx_var (pv 4)) (va_cons (vx_of_vn (n_call T.d__law_turned (ok__law_turned T) fnF_hn R (hr.mono (by decide)) (va_cons (vx_var (pv 2)) (va_cons (vx_var (pv 4)) (va_cons (vx_var (pv 7)) va_nil))))) (va_cons (vx_var (pv 7)) va_nil))))))) (vb_one (vs_ret (vn_of_vx vx_bl))) vb_nil))))))))
    (vb_cons (vs_set (i := 8) R.nd rfl (by first | exact .inl rfl | exact .inr rfl) (by decide) (vx_tup (va_cons (x_mulT (vx_tup (va_cons vx_int va_nil)) (x_ix R (vx_var (pv 2)) vx_int)) (va_cons (x_mulT (vx_tup (va_cons (vx_tup va_nil) va_nil)) (x_len R (va_cons (x_ix R (vx_var (pv 2)) vx_int) va_nil))) va_nil))))
    (vb_one (vs_ret (n_call T.d__law_looked (ok__law_looked T) fnF_hn R (hr.mono (by decide)) (va_cons (vx_var (pv 8)) (va_cons (vx_var (pv 8)) (va_cons (x_mulT (vx_tup (va_cons (vx_tup va_nil) va_nil)) (x_ix R (vx_var (pv 2)) vx_int)) va_nil))))))))))
end
end VL
set_option Elab.async false
set_option linter.all false
set_option maxRecDepth 100000
set_option maxHeartbeats 8000000
namespace VL
open PySem PySem.Spec PyProof.Rows L2
theorem all_mk {l : PySem.W.OpenLaw} {w : World} {K : PySem.W.Frag} {h : Heap} {mg : Str → Option Value} {fa : Addr} {q : Program} (X : K.In h) (Gn : h.Ns mainGlobals mg) (hfa : mg "law" = some (.ref fa)) (TA : TabAll q mg h)
    {adr__law_cell_at : Addr} {od__law_cell_at an__law_cell_at : Option Addr} {sl__law_cell_at : Array (Option Value)} {oc__law_cell_at kV__law_cell_at dc__law_cell_at pm__law_cell_at cd__law_cell_at ct__law_cell_at : Value} {adr__law_state : Addr} {od__law_state an__law_state : Option Addr} {sl__law_state : Array (Option Value)} {oc__law_state kV__law_state dc__law_state pm__law_state cd__law_state ct__law_state : Value} {adr__law_take : Addr} {od__law_take an__law_take : Option Addr} {sl__law_take : Array (Option Value)} {oc__law_take kV__law_take dc__law_take pm__law_take cd__law_take ct__law_take : Value} {adr__law_begun : Addr} {od__law_begun an__law_begun : Option Addr} {sl__law_begun : Array (Option Value)} {oc__law_begun kV__law_begun dc__law_begun pm__law_begun cd__law_begun ct__law_begun : Value} {adr__law_closed : Addr} {od__law_closed an__law_closed : Option Addr} {sl__law_closed : Array (Option Value)} {oc__law_closed kV__law_closed dc__law_closed pm__law_closed cd__law_closed ct__law_closed : Value} {adr__law_pattern : Addr} {od__law_pattern an__law_pattern : Option Addr} {sl__law_pattern : Array (Option Value)} {oc__law_pattern kV__law_pattern dc__law_pattern pm__law_pattern cd__law_pattern ct__law_pattern : Value} {adr_is_apart : Addr} {od_is_apart an_is_apart : Option Addr} {sl_is_apart : Array (Option Value)} {oc_is_apart kV_is_apart dc_is_apart pm_is_apart cd_is_apart ct_is_apart : Value} {adr_is_onto : Addr} {od_is_onto an_is_onto : Option Addr} {sl_is_onto : Array (Option Value)} {oc_is_onto kV_is_onto dc_is_onto pm_is_onto cd_is_onto ct_is_onto : Value} {adr_turned_back : Addr} {od_turned_back an_turned_back : Option Addr} {sl_turned_back : Array (Option Value)} {oc_turned_back kV_turned_back dc_turned_back pm_turned_back cd_turned_back ct_turned_back : Value} {adr__law_refused : Addr} {od__law_refused an__law_refused : Option Addr} {sl__law_refused : Array (Option Value)} {oc__law_refused kV__law_refused dc__law_refused pm__law_refused cd__law_refused ct__law_refused : Value} {adr__law_looked : Addr} {od__law_looked an__law_looked : Option Addr} {sl__law_looked : Array (Option Value)} {oc__law_looked kV__law_looked dc__law_looked pm__law_looked cd__law_looked ct__law_looked : Value} {adr__law_merged : Addr} {od__law_merged an__law_merged : Option Addr} {sl__law_merged : Array (Option Value)} {oc__law_merged kV__law_merged dc__law_merged pm__law_merged cd__law_merged ct__law_merged : Value} {adr__law_end : Addr} {od__law_end an__law_end : Option Addr} {sl__law_end : Array (Option Value)} {oc__law_end kV__law_end dc__law_end pm__law_end cd__law_end ct__law_end : Value} {adr__law_ways : Addr} {od__law_ways an__law_ways : Option Addr} {sl__law_ways : Array (Option Value)} {oc__law_ways kV__law_ways dc__law_ways pm__law_ways cd__law_ways ct__law_ways : Value} {adr__law_behind : Addr} {od__law_behind an__law_behind : Option Addr} {sl__law_behind : Array (Option Value)} {oc__law_behind kV__law_behind dc__law_behind pm__law_behind cd__law_behind ct__law_behind : Value} {adr__law_world : Addr} {od__law_world an__law_world : Option Addr} {sl__law_world : Array (Option Value)} {oc__law_world kV__law_world dc__law_world pm__law_world cd__law_world ct__law_world : Value} {adr__law_led : Addr} {od__law_led an__law_led : Option Addr} {sl__law_led : Array (Option Value)} {oc__law_led kV__law_led dc__law_led pm__law_led cd__law_led ct__law_led : Value} {adr__law_known : Addr} {od__law_known an__law_known : Option Addr} {sl__law_known : Array (Option Value)} {oc__law_known kV__law_known dc__law_known pm__law_known cd__law_known ct__law_known : Value} {adr__law_some_map : Addr} {od__law_some_map an__law_some_map : Option Addr} {sl__law_some_map : Array (Option Value)} {oc__law_some_map kV__law_some_map dc__law_some_map pm__law_some_map cd__law_some_map ct__law_some_map : Value} {adr__law_orders : Addr} {od__law_orders an__law_orders : Option Addr} {sl__law_orders : Array (Option Value)} {oc__law_orders kV__law_orders dc__law_orders pm__law_orders cd__law_orders ct__law_orders : Value} {adr__law_turned : Addr} {od__law_turned an__law_turned : Option Addr} {sl__law_turned : Array (Option Value)} {oc__law_turned kV__law_turned dc__law_turned pm__law_turned cd__law_turned ct__law_turned : Value} {adr_law : Addr} {od_law an_law : Option Addr} {sl_law : Array (Option Value)} {oc_law kV_law dc_law pm_law cd_law ct_law : Value} {C_NoMap : Addr} {C_NoPattern : Addr} {C_TooMany : Addr} {C_NoSaying : Addr} {C_NoName : Addr} {C_BadNote : Addr} {C_MapError : Addr}
    (a__law_cell_at : PySem.W.nsIn K mainGlobals "_law_cell_at" = some (some (.ref adr__law_cell_at))) (l__law_cell_at : K.lookup adr__law_cell_at = some ⟨oc__law_cell_at, od__law_cell_at, .func (PySem.W.fnOf "_law_cell_at" "_law_cell_at" (defArgs (top 13)) (defBody (top 13)) (defScope (top 13)) .none kV__law_cell_at dc__law_cell_at pm__law_cell_at an__law_cell_at cd__law_cell_at ct__law_cell_at), sl__law_cell_at⟩) (c__law_cell_at : PySem.W.codeIn K cd__law_cell_at "_law_cell_at" = true) (k__law_cell_at : PySem.W.keepIn K (.ref adr__law_cell_at) = true) (a__law_state : PySem.W.nsIn K mainGlobals "_law_state" = some (some (.ref adr__law_state))) (l__law_state : K.lookup adr__law_state = some ⟨oc__law_state, od__law_state, .func (PySem.W.fnOf "_law_state" "_law_state" (defArgs (top 14)) (defBody (top 14)) (defScope (top 14)) .none kV__law_state dc__law_state pm__law_state an__law_state cd__law_state ct__law_state), sl__law_state⟩) (c__law_state : PySem.W.codeIn K cd__law_state "_law_state" = true) (k__law_state : PySem.W.keepIn K (.ref adr__law_state) = true) (a__law_take : PySem.W.nsIn K mainGlobals "_law_take" = some (some (.ref adr__law_take))) (l__law_take : K.lookup adr__law_take = some ⟨oc__law_take, od__law_take, .func (PySem.W.fnOf "_law_take" "_law_take" (defArgs (top 15)) (defBody (top 15)) (defScope (top 15)) .none kV__law_take dc__law_take pm__law_take an__law_take cd__law_take ct__law_take), sl__law_take⟩) (c__law_take : PySem.W.codeIn K cd__law_take "_law_take" = true) (k__law_take : PySem.W.keepIn K (.ref adr__law_take) = true) (a__law_begun : PySem.W.nsIn K mainGlobals "_law_begun" = some (some (.ref adr__law_begun))) (l__law_begun : K.lookup adr__law_begun = some ⟨oc__law_begun, od__law_begun, .func (PySem.W.fnOf "_law_begun" "_law_begun" (defArgs (top 16)) (defBody (top 16)) (defScope (top 16)) .none kV__law_begun dc__law_begun pm__law_begun an__law_begun cd__law_begun ct__law_begun), sl__law_begun⟩) (c__law_begun : PySem.W.codeIn K cd__law_begun "_law_begun" = true) (k__law_begun : PySem.W.keepIn K (.ref adr__law_begun) = true) (a__law_closed : PySem.W.nsIn K mainGlobals "_law_closed" = some (some (.ref adr__law_closed))) (l__law_closed : K.lookup adr__law_closed = some ⟨oc__law_closed, od__law_closed, .func (PySem.W.fnOf "_law_closed" "_law_closed" (defArgs (top 17)) (defBody (top 17)) (defScope (top 17)) .none kV__law_closed dc__law_closed pm__law_closed an__law_closed cd__law_closed ct__law_closed), sl__law_closed⟩) (c__law_closed : PySem.W.codeIn K cd__law_closed "_law_closed" = true) (k__law_closed : PySem.W.keepIn K (.ref adr__law_closed) = true) (a__law_pattern : PySem.W.nsIn K mainGlobals "_law_pattern" = some (some (.ref adr__law_pattern))) (l__law_pattern : K.lookup adr__law_pattern = some ⟨oc__law_pattern, od__law_pattern, .func (PySem.W.fnOf "_law_pattern" "_law_pattern" (defArgs (top 18)) (defBody (top 18)) (defScope (top 18)) .none kV__law_pattern dc__law_pattern pm__law_pattern an__law_pattern cd__law_pattern ct__law_pattern), sl__law_pattern⟩) (c__law_pattern : PySem.W.codeIn K cd__law_pattern "_law_pattern" = true) (k__law_pattern : PySem.W.keepIn K (.ref adr__law_pattern) = true) (a_is_apart : PySem.W.nsIn K mainGlobals "is_apart" = some (some (.ref adr_is_apart))) (l_is_apart : K.lookup adr_is_apart = some ⟨oc_is_apart, od_is_apart, .func (PySem.W.fnOf "is_apart" "is_apart" (defArgs (top 9)) (defBody (top 9)) (defScope (top 9)) .none kV_is_apart dc_is_apart pm_is_apart an_is_apart cd_is_apart ct_is_apart), sl_is_apart⟩) (c_is_apart : PySem.W.codeIn K cd_is_apart "is_apart" = true) (k_is_apart : PySem.W.keepIn K (.ref adr_is_apart) = true) (a_is_onto : PySem.W.nsIn K mainGlobals "is_onto" = some (some (.ref adr_is_onto))) (l_is_onto : K.lookup adr_is_onto = some ⟨oc_is_onto, od_is_onto, .func (PySem.W.fnOf "is_onto" "is_onto" (defArgs (top 10)) (defBody (top 10)) (defScope (top 10)) .none kV_is_onto dc_is_onto pm_is_onto an_is_onto cd_is_onto ct_is_onto), sl_is_onto⟩) (c_is_onto : PySem.W.codeIn K cd_is_onto "is_onto" = true) (k_is_onto : PySem.W.keepIn K (.ref adr_is_onto) = true) (a_turned_back : PySem.W.nsIn K mainGlobals "turned_back" = some (some (.ref adr_turned_back))) (l_turned_back : K.lookup adr_turned_back = some ⟨oc_turned_back, od_turned_back, .func (PySem.W.fnOf "turned_back" "turned_back" (defArgs (top 11)) (defBody (top 11)) (defScope (top 11)) .none kV_turned_back dc_turned_back pm_turned_back an_turned_back cd_turned_back ct_turned_back), sl_turned_back⟩) (c_turned_back : PySem.W.codeIn K cd_turned_back "turned_back" = true) (k_turned_back : PySem.W.keepIn K (.ref adr_turned_back) = true) (a__law_refused : PySem.W.nsIn K mainGlobals "_law_refused" = some (some (.ref adr__law_refused))) (l__law_refused : K.lookup adr__law_refused = some ⟨oc__law_refused, od__law_refused, .func (PySem.W.fnOf "_law_refused" "_law_refused" (defArgs (top 27)) (defBody (top 27)) (defScope (top 27)) .none kV__law_refused dc__law_refused pm__law_refused an__law_refused cd__law_refused ct__law_refused), sl__law_refused⟩) (c__law_refused : PySem.W.codeIn K cd__law_refused "_law_refused" = true) (k__law_refused : PySem.W.keepIn K (.ref adr__law_refused) = true) (a__law_looked : PySem.W.nsIn K mainGlobals "_law_looked" = some (some (.ref adr__law_looked))) (l__law_looked : K.lookup adr__law_looked = some ⟨oc__law_looked, od__law_looked, .func (PySem.W.fnOf "_law_looked" "_law_looked" (defArgs (top 30)) (defBody (top 30)) (defScope (top 30)) .none kV__law_looked dc__law_looked pm__law_looked an__law_looked cd__law_looked ct__law_looked), sl__law_looked⟩) (c__law_looked : PySem.W.codeIn K cd__law_looked "_law_looked" = true) (k__law_looked : PySem.W.keepIn K (.ref adr__law_looked) = true) (a__law_merged : PySem.W.nsIn K mainGlobals "_law_merged" = some (some (.ref adr__law_merged))) (l__law_merged : K.lookup adr__law_merged = some ⟨oc__law_merged, od__law_merged, .func (PySem.W.fnOf "_law_merged" "_law_merged" (defArgs (top 22)) (defBody (top 22)) (defScope (top 22)) .none kV__law_merged dc__law_merged pm__law_merged an__law_merged cd__law_merged ct__law_merged), sl__law_merged⟩) (c__law_merged : PySem.W.codeIn K cd__law_merged "_law_merged" = true) (k__law_merged : PySem.W.keepIn K (.ref adr__law_merged) = true) (a__law_end : PySem.W.nsIn K mainGlobals "_law_end" = some (some (.ref adr__law_end))) (l__law_end : K.lookup adr__law_end = some ⟨oc__law_end, od__law_end, .func (PySem.W.fnOf "_law_end" "_law_end" (defArgs (top 20)) (defBody (top 20)) (defScope (top 20)) .none kV__law_end dc__law_end pm__law_end an__law_end cd__law_end ct__law_end), sl__law_end⟩) (c__law_end : PySem.W.codeIn K cd__law_end "_law_end" = true) (k__law_end : PySem.W.keepIn K (.ref adr__law_end) = true) (a__law_ways : PySem.W.nsIn K mainGlobals "_law_ways" = some (some (.ref adr__law_ways))) (l__law_ways : K.lookup adr__law_ways = some ⟨oc__law_ways, od__law_ways, .func (PySem.W.fnOf "_law_ways" "_law_ways" (defArgs (top 19)) (defBody (top 19)) (defScope (top 19)) .none kV__law_ways dc__law_ways pm__law_ways an__law_ways cd__law_ways ct__law_ways), sl__law_ways⟩) (c__law_ways : PySem.W.codeIn K cd__law_ways "_law_ways" = true) (k__law_ways : PySem.W.keepIn K (.ref adr__law_ways) = true) (a__law_behind : PySem.W.nsIn K mainGlobals "_law_behind" = some (some (.ref adr__law_behind))) (l__law_behind : K.lookup adr__law_behind = some ⟨oc__law_behind, od__law_behind, .func (PySem.W.fnOf "_law_behind" "_law_behind" (defArgs (top 21)) (defBody (top 21)) (defScope (top 21)) .none kV__law_behind dc__law_behind pm__law_behind an__law_behind cd__law_behind ct__law_behind), sl__law_behind⟩) (c__law_behind : PySem.W.codeIn K cd__law_behind "_law_behind" = true) (k__law_behind : PySem.W.keepIn K (.ref adr__law_behind) = true) (a__law_world : PySem.W.nsIn K mainGlobals "_law_world" = some (some (.ref adr__law_world))) (l__law_world : K.lookup adr__law_world = some ⟨oc__law_world, od__law_world, .func (PySem.W.fnOf "_law_world" "_law_world" (defArgs (top 23)) (defBody (top 23)) (defScope (top 23)) .none kV__law_world dc__law_world pm__law_world an__law_world cd__law_world ct__law_world), sl__law_world⟩) (c__law_world : PySem.W.codeIn K cd__law_world "_law_world" = true) (k__law_world : PySem.W.keepIn K (.ref adr__law_world) = true) (a__law_led : PySem.W.nsIn K mainGlobals "_law_led" = some (some (.ref adr__law_led))) (l__law_led : K.lookup adr__law_led = some ⟨oc__law_led, od__law_led, .func (PySem.W.fnOf "_law_led" "_law_led" (defArgs (top 24)) (defBody (top 24)) (defScope (top 24)) .none kV__law_led dc__law_led pm__law_led an__law_led cd__law_led ct__law_led), sl__law_led⟩) (c__law_led : PySem.W.codeIn K cd__law_led "_law_led" = true) (k__law_led : PySem.W.keepIn K (.ref adr__law_led) = true) (a__law_known : PySem.W.nsIn K mainGlobals "_law_known" = some (some (.ref adr__law_known))) (l__law_known : K.lookup adr__law_known = some ⟨oc__law_known, od__law_known, .func (PySem.W.fnOf "_law_known" "_law_known" (defArgs (top 25)) (defBody (top 25)) (defScope (top 25)) .none kV__law_known dc__law_known pm__law_known an__law_known cd__law_known ct__law_known), sl__law_known⟩) (c__law_known : PySem.W.codeIn K cd__law_known "_law_known" = true) (k__law_known : PySem.W.keepIn K (.ref adr__law_known) = true) (a__law_some_map : PySem.W.nsIn K mainGlobals "_law_some_map" = some (some (.ref adr__law_some_map))) (l__law_some_map : K.lookup adr__law_some_map = some ⟨oc__law_some_map, od__law_some_map, .func (PySem.W.fnOf "_law_some_map" "_law_some_map" (defArgs (top 26)) (defBody (top 26)) (defScope (top 26)) .none kV__law_some_map dc__law_some_map pm__law_some_map an__law_some_map cd__law_some_map ct__law_some_map), sl__law_some_map⟩) (c__law_some_map : PySem.W.codeIn K cd__law_some_map "_law_some_map" = true) (k__law_some_map : PySem.W.keepIn K (.ref adr__law_some_map) = true) (a__law_orders : PySem.W.nsIn K mainGlobals "_law_orders" = some (some (.ref adr__law_orders))) (l__law_orders : K.lookup adr__law_orders = some ⟨oc__law_orders, od__law_orders, .func (PySem.W.fnOf "_law_orders" "_law_orders" (defArgs (top 28)) (defBody (top 28)) (defScope (top 28)) .none kV__law_orders dc__law_orders pm__law_orders an__law_orders cd__law_orders ct__law_orders), sl__law_orders⟩) (c__law_orders : PySem.W.codeIn K cd__law_orders "_law_orders" = true) (k__law_orders : PySem.W.keepIn K (.ref adr__law_orders) = true) (a__law_turned : PySem.W.nsIn K mainGlobals "_law_turned" = some (some (.ref adr__law_turned))) (l__law_turned : K.lookup adr__law_turned = some ⟨oc__law_turned, od__law_turned, .func (PySem.W.fnOf "_law_turned" "_law_turned" (defArgs (top 29)) (defBody (top 29)) (defScope (top 29)) .none kV__law_turned dc__law_turned pm__law_turned an__law_turned cd__law_turned ct__law_turned), sl__law_turned⟩) (c__law_turned : PySem.W.codeIn K cd__law_turned "_law_turned" = true) (k__law_turned : PySem.W.keepIn K (.ref adr__law_turned) = true) (a_law : PySem.W.nsIn K mainGlobals "law" = some (some (.ref adr_law))) (l_law : K.lookup adr_law = some ⟨oc_law, od_law, .func (PySem.W.fnOf "law" "law" (defArgs (top 31)) (defBody (top 31)) (defScope (top 31)) .none kV_law dc_law pm_law an_law cd_law ct_law), sl_law⟩) (c_law : PySem.W.codeIn K cd_law "law" = true) (k_law : PySem.W.keepIn K (.ref adr_law) = true) (aC_NoMap : PySem.W.nsIn K mainGlobals "NoMap" = some (some (.ref C_NoMap))) (xq_NoMap : PySem.W.excIn K C_NoMap [.type "ValueError", .type "Exception", .type "BaseException", .type "object"] "ValueError.__new__" = true) (xk_NoMap : PySem.W.keepIn K (.ref C_NoMap) = true) (xs_NoMap : PySem.W.subIn K (.ref C_NoMap) (.type "BaseException") = some true) (xt_NoMap : PySem.W.typeIn K (.ref C_NoMap) = some (.type "type")) (xg_NoMap : PySem.W.findIn K (.ref C_NoMap) "__getattribute__" = some (some (.builtin "BaseException.__getattribute__"))) (xh_NoMap : PySem.W.findIn K (.ref C_NoMap) "__getattr__" = some none) (xd_NoMap : PySem.W.hasDictIn K C_NoMap = true) (xl_NoMap : PySem.W.findIn K (.ref C_NoMap) "__class__" = some (some (.builtin "object.__class__"))) (xn_NoMap : PySem.W.specialIn K (.builtin "object.__class__") "__get__" = some (some (.builtin "getset_descriptor.__get__"))) (xtk_NoMap : PySem.W.takesIn K (.builtin "object.__class__") = some true) (xm_NoMap : PySem.W.mroIn K C_NoMap (.type "object") = some true) (aC_NoPattern : PySem.W.nsIn K mainGlobals "NoPattern" = some (some (.ref C_NoPattern))) (xq_NoPattern : PySem.W.excIn K C_NoPattern [.type "ValueError", .type "Exception", .type "BaseException", .type "object"] "ValueError.__new__" = true) (xk_NoPattern : PySem.W.keepIn K (.ref C_NoPattern) = true) (xs_NoPattern : PySem.W.subIn K (.ref C_NoPattern) (.type "BaseException") = some true) (xt_NoPattern : PySem.W.typeIn K (.ref C_NoPattern) = some (.type "type")) (aC_TooMany : PySem.W.nsIn K mainGlobals "TooMany" = some (some (.ref C_TooMany))) (xq_TooMany : PySem.W.excIn K C_TooMany [.type "ValueError", .type "Exception", .type "BaseException", .type "object"] "ValueError.__new__" = true) (xk_TooMany : PySem.W.keepIn K (.ref C_TooMany) = true) (xs_TooMany : PySem.W.subIn K (.ref C_TooMany) (.type "BaseException") = some true) (xt_TooMany : PySem.W.typeIn K (.ref C_TooMany) = some (.type "type")) (aC_NoSaying : PySem.W.nsIn K mainGlobals "NoSaying" = some (some (.ref C_NoSaying))) (xq_NoSaying : PySem.W.excIn K C_NoSaying [.type "ValueError", .type "Exception", .type "BaseException", .type "object"] "ValueError.__new__" = true) (xk_NoSaying : PySem.W.keepIn K (.ref C_NoSaying) = true) (xs_NoSaying : PySem.W.subIn K (.ref C_NoSaying) (.type "BaseException") = some true) (xt_NoSaying : PySem.W.typeIn K (.ref C_NoSaying) = some (.type "type")) (aC_NoName : PySem.W.nsIn K mainGlobals "NoName" = some (some (.ref C_NoName))) (xq_NoName : PySem.W.excIn K C_NoName [.type "ValueError", .type "Exception", .type "BaseException", .type "object"] "ValueError.__new__" = true) (xk_NoName : PySem.W.keepIn K (.ref C_NoName) = true) (xs_NoName : PySem.W.subIn K (.ref C_NoName) (.type "BaseException") = some true) (xt_NoName : PySem.W.typeIn K (.ref C_NoName) = some (.type "type")) (aC_BadNote : PySem.W.nsIn K mainGlobals "BadNote" = some (some (.ref C_BadNote))) (xq_BadNote : PySem.W.excIn K C_BadNote [.type "ValueError", .type "Exception", .type "BaseException", .type "object"] "ValueError.__new__" = true) (xk_BadNote : PySem.W.keepIn K (.ref C_BadNote) = true) (xs_BadNote : PySem.W.subIn K (.ref C_BadNote) (.type "BaseException") = some true) (xt_BadNote : PySem.W.typeIn K (.ref C_BadNote) = some (.type "type")) (aC_MapError : PySem.W.nsIn K mainGlobals "MapError" = some (some (.ref C_MapError))) (xq_MapError : PySem.W.excIn K C_MapError [.type "ValueError", .type "Exception", .type "BaseException", .type "object"] "ValueError.__new__" = true) (xk_MapError : PySem.W.keepIn K (.ref C_MapError) = true) (xs_MapError : PySem.W.subIn K (.ref C_MapError) (.type "BaseException") = some true) (xt_MapError : PySem.W.typeIn K (.ref C_MapError) = some (.type "type")) (z_ValueError : PySem.W.nsIn K mainGlobals "ValueError" = some none) (yxk_NoMap_NoPattern : PySem.W.kitOne K (.ref C_NoMap) (.ref C_NoPattern) = some false) (yxk_NoMap_NoMap : PySem.W.kitOne K (.ref C_NoMap) (.ref C_NoMap) = some true) (yxk_NoMap_TooMany : PySem.W.kitOne K (.ref C_NoMap) (.ref C_TooMany) = some false) (yxk_NoMap_NoSaying : PySem.W.kitOne K (.ref C_NoMap) (.ref C_NoSaying) = some false) (yxk_NoMap_NoName : PySem.W.kitOne K (.ref C_NoMap) (.ref C_NoName) = some false) (yxk_NoMap_BadNote : PySem.W.kitOne K (.ref C_NoMap) (.ref C_BadNote) = some false) (yxk_NoMap_ValueError : PySem.W.kitOne K (.ref C_NoMap) (.type "ValueError") = some true) (yxm_NoMap_MapError : PySem.W.exmOne K (.ref C_NoMap) (.ref C_MapError) = some true) (z_len : PySem.W.nsIn K mainGlobals "len" = some none) (z_range : PySem.W.nsIn K mainGlobals "range" = some none) (z_list : PySem.W.nsIn K mainGlobals "list" = some none) (z_tuple : PySem.W.nsIn K mainGlobals "tuple" = some none) (z_max : PySem.W.nsIn K mainGlobals "max" = some none) (z_min : PySem.W.nsIn K mainGlobals "min" = some none) (z_all : PySem.W.nsIn K mainGlobals "all" = some none) (z_any : PySem.W.nsIn K mainGlobals "any" = some none) (z_sum : PySem.W.nsIn K mainGlobals "sum" = some none) (z_sorted : PySem.W.nsIn K mainGlobals "sorted" = some none) (z_dict : PySem.W.nsIn K mainGlobals "dict" = some none) (z_isinstance : PySem.W.nsIn K mainGlobals "isinstance" = some none) (z_zip : PySem.W.nsIn K mainGlobals "zip" = some none) (z_enumerate : PySem.W.nsIn K mainGlobals "enumerate" = some none) (z_set : PySem.W.nsIn K mainGlobals "set" = some none) (z_str : PySem.W.nsIn K mainGlobals "str" = some none) (z_int : PySem.W.nsIn K mainGlobals "int" = some none) (z_bool : PySem.W.nsIn K mainGlobals "bool" = some none) (z_reversed : PySem.W.nsIn K mainGlobals "reversed" = some none)
    (rq : ((PyProof.Rows.recsOf q).any fun e => e.name == "_law_looked") = true) (tf : tabFree K cd__law_looked = true) : LamX.LawAtS l w K CX0 7 63 "script" mg fa h := by
  have e := hfa.symm.trans (PySem.W.mg_of X Gn a_law)
  cases e
  obtain ⟨lc__law_looked, lp__law_looked, le, lt, ln, lh⟩ := tab_of TA X rq (PySem.W.mg_of X Gn a__law_looked) l__law_looked ⟨_, c__law_looked⟩ tf
  have le' : cd__law_looked = .ref lc__law_looked := le
  subst le'
  refine ⟨PySem.W.fnOf "law" "law" (defArgs (top 31)) (defBody (top 31)) (defScope (top 31)) .none kV_law dc_law pm_law an_law cd_law ct_law, [(lc__law_looked, lp__law_looked)], spLawT K [(lc__law_looked, lp__law_looked)], ?_, ?_, ?_, fun s v => .of_eq rfl, fun H a ns hl _ hT hS => ⟨a, ns, rfl, hS, hl, hT, fun _ => rfl⟩, fun base _ _ TB => ?_⟩
  · intro p hp; rw [List.mem_singleton.mp hp]; exact lt
  · intro p hp; rw [List.mem_singleton.mp hp]; exact ln
  · intro p hp; rw [List.mem_singleton.mp hp]; exact lh
  · let T : Fx (⟨K, fun c => if c = ("NoMap" : Str) then C_NoMap else if c = ("NoPattern" : Str) then C_NoPattern else if c = ("TooMany" : Str) then C_TooMany else if c = ("NoSaying" : Str) then C_NoSaying else if c = ("NoName" : Str) then C_NoName else if c = ("BadNote" : Str) then C_BadNote else if c = ("MapError" : Str) then C_MapError else 0, [(lp__law_looked, lamName "_law_looked")]⟩ : Gx) mg base := { bl := ⟨PySem.W.mg_none_of X Gn z_len, PySem.W.mg_none_of X Gn z_range, PySem.W.mg_none_of X Gn z_list, PySem.W.mg_none_of X Gn z_tuple, PySem.W.mg_none_of X Gn z_max, PySem.W.mg_none_of X Gn z_min, PySem.W.mg_none_of X Gn z_all, PySem.W.mg_none_of X Gn z_any, PySem.W.mg_none_of X Gn z_sum, PySem.W.mg_none_of X Gn z_sorted, PySem.W.mg_none_of X Gn z_dict, PySem.W.mg_none_of X Gn z_isinstance, PySem.W.mg_none_of X Gn z_zip, PySem.W.mg_none_of X Gn z_enumerate, PySem.W.mg_none_of X Gn z_set, PySem.W.mg_none_of X Gn z_str, PySem.W.mg_none_of X Gn z_int, PySem.W.mg_none_of X Gn z_bool, PySem.W.mg_none_of X Gn z_reversed⟩, d__law_cell_at := ⟨_, _, (fun_mk (st := (top 13)) l__law_cell_at c__law_cell_at k__law_cell_at), PySem.W.mg_of X Gn a__law_cell_at, (fun_mk (st := (top 13)) l__law_cell_at c__law_cell_at k__law_cell_at).binds (ps := ["script", "k"]) fun _ _ _ _ _ _ us hl => match us, hl with | [_, _], _ => rfl⟩, d__law_state := ⟨_, _, (fun_mk (st := (top 14)) l__law_state c__law_state k__law_state), PySem.W.mg_of X Gn a__law_state, (fun_mk (st := (top 14)) l__law_state c__law_state k__law_state).binds (ps := ["script", "k"]) fun _ _ _ _ _ _ us hl => match us, hl with | [_, _], _ => rfl⟩, d__law_take := ⟨_, _, (fun_mk (st := (top 15)) l__law_take c__law_take k__law_take), PySem.W.mg_of X Gn a__law_take, (fun_mk (st := (top 15)) l__law_take c__law_take k__law_take).binds (ps := ["state", "many"]) fun _ _ _ _ _ _ us hl => match us, hl with | [_, _], _ => rfl⟩, d__law_begun := ⟨_, _, (fun_mk (st := (top 16)) l__law_begun c__law_begun k__law_begun), PySem.W.mg_of X Gn a__law_begun, (fun_mk (st := (top 16)) l__law_begun c__law_begun k__law_begun).binds (ps := ["state"]) fun _ _ _ _ _ _ us hl => match us, hl with | [_], _ => rfl⟩, d__law_closed := ⟨_, _, (fun_mk (st := (top 17)) l__law_closed c__law_closed k__law_closed), PySem.W.mg_of X Gn a__law_closed, (fun_mk (st := (top 17)) l__law_closed c__law_closed k__law_closed).binds (ps := ["begun"]) fun _ _ _ _ _ _ us hl => match us, hl with | [_], _ => rfl⟩, d__law_pattern := ⟨_, _, (fun_mk (st := (top 18)) l__law_pattern c__law_pattern k__law_pattern), PySem.W.mg_of X Gn a__law_pattern, (fun_mk (st := (top 18)) l__law_pattern c__law_pattern k__law_pattern).binds (ps := ["state"]) fun _ _ _ _ _ _ us hl => match us, hl with | [_], _ => rfl⟩, d_is_apart := ⟨_, _, (fun_mk (st := (top 9)) l_is_apart c_is_apart k_is_apart), PySem.W.mg_of X Gn a_is_apart, (fun_mk (st := (top 9)) l_is_apart c_is_apart k_is_apart).binds (ps := ["some"]) fun _ _ _ _ _ _ us hl => match us, hl with | [_], _ => rfl⟩, d_is_onto := ⟨_, _, (fun_mk (st := (top 10)) l_is_onto c_is_onto k_is_onto), PySem.W.mg_of X Gn a_is_onto, (fun_mk (st := (top 10)) l_is_onto c_is_onto k_is_onto).binds (ps := ["other", "some"]) fun _ _ _ _ _ _ us hl => match us, hl with | [_, _], _ => rfl⟩, d_turned_back := ⟨_, _, (fun_mk (st := (top 11)) l_turned_back c_turned_back k_turned_back), PySem.W.mg_of X Gn a_turned_back, (fun_mk (st := (top 11)) l_turned_back c_turned_back k_turned_back).binds (ps := ["other", "some"]) fun _ _ _ _ _ _ us hl => match us, hl with | [_, _], _ => rfl⟩, d__law_refused := ⟨_, _, (fun_mk (st := (top 27)) l__law_refused c__law_refused k__law_refused), PySem.W.mg_of X Gn a__law_refused, (fun_mk (st := (top 27)) l__law_refused c__law_refused k__law_refused).binds (ps := ["call"]) fun _ _ _ _ _ _ us hl => match us, hl with | [_], _ => rfl⟩, d__law_looked := ⟨_, _, (fun_mk (st := (top 30)) l__law_looked c__law_looked k__law_looked), PySem.W.mg_of X Gn a__law_looked, (fun_mk (st := (top 30)) l__law_looked c__law_looked k__law_looked).binds (ps := ["one", "other", "some"]) fun _ _ _ _ _ _ us hl => match us, hl with | [_, _, _], _ => rfl⟩, d__law_merged := ⟨_, _, (fun_mk (st := (top 22)) l__law_merged c__law_merged k__law_merged), PySem.W.mg_of X Gn a__law_merged, (fun_mk (st := (top 22)) l__law_merged c__law_merged k__law_merged).binds (ps := ["pat", "marks", "acts"]) fun _ _ _ _ _ _ us hl => match us, hl with | [_, _, _], _ => rfl⟩, d__law_end := ⟨_, _, (fun_mk (st := (top 20)) l__law_end c__law_end k__law_end), PySem.W.mg_of X Gn a__law_end, (fun_mk (st := (top 20)) l__law_end c__law_end k__law_end).binds (ps := ["pat", "kind", "way"]) fun _ _ _ _ _ _ us hl => match us, hl with | [_, _, _], _ => rfl⟩, d__law_ways := ⟨_, _, (fun_mk (st := (top 19)) l__law_ways c__law_ways k__law_ways), PySem.W.mg_of X Gn a__law_ways, (fun_mk (st := (top 19)) l__law_ways c__law_ways k__law_ways).binds (ps := ["pat", "kind"]) fun _ _ _ _ _ _ us hl => match us, hl with | [_, _], _ => rfl⟩, d__law_behind := ⟨_, _, (fun_mk (st := (top 21)) l__law_behind c__law_behind k__law_behind), PySem.W.mg_of X Gn a__law_behind, (fun_mk (st := (top 21)) l__law_behind c__law_behind k__law_behind).binds (ps := ["pat", "one", "other"]) fun _ _ _ _ _ _ us hl => match us, hl with | [_, _, _], _ => rfl⟩, d__law_world := ⟨_, _, (fun_mk (st := (top 23)) l__law_world c__law_world k__law_world), PySem.W.mg_of X Gn a__law_world, (fun_mk (st := (top 23)) l__law_world c__law_world k__law_world).binds (ps := ["state", "pat", "most"]) fun _ _ _ _ _ _ us hl => match us, hl with | [_, _, _], _ => rfl⟩, d__law_led := ⟨_, _, (fun_mk (st := (top 24)) l__law_led c__law_led k__law_led), PySem.W.mg_of X Gn a__law_led, (fun_mk (st := (top 24)) l__law_led c__law_led k__law_led).binds (ps := ["world", "thing", "way"]) fun _ _ _ _ _ _ us hl => match us, hl with | [_, _, _], _ => rfl⟩, d__law_known := ⟨_, _, (fun_mk (st := (top 25)) l__law_known c__law_known k__law_known), PySem.W.mg_of X Gn a__law_known, (fun_mk (st := (top 25)) l__law_known c__law_known k__law_known).binds (ps := ["pat", "one", "other", "known", "kind", "thing", "end"]) fun _ _ _ _ _ _ us hl => match us, hl with | [_, _, _, _, _, _, _], _ => rfl⟩, d__law_some_map := ⟨_, _, (fun_mk (st := (top 26)) l__law_some_map c__law_some_map k__law_some_map), PySem.W.mg_of X Gn a__law_some_map, (fun_mk (st := (top 26)) l__law_some_map c__law_some_map k__law_some_map).binds (ps := ["state", "pat", "one", "other"]) fun _ _ _ _ _ _ us hl => match us, hl with | [_, _, _, _], _ => rfl⟩, d__law_orders := ⟨_, _, (fun_mk (st := (top 28)) l__law_orders c__law_orders k__law_orders), PySem.W.mg_of X Gn a__law_orders, (fun_mk (st := (top 28)) l__law_orders c__law_orders k__law_orders).binds (ps := ["state", "world"]) fun _ _ _ _ _ _ us hl => match us, hl with | [_, _], _ => rfl⟩, d__law_turned := ⟨_, _, (fun_mk (st := (top 29)) l__law_turned c__law_turned k__law_turned), PySem.W.mg_of X Gn a__law_turned, (fun_mk (st := (top 29)) l__law_turned c__law_turned k__law_turned).binds (ps := ["pat", "world", "orders"]) fun _ _ _ _ _ _ us hl => match us, hl with | [_, _, _], _ => rfl⟩, d_law := ⟨_, _, (fun_mk (st := (top 31)) l_law c_law k_law), PySem.W.mg_of X Gn a_law, (fun_mk (st := (top 31)) l_law c_law k_law).binds (ps := ["script"]) fun _ _ _ _ _ _ us hl => match us, hl with | [_], _ => rfl⟩, x_NoMap := ⟨xq_NoMap, PySem.W.mg_of X Gn aC_NoMap, xk_NoMap, xs_NoMap, xt_NoMap⟩, xc_NoMap := ⟨xg_NoMap, xh_NoMap, xs_NoMap, xd_NoMap, xl_NoMap, xn_NoMap, xtk_NoMap, xm_NoMap⟩, x_NoPattern := ⟨xq_NoPattern, PySem.W.mg_of X Gn aC_NoPattern, xk_NoPattern, xs_NoPattern, xt_NoPattern⟩, x_TooMany := ⟨xq_TooMany, PySem.W.mg_of X Gn aC_TooMany, xk_TooMany, xs_TooMany, xt_TooMany⟩, x_NoSaying := ⟨xq_NoSaying, PySem.W.mg_of X Gn aC_NoSaying, xk_NoSaying, xs_NoSaying, xt_NoSaying⟩, x_NoName := ⟨xq_NoName, PySem.W.mg_of X Gn aC_NoName, xk_NoName, xs_NoName, xt_NoName⟩, x_BadNote := ⟨xq_BadNote, PySem.W.mg_of X Gn aC_BadNote, xk_BadNote, xs_BadNote, xt_BadNote⟩, x_MapError := ⟨xq_MapError, PySem.W.mg_of X Gn aC_MapError, xk_MapError, xs_MapError, xt_MapError⟩, bz_ValueError := PySem.W.mg_none_of X Gn z_ValueError, xk_NoMap_NoPattern := yxk_NoMap_NoPattern, xk_NoMap_NoMap := yxk_NoMap_NoMap, xk_NoMap_TooMany := yxk_NoMap_TooMany, xk_NoMap_NoSaying := yxk_NoMap_NoSaying, xk_NoMap_NoName := yxk_NoMap_NoName, xk_NoMap_BadNote := yxk_NoMap_BadNote, xk_NoMap_ValueError := yxk_NoMap_ValueError, xm_NoMap_MapError := yxm_NoMap_MapError, L__law_looked := ⟨lc__law_looked, lp__law_looked, ⟨_, _, _, _, _, _, _, _, rfl, l__law_looked, c__law_looked⟩, TB (lc__law_looked, lp__law_looked) (List.mem_singleton.mpr rfl), List.mem_singleton.mpr rfl, fun q' hq => (Prod.mk.inj (List.mem_singleton.mp hq)).2⟩ }
    exact (ok_law (P := l.prog) (w := w) (base := base) T).imp (spLawT_ok (G := (⟨K, fun c => if c = ("NoMap" : Str) then C_NoMap else if c = ("NoPattern" : Str) then C_NoPattern else if c = ("TooMany" : Str) then C_TooMany else if c = ("NoSaying" : Str) then C_NoSaying else if c = ("NoName" : Str) then C_NoName else if c = ("BadNote" : Str) then C_BadNote else if c = ("MapError" : Str) then C_MapError else 0, [(lp__law_looked, lamName "_law_looked")]⟩ : Gx)) (by intro p hp; exact ⟨_, List.mem_singleton.mpr rfl, (congrArg Prod.fst (List.mem_singleton.mp hp)).symm⟩) law_ok)
theorem walk {l : PySem.W.OpenLaw} {q : Program} {loose : List Str} {XP : (Str → Option Value) → Heap → Prop} {YP : World → Heap → Prop} {d : DefRec} {K : Params → PySem.W.Frag} (hn : l.most = some 63) (hdf : d.params.defaults = [])
    (hY : ∀ (w : World) (h : Heap), YP w h → (K w.params).In h)
    (F : ∀ (w : World) (mg : Str → Option Value) (fa : Addr) (h : Heap), (K w.params).In h → h.Ns mainGlobals mg → mg d.name = some (.ref fa) → TabAll q mg h → LamX.LawAtS l w (K w.params) CX0 7 63 "script" mg fa h) :
    PySem.W.WalkO q loose XP YP l.row.toRowW d [] (fun f vs => PySem.call f vs) :=
  walk_tab (n := 63) (k := 7) hn (by decide) hdf ⟨rfl, by decide, by decide⟩ hY F
end VL
open PySem PySem.W PyProof.Rows
set_option maxRecDepth 100000 in
set_option maxHeartbeats 0 in
theorem PySem.Challenge.cw_mapwright_k13_apart_onto_back_holds : PySem.Challenge.rw_mapwright_k13_apart_onto_back.Holds := by
  w_on; o_law; k_head; (case hw => w_witness2)
  k_fill
  refine VL.walk (l := PySem.Challenge.rw_mapwright_k13_apart_onto_back) rfl rfl (fun w h Y => by first | exact PySem.W.kIn_of Y | exact PySem.W.km_in_of Y) ?F
  case F =>
    intro w mg fa h KX G hmg TA
    refine' VL.all_mk KX G hmg TA ?a__law_cell_at ?l__law_cell_at ?c__law_cell_at ?k__law_cell_at ?a__law_state ?l__law_state ?c__law_state ?k__law_state ?a__law_take ?l__law_take ?c__law_take ?k__law_take ?a__law_begun ?l__law_begun ?c__law_begun ?k__law_begun ?a__law_closed ?l__law_closed ?c__law_closed ?k__law_closed ?a__law_pattern ?l__law_pattern ?c__law_pattern ?k__law_pattern ?a_is_apart ?l_is_apart ?c_is_apart ?k_is_apart ?a_is_onto ?l_is_onto ?c_is_onto ?k_is_onto ?a_turned_back ?l_turned_back ?c_turned_back ?k_turned_back ?a__law_refused ?l__law_refused ?c__law_refused ?k__law_refused ?a__law_looked ?l__law_looked ?c__law_looked ?k__law_looked ?a__law_merged ?l__law_merged ?c__law_merged ?k__law_merged ?a__law_end ?l__law_end ?c__law_end ?k__law_end ?a__law_ways ?l__law_ways ?c__law_ways ?k__law_ways ?a__law_behind ?l__law_behind ?c__law_behind ?k__law_behind ?a__law_world ?l__law_world ?c__law_world ?k__law_world ?a__law_led ?l__law_led ?c__law_led ?k__law_led ?a__law_known ?l__law_known ?c__law_known ?k__law_known ?a__law_some_map ?l__law_some_map ?c__law_some_map ?k__law_some_map ?a__law_orders ?l__law_orders ?c__law_orders ?k__law_orders ?a__law_turned ?l__law_turned ?c__law_turned ?k__law_turned ?a_law ?l_law ?c_law ?k_law ?aC_NoMap ?xq_NoMap ?xk_NoMap ?xs_NoMap ?xt_NoMap ?xg_NoMap ?xh_NoMap ?xd_NoMap ?xl_NoMap ?xn_NoMap ?xtk_NoMap ?xm_NoMap ?aC_NoPattern ?xq_NoPattern ?xk_NoPattern ?xs_NoPattern ?xt_NoPattern ?aC_TooMany ?xq_TooMany ?xk_TooMany ?xs_TooMany ?xt_TooMany ?aC_NoSaying ?xq_NoSaying ?xk_NoSaying ?xs_NoSaying ?xt_NoSaying ?aC_NoName ?xq_NoName ?xk_NoName ?xs_NoName ?xt_NoName ?aC_BadNote ?xq_BadNote ?xk_BadNote ?xs_BadNote ?xt_BadNote ?aC_MapError ?xq_MapError ?xk_MapError ?xs_MapError ?xt_MapError ?z_ValueError ?yxk_NoMap_NoPattern ?yxk_NoMap_NoMap ?yxk_NoMap_TooMany ?yxk_NoMap_NoSaying ?yxk_NoMap_NoName ?yxk_NoMap_BadNote ?yxk_NoMap_ValueError ?yxm_NoMap_MapError ?z_len ?z_range ?z_list ?z_tuple ?z_max ?z_min ?z_all ?z_any ?z_sum ?z_sorted ?z_dict ?z_isinstance ?z_zip ?z_enumerate ?z_set ?z_str ?z_int ?z_bool ?z_reversed ?rq ?tf
    (case a__law_cell_at => k_is)
    (case l__law_cell_at => k_is)
    (case c__law_cell_at => k_is)
    (case k__law_cell_at => k_is)
    (case a__law_state => k_is)
    (case l__law_state => k_is)
    (case c__law_state => k_is)
    (case k__law_state => k_is)
    (case a__law_take => k_is)
    (case l__law_take => k_is)
    (case c__law_take => k_is)
    (case k__law_take => k_is)
    (case a__law_begun => k_is)
    (case l__law_begun => k_is)
    (case c__law_begun => k_is)
    (case k__law_begun => k_is)
    (case a__law_closed => k_is)
    (case l__law_closed => k_is)
    (case c__law_closed => k_is)
    (case k__law_closed => k_is)
    (case a__law_pattern => k_is)
    (case l__law_pattern => k_is)
    (case c__law_pattern => k_is)
    (case k__law_pattern => k_is)
    (case a_is_apart => k_is)
    (case l_is_apart => k_is)
    (case c_is_apart => k_is)
    (case k_is_apart => k_is)
    (case a_is_onto => k_is)
    (case l_is_onto => k_is)
    (case c_is_onto => k_is)
    (case k_is_onto => k_is)
    (case a_turned_back => k_is)
    (case l_turned_back => k_is)
    (case c_turned_back => k_is)
    (case k_turned_back => k_is)
    (case a__law_refused => k_is)
    (case l__law_refused => k_is)
    (case c__law_refused => k_is)
    (case k__law_refused => k_is)
    (case a__law_looked => k_is)
    (case l__law_looked => k_is)
    (case c__law_looked => k_is)
    (case k__law_looked => k_is)
    (case a__law_merged => k_is)
    (case l__law_merged => k_is)
    (case c__law_merged => k_is)
    (case k__law_merged => k_is)
    (case a__law_end => k_is)
    (case l__law_end => k_is)
    (case c__law_end => k_is)
    (case k__law_end => k_is)
    (case a__law_ways => k_is)
    (case l__law_ways => k_is)
    (case c__law_ways => k_is)
    (case k__law_ways => k_is)
    (case a__law_behind => k_is)
    (case l__law_behind => k_is)
    (case c__law_behind => k_is)
    (case k__law_behind => k_is)
    (case a__law_world => k_is)
    (case l__law_world => k_is)
    (case c__law_world => k_is)
    (case k__law_world => k_is)
    (case a__law_led => k_is)
    (case l__law_led => k_is)
    (case c__law_led => k_is)
    (case k__law_led => k_is)
    (case a__law_known => k_is)
    (case l__law_known => k_is)
    (case c__law_known => k_is)
    (case k__law_known => k_is)
    (case a__law_some_map => k_is)
    (case l__law_some_map => k_is)
    (case c__law_some_map => k_is)
    (case k__law_some_map => k_is)
    (case a__law_orders => k_is)
    (case l__law_orders => k_is)
    (case c__law_orders => k_is)
    (case k__law_orders => k_is)
    (case a__law_turned => k_is)
    (case l__law_turned => k_is)
    (case c__law_turned => k_is)
    (case k__law_turned => k_is)
    (case a_law => k_is)
    (case l_law => k_is)
    (case c_law => k_is)
    (case k_law => k_is)
    (case aC_NoMap => k_is)
    (case xq_NoMap => k_exc)
    (case xk_NoMap => k_is)
    (case xs_NoMap => k_is)
    (case xt_NoMap => k_is)
    (case xg_NoMap => k_is)
    (case xh_NoMap => k_is)
    (case xd_NoMap => k_is)
    (case xl_NoMap => k_is)
    (case xn_NoMap => k_is)
    (case xtk_NoMap => k_is)
    (case xm_NoMap => k_is)
    (case aC_NoPattern => k_is)
    (case xq_NoPattern => k_exc)
    (case xk_NoPattern => k_is)
    (case xs_NoPattern => k_is)
    (case xt_NoPattern => k_is)
    (case aC_TooMany => k_is)
    (case xq_TooMany => k_exc)
    (case xk_TooMany => k_is)
    (case xs_TooMany => k_is)
    (case xt_TooMany => k_is)
    (case aC_NoSaying => k_is)
    (case xq_NoSaying => k_exc)
    (case xk_NoSaying => k_is)
    (case xs_NoSaying => k_is)
    (case xt_NoSaying => k_is)
    (case aC_NoName => k_is)
    (case xq_NoName => k_exc)
    (case xk_NoName => k_is)
    (case xs_NoName => k_is)
    (case xt_NoName => k_is)
    (case aC_BadNote => k_is)
    (case xq_BadNote => k_exc)
    (case xk_BadNote => k_is)
    (case xs_BadNote => k_is)
    (case xt_BadNote => k_is)
    (case aC_MapError => k_is)
    (case xq_MapError => k_exc)
    (case xk_MapError => k_is)
    (case xs_MapError => k_is)
    (case xt_MapError => k_is)
    (case z_ValueError => k_is)
    (case yxk_NoMap_NoPattern => kit_is)
    (case yxk_NoMap_NoMap => kit_is)
    (case yxk_NoMap_TooMany => kit_is)
    (case yxk_NoMap_NoSaying => kit_is)
    (case yxk_NoMap_NoName => kit_is)
    (case yxk_NoMap_BadNote => kit_is)
    (case yxk_NoMap_ValueError => kit_is)
    (case yxm_NoMap_MapError => kts_exm)
    (case z_len => k_is)
    (case z_range => k_is)
    (case z_list => k_is)
    (case z_tuple => k_is)
    (case z_max => k_is)
    (case z_min => k_is)
    (case z_all => k_is)
    (case z_any => k_is)
    (case z_sum => k_is)
    (case z_sorted => k_is)
    (case z_dict => k_is)
    (case z_isinstance => k_is)
    (case z_zip => k_is)
    (case z_enumerate => k_is)
    (case z_set => k_is)
    (case z_str => k_is)
    (case z_int => k_is)
    (case z_bool => k_is)
    (case z_reversed => k_is)
    (case rq => first | rfl | decide +kernel)
    (case tf => first | rfl | kernel_rfl | decide +kernel)
#print axioms PySem.Challenge.cw_mapwright_k13_apart_onto_back_holds
