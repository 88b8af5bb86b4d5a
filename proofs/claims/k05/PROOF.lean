import PyProof.Rows.All
import Wide.All
import OpenK.AllK
import Wide.FinOn
import HandS.ForMost
import HandS.Wide
import HandS.IsInst
import HandS.Deep
import HandS.EndBits
import KE.KDictKeyed
import HandS.Lambda
import HandS.Style
import HandS.Defaults
import HandS.Flow
import KE.DataMinMax
import KE.DataCmp
import KE.SortData
import KE.KDictPairs
import PyProof.ConsumeS
import PyProof.SeqWrite
import PyProof.SumAny
import HandS.SortOrd
import KE.LtData
import KE.LtSeq
import KE.KSortTup
import PyProof.TupleOfSeq
import KE.KDictSum
import KE.KDictCopyH
import HandS.Keys
import HandS.Iter
import KE.KDictZip
import HandS.More
import HandS.Exc
import HandS.ExcInit
import HandS.ExcField
import HandS.ExcIs
import HandS.ExcOwn
import HandS.CallSlots
import HandS.WordsExc
import HandS.ClsMeth
import HandS.HeadHook1
import HandS.HeadHook4
import KE.KExcIs
import HandS.TryMany
import KE.KEqDict
import HandS.SetBool
import HandS.TupSets
import KE.SortKeyHeap
import KE.KSortKey
import PyProof.Rows.CallKwBuiltin
import HandS.DictComp
import HandS.EndTab
import HandS.NestedK
import HandS.ListItems
import KE.KEqNest
import KE.GoesMore
import PyProof.EnumMake
import PyProof.Draws
import PyProof.NeKinds
import KE.KDictDisplayH
import KE.KDictItemsList
import KE.KExcInit
import HandS.SortKw
import PyProof.P3Eq
import PyProof.StrOps2
import KE.KStateDown
import HandS.Head0
import HandS.Head1
import HandS.Head2
import HandS.HeadEnd
import HandS.HeadHook2
import KE.KRevSl
import PySem.Challenge.RW_dotmoor_k05_strokes_refused
set_option Elab.async false
set_option linter.all false
set_option maxRecDepth 100000
set_option maxHeartbeats 4000000
/-! Data over the hand layer: what a def does, told of plain data (no heap). -/
namespace DV
open PySem PySem.Spec PyProof.Rows L2

abbrev St := L2.St
/-- plain data; bag: the law's own draws; scr: the law's script -/
inductive D where
  | non | bl (b : Bool) | int (i : Int) | str (x : Str)
  | tup (xs : List D) | lst (xs : List D) | dic (kvs : List (D × D)) | bag | scr

def Mark : HO := .tbl #[]
def Mark2 : HO := .tbl #[.none]
/-- a list of ints of which nothing more is told -/
def Scp (H : Hp) (a : Addr) : Prop := ∃ ns : List Int, H a = some (.lst (ns.map V.int)) ∧ ns.length ≤ 1000
/-- the bag at b: the script's copy stands in F, marked -/
def Bag (F H : Hp) (b : Addr) : Prop := ∃ (a : Addr) (p : Nat) (big salt : Int), F a = some Mark2 ∧ H b = some (.lst [.ref a, .int p, .int big, .int salt])
/-- a table of code objects of the name q -/
def Mark3 (q : Str) : HO := .tbl #[.none, .str q 0]
def nameV : Option Value → Str
  | some (Value.str q _) => q
  | _ => ""
def nameQ (ps : Array Value) : Str := nameV ps[1]?
def TabQ (F H : Hp) (a : Addr) (q : Str) : Prop := ∃ ps : Array Value, H a = some (.tbl ps) ∧ TriplesOk ps.toList ∧ ∀ (pos : Pos) (cv : Value), codeAmong pos ps.toList = some cv → ∃ c, cv = .ref c ∧ F c = some (LamX.CodeO c q)
def Stands (F H : Hp) (a : Addr) : HO → Prop
  | .tbl ps => if ps.size = 0 then Bag F H a else if ps.size = 1 then Scp H a else TabQ F H a (nameQ ps)
  | o => H a = some o
/-- what is frozen stands in the heap -/
def Sub (F H : Hp) : Prop := ∀ a o, F a = some o → Stands F H a o
theorem Stands.bag {F H : Hp} {a : Addr} (h : Stands F H a Mark) : Bag F H a := by
  have h' : (if (#[] : Array Value).size = 0 then Bag F H a else if (#[] : Array Value).size = 1 then Scp H a else TabQ F H a (nameQ #[])) := h
  rwa [if_pos (show (#[] : Array Value).size = 0 from rfl)] at h'
theorem Stands.scp {F H : Hp} {a : Addr} (h : Stands F H a Mark2) : Scp H a := by
  have h' : (if (#[Value.none] : Array Value).size = 0 then Bag F H a else if (#[Value.none] : Array Value).size = 1 then Scp H a else TabQ F H a (nameQ #[Value.none])) := h
  rwa [if_neg (by decide), if_pos (by decide)] at h'
theorem Stands.tabQ {F H : Hp} {a : Addr} {q : Str} (h : Stands F H a (Mark3 q)) : TabQ F H a q := by
  have h' : (if (#[Value.none, .str q 0] : Array Value).size = 0 then Bag F H a else if (#[Value.none, .str q 0] : Array Value).size = 1 then Scp H a else TabQ F H a (nameQ #[Value.none, .str q 0])) := h
  rw [if_neg (show ¬(#[Value.none, Value.str q 0] : Array Value).size = 0 from (show ¬(2 : Nat) = 0 by decide)), if_neg (show ¬(#[Value.none, Value.str q 0] : Array Value).size = 1 from (show ¬(2 : Nat) = 1 by decide))] at h'
  exact h'
theorem Stands.ofBag {F H : Hp} {a : Addr} (h : Bag F H a) : Stands F H a Mark := by
  show (if (#[] : Array Value).size = 0 then Bag F H a else if (#[] : Array Value).size = 1 then Scp H a else TabQ F H a (nameQ #[]))
  rwa [if_pos (show (#[] : Array Value).size = 0 from rfl)]
theorem Stands.ofScp {F H : Hp} {a : Addr} (h : Scp H a) : Stands F H a Mark2 := by
  show (if (#[Value.none] : Array Value).size = 0 then Bag F H a else if (#[Value.none] : Array Value).size = 1 then Scp H a else TabQ F H a (nameQ #[Value.none]))
  rwa [if_neg (by decide), if_pos (by decide)]
theorem Stands.ofTabQ {F H : Hp} {a : Addr} {q : Str} (h : TabQ F H a q) : Stands F H a (Mark3 q) := by
  show (if (#[Value.none, .str q 0] : Array Value).size = 0 then Bag F H a else if (#[Value.none, .str q 0] : Array Value).size = 1 then Scp H a else TabQ F H a (nameQ #[Value.none, .str q 0]))
  rw [if_neg (show ¬(#[Value.none, Value.str q 0] : Array Value).size = 0 from (show ¬(2 : Nat) = 0 by decide)), if_neg (show ¬(#[Value.none, Value.str q 0] : Array Value).size = 1 from (show ¬(2 : Nat) = 1 by decide))]
  exact h
theorem Stands.there {F H : Hp} {a : Addr} {o : HO} (h : Stands F H a o) : ∃ u, H a = some u := by
  cases o with
  | tbl ps =>
    have h' : (if ps.size = 0 then Bag F H a else if ps.size = 1 then Scp H a else TabQ F H a (nameQ ps)) := h
    split at h'
    · obtain ⟨_, _, _, _, _, e⟩ := h'
      exact ⟨_, e⟩
    · split at h'
      · obtain ⟨_, e, _⟩ := h'
        exact ⟨_, e⟩
      · obtain ⟨_, e, _⟩ := h'
        exact ⟨_, e⟩
  | _ => exact ⟨_, h⟩
theorem Sub.none {F H : Hp} (s : Sub F H) {p : Addr} (h : H p = none) : F p = none := by
  cases e : F p with
  | none => rfl
  | some o =>
    obtain ⟨u, q⟩ := (s p o e).there
    rw [h] at q; cases q
/-- marks and code objects -/
def Lasting (b : Addr) (o : HO) : Prop := o = Mark2 ∨ ∃ q, o = LamX.CodeO b q
/-- the marks of the one stand in the other -/
theorem Stands.monoM {F F' H H' : Hp} {a : Addr} {o : HO} (h : Stands F H a o) (m : ∀ b o, Lasting b o → F b = some o → F' b = some o) (k : ∀ u, H a = some u → H' a = some u) : Stands F' H' a o := by
  cases o with
  | tbl ps =>
    have h' : (if ps.size = 0 then Bag F H a else if ps.size = 1 then Scp H a else TabQ F H a (nameQ ps)) := h
    show (if ps.size = 0 then Bag F' H' a else if ps.size = 1 then Scp H' a else TabQ F' H' a (nameQ ps))
    split at h'
    · rename_i z
      rw [if_pos z]
      obtain ⟨c, p, big, salt, e, e2⟩ := h'
      exact ⟨c, p, big, salt, m _ _ (.inl rfl) e, k _ e2⟩
    · rename_i z
      rw [if_neg z]
      split at h'
      · rename_i z
        rw [if_pos z]
        obtain ⟨ns, e, l⟩ := h'
        exact ⟨ns, k _ e, l⟩
      · rename_i z
        rw [if_neg z]
        obtain ⟨ps', e, t, h3⟩ := h'
        refine ⟨ps', k _ e, t, fun pos cv hc => ?_⟩
        obtain ⟨c, e1, e2⟩ := h3 pos cv hc
        exact ⟨c, e1, m _ _ (.inr ⟨_, rfl⟩) e2⟩
  | _ => exact k _ h
theorem Stands.mono {F F' H H' : Hp} {a : Addr} {o : HO} (h : Stands F H a o) (m : Same F F') (k : ∀ u, H a = some u → H' a = some u) : Stands F' H' a o := h.monoM (fun b o _ e => m b o e) k
theorem Sub.lst {F H : Hp} (s : Sub F H) {a : Addr} {xs : List V} (h : F a = some (.lst xs)) : H a = some (.lst xs) := s a _ h
theorem Sub.tup {F H : Hp} (s : Sub F H) {a : Addr} {xs : List V} (h : F a = some (.tup xs)) : H a = some (.tup xs) := s a _ h
theorem Sub.frz {F H : Hp} (s : Sub F H) {a : Addr} {o : Obj} {u : HO} (h : F a = some (.frz o u)) : H a = some (.frz o u) := s a _ h
theorem Sub.seqT {K : PySem.W.Frag} {F H : Hp} (s : Sub F H) {a : Addr} {xs : List V} (h : SqT K F a xs) : SqT K H a xs := by
  rcases h with (h | ⟨o, h⟩) | h
  · exact .inl (.inl (s.tup h))
  · exact .inl (.inr ⟨o, s.frz h⟩)
  · exact .inr h
theorem Sub.seqL {K : PySem.W.Frag} {F H : Hp} (s : Sub F H) {a : Addr} {xs : List V} (h : SqL K F a xs) : SqL K H a xs := by
  rcases h with (h | ⟨o, h⟩) | h
  · exact .inl (.inl (s.lst h))
  · exact .inl (.inr ⟨o, s.frz h⟩)
  · exact .inr h
structure Ext (F H F' H' : Hp) : Prop where
  mono : Same F F'
  keep : ∀ a o, F a = none → H a = some o → H' a = some o ∧ F' a = none
  sub : Sub F' H'
theorem Ext.refl {F H : Hp} (s : Sub F H) : Ext F H F H := ⟨Same.refl F, fun _ _ h e => ⟨e, h⟩, s⟩
theorem Ext.trans {F H F1 H1 F2 H2 : Hp} (a : Ext F H F1 H1) (b : Ext F1 H1 F2 H2) : Ext F H F2 H2 :=
  ⟨a.mono.trans b.mono, fun c o h e => let ⟨e1, h1⟩ := a.keep c o h e; b.keep c o h1 e1, b.sub⟩
/-- a new frozen object -/
theorem Ext.new {F H : Hp} (s : Sub F H) {p : Addr} {o : HO} (h : H p = none) (ho : ∀ ps, o ≠ .tbl ps) : Ext F H (upd F p o) (upd H p o) := by
  have hF := s.none h
  refine ⟨fun b x e => by rw [upd_ne (ne_of_none e hF)]; exact e, fun a x e q => ?_, fun b x e => ?_⟩
  · have : a ≠ p := ne_of_none q h
    rw [upd_ne this, upd_ne this]; exact ⟨q, e⟩
  · by_cases hb : b = p
    · subst hb
      rw [upd_same] at e; cases e
      cases o with
      | tbl ps => exact absurd rfl (ho ps)
      | _ => exact upd_same
    · rw [upd_ne hb] at e
      exact (s b x e).mono (fun c y q => by rw [upd_ne (ne_of_none q hF)]; exact q) fun u q => by rw [upd_ne hb]; exact q
theorem Ext.newL {F H : Hp} (s : Sub F H) {p : Addr} {xs : List V} (h : H p = none) : Ext F H (upd F p (.lst xs)) (upd H p (.lst xs)) := .new s h (fun _ z => nomatch z)
theorem Ext.newT {F H : Hp} (s : Sub F H) {p : Addr} {xs : List V} (h : H p = none) : Ext F H (upd F p (.tup xs)) (upd H p (.tup xs)) := .new s h (fun _ z => nomatch z)
/-- an object that is not frozen is laid or written -/
theorem Ext.own {F H : Hp} (s : Sub F H) {p : Addr} {o : HO} (h : F p = none) : Sub F (upd H p o) := fun b x e =>
  (s b x e).mono (Same.refl F) fun u q => by rw [upd_ne (ne_of_none e h)]; exact q
theorem Ext.newO {F H : Hp} (s : Sub F H) {p : Addr} {o : HO} (h : H p = none) : Ext F H F (upd H p o) :=
  ⟨Same.refl F, fun a x e q => by rw [upd_ne (ne_of_none q h)]; exact ⟨q, e⟩, Ext.own s (s.none h)⟩

/-- what a value is, as data -/
def keyD : Key → D
  | .inl i => .int i
  | .inr x => .str x
/-! keys that are tuples of numbers, nested -/
mutual
def D.nk : D → NestedKey
  | .int i => .num i
  | .tup ds => .tup (D.nks ds)
  | _ => .none
def D.nks : List D → List NestedKey
  | [] => []
  | d :: ds => D.nk d :: D.nks ds
end
mutual
def D.kin : D → Bool
  | .int _ => true
  | .tup ds => D.kins ds
  | _ => false
def D.kins : List D → Bool
  | [] => true
  | d :: ds => D.kin d && D.kins ds
end
/-- a tuple of numbers, nested at most eight deep -/
def D.kok : D → Bool
  | .tup ds => D.kins ds && decide ((NestedKey.tup (D.nks ds)).depth ≤ 8)
  | _ => false
mutual
/-- the hash of a key without texts -/
def hN : NestedKey → Int
  | .none => reduceHash 0xFCA86420
  | .num i => hashInt i
  | .text _ => 0
  | .tup ks => reduceHash (Builtin.Tuple.tupleHashOf (hNs ks))
def hNs : List NestedKey → List Int
  | [] => []
  | k :: ks => hN k :: hNs ks
end
theorem kok_kin {d : D} (h : d.kok = true) : d.kin = true := by
  cases d <;> first | (simp [D.kok] at h; done) | skip
  simp only [D.kok, Bool.and_eq_true] at h
  simp only [D.kin]
  exact h.1
/-- a dict whose keys are such tuples: for each entry the key, its object, the value -/
def R3 (r : NestedKey × Addr × V) (x : NestedKey × Addr × Value) : Prop := r.1 = x.1 ∧ r.2.1 = x.2.1 ∧ RelV r.2.2 x.2.2
def DkO (a : Addr) (rows : List (NestedKey × Addr × V)) : HO := .ext fun h => rows.length ≤ sizeLine ∧ (a == sysModules) = false ∧ (rows.map (·.1)).Nodup ∧
  ∃ (xs : List (NestedKey × Addr × Value)) (o : Obj) (es : Array DictEntry) (ep : Nat), Paired R3 rows xs ∧ h.get? a = some o ∧ o.ExactDict ∧ o.data = .dict es ep ∧ es.toList = xs.map fun x => (⟨hN x.1, .ref x.2.1, x.2.2⟩ : DictEntry)
mutual
inductive Rp (K : PySem.W.Frag) (F : Hp) : V → D → Prop
  | non : Rp K F .non .non
  | bl (b : Bool) : Rp K F (.bl b) (.bl b)
  | int (i : Int) : Rp K F (.int i) (.int i)
  | str (x : Str) : Rp K F (.str x) (.str x)
  | tup {a : Addr} {xs : List V} {ds : List D} : SqT K F a xs → RpA K F xs ds → Rp K F (.ref a) (.tup ds)
  | lst {a : Addr} {xs : List V} {ds : List D} : F a = some (.lst xs) → RpA K F xs ds → Rp K F (.ref a) (.lst ds)
  | dic {a : Addr} {o : Obj} {kvs : List (Key × V)} {ds : List (D × D)} : F a = some (.frz o (.dK kvs)) → RpA K F (kvs.map (·.2)) (ds.map (·.2)) → ds.map (·.1) = kvs.map (fun p => keyD p.1) → Rp K F (.ref a) (.dic ds)
  | dicT {a : Addr} {o : Obj} {rows : List (NestedKey × Addr × V)} {ds : List (D × D)} : F a = some (.frz o (DkO a rows)) → ds ≠ [] → rows.map (·.1) = ds.map (fun p => p.1.nk) → (∀ p ∈ ds, p.1.kok = true) → RpA K F (rows.map fun r => V.ref r.2.1) (ds.map (·.1)) → RpA K F (rows.map (·.2.2)) (ds.map (·.2)) → Rp K F (.ref a) (.dic ds)
  | bag {a : Addr} : F a = some Mark → Rp K F (.ref a) .bag
  | scr {a : Addr} {ns : List Int} : SqL K F a (ns.map V.int) → ns.length ≤ 63 → Rp K F (.ref a) .scr
inductive RpA (K : PySem.W.Frag) (F : Hp) : List V → List D → Prop
  | nil : RpA K F [] []
  | cons {v : V} {vs : List V} {d : D} {ds : List D} : Rp K F v d → RpA K F vs ds → RpA K F (v :: vs) (d :: ds)
end
theorem SqT.same {K : PySem.W.Frag} {F F' : Hp} (m : Same F F') {a : Addr} {xs : List V} (h : SqT K F a xs) : SqT K F' a xs := by
  rcases h with (h | ⟨o, h⟩) | h
  · exact .inl (.inl (m _ _ h))
  · exact .inl (.inr ⟨o, m _ _ h⟩)
  · exact .inr h
mutual
theorem Rp.mono {K : PySem.W.Frag} {F F' : Hp} (m : Same F F') : ∀ {v : V} {d : D}, Rp K F v d → Rp K F' v d
  | _, _, .non => .non
  | _, _, .bl b => .bl b
  | _, _, .int b => .int b
  | _, _, .str b => .str b
  | _, _, .tup h r => .tup (SqT.same m h) (RpA.mono m r)
  | _, _, .lst h r => .lst (m _ _ h) (RpA.mono m r)
  | _, _, .dic h r k => .dic (m _ _ h) (RpA.mono m r) k
  | _, _, .dicT h k0 k1 k2 r1 r2 => .dicT (m _ _ h) k0 k1 k2 (RpA.mono m r1) (RpA.mono m r2)
  | _, _, .bag h => .bag (m _ _ h)
  | _, _, .scr h l => .scr (Same.seq m h) l
theorem RpA.mono {K : PySem.W.Frag} {F F' : Hp} (m : Same F F') : ∀ {v : List V} {d : List D}, RpA K F v d → RpA K F' v d
  | _, _, .nil => .nil
  | _, _, .cons h r => .cons (Rp.mono m h) (RpA.mono m r)
end
theorem RpA.length {K : PySem.W.Frag} {F : Hp} : ∀ {v : List V} {d : List D}, RpA K F v d → v.length = d.length
  | _, _, .nil => rfl
  | _, _, .cons _ r => congrArg (· + 1) (RpA.length r)
theorem RpA.get {K : PySem.W.Frag} {F : Hp} : ∀ {vs : List V} {ds : List D} {i : Nat} {d : D}, RpA K F vs ds → ds[i]? = some d → ∃ v, vs[i]? = some v ∧ Rp K F v d
  | _, _, _, _, .nil, e => by simp at e
  | _, _, 0, d, .cons h _, e => by simp at e; subst e; exact ⟨_, rfl, h⟩
  | _, _, i + 1, d, .cons _ r, e => by
    obtain ⟨v, e1, h⟩ := RpA.get (i := i) (d := d) r (by simpa using e)
    exact ⟨v, by simpa using e1, h⟩
theorem RpA.append {K : PySem.W.Frag} {F : Hp} : ∀ {vs ws : List V} {ds es : List D}, RpA K F vs ds → RpA K F ws es → RpA K F (vs ++ ws) (ds ++ es)
  | _, _, _, _, .nil, s => s
  | _, _, _, _, .cons h r, s => .cons h (RpA.append r s)
theorem RpA.take {K : PySem.W.Frag} {F : Hp} : ∀ {vs : List V} {ds : List D} (n : Nat), RpA K F vs ds → RpA K F (vs.take n) (ds.take n)
  | _, _, 0, _ => .nil
  | _, _, _ + 1, .nil => .nil
  | _, _, n + 1, .cons h r => .cons h (RpA.take n r)
theorem RpA.drop {K : PySem.W.Frag} {F : Hp} : ∀ {vs : List V} {ds : List D} (n : Nat), RpA K F vs ds → RpA K F (vs.drop n) (ds.drop n)
  | _, _, 0, r => r
  | _, _, _ + 1, .nil => .nil
  | _, _, n + 1, .cons _ r => RpA.drop n r
/-- a slot: nothing is known; frozen data; data of which it holds the only reference -/
inductive Slot where
  | un | v (d : D) | own (d : D)
  /-- frozen data, held by this very value -/
  | tg (x : V) (d : D)
  /-- tables of code objects, of these names -/
  | tb (T : List (Addr × Str))
/-- the tables T are marked -/
def TabF (T : List (Addr × Str)) (F : Hp) : Prop := ∀ p ∈ T, F p.1 = some (Mark3 p.2)
theorem TabF.mono {T : List (Addr × Str)} {F F' : Hp} (h : TabF T F) (m : Same F F') : TabF T F' := fun p hp => m _ _ (h p hp)
def OwnAt (K : PySem.W.Frag) (F H : Hp) (p : Addr) : D → Prop
  | .lst ds => ∃ xs, H p = some (.lst xs) ∧ RpA K F xs ds
  | .dic kvs => (∃ ks : List (Key × V), H p = some (.dK ks) ∧ RpA K F (ks.map (·.2)) (kvs.map (·.2)) ∧ kvs.map (·.1) = ks.map (fun q => keyD q.1)) ∨
    (∃ rows, H p = some (DkO p rows) ∧ kvs ≠ [] ∧ rows.map (·.1) = kvs.map (fun q => q.1.nk) ∧ (∀ q ∈ kvs, q.1.kok = true) ∧ RpA K F (rows.map fun r => V.ref r.2.1) (kvs.map (·.1)) ∧ RpA K F (rows.map (·.2.2)) (kvs.map (·.2)))
  | _ => False
def SlotOk (K : PySem.W.Frag) (F H : Hp) (x : Option V) : Slot → Prop
  | .un => True
  | .v d => ∃ v, x = some v ∧ Rp K F v d
  | .own d => ∃ p, x = some (.ref p) ∧ F p = none ∧ OwnAt K F H p d
  | .tg u d => x = some u ∧ Rp K F u d
  | .tb T => TabF T F
structure EnvOk (K : PySem.W.Frag) (F H : Hp) (σ : St) (ρ : List Slot) : Prop where
  len : σ.length = ρ.length
  at_ : ∀ (i : Nat) s, ρ[i]? = some s → ∃ x, σ[i]? = some x ∧ SlotOk K F H x s
  sep : ∀ (i j : Nat) p d e, i ≠ j → σ[i]? = some (some (.ref p)) → ρ[i]? = some (.own d) → σ[j]? = some (some (.ref p)) → ρ[j]? = some (.own e) → False
theorem OwnAt.mono {K : PySem.W.Frag} {F F' H H' : Hp} (m : Same F F') {p : Addr} (k : ∀ u, H p = some u → H' p = some u) : ∀ {d : D}, OwnAt K F H p d → OwnAt K F' H' p d
  | .lst ds, ⟨xs, e, r⟩ => ⟨xs, k _ e, r.mono m⟩
  | .dic kvs, .inl ⟨ks, e, r, q⟩ => .inl ⟨ks, k _ e, r.mono m, q⟩
  | .dic kvs, .inr ⟨rows, e, q0, q1, q2, r1, r2⟩ => .inr ⟨rows, k _ e, q0, q1, q2, r1.mono m, r2.mono m⟩
theorem OwnAt.there {K : PySem.W.Frag} {F H : Hp} {p : Addr} : ∀ {d : D}, OwnAt K F H p d → ∃ u, H p = some u
  | .lst ds, ⟨xs, e, r⟩ => ⟨_, e⟩
  | .dic kvs, .inl ⟨ks, e, r, q⟩ => ⟨_, e⟩
  | .dic kvs, .inr ⟨rows, e, _⟩ => ⟨_, e⟩
theorem SlotOk.mono {K : PySem.W.Frag} {F F' H H' : Hp} (x : Ext F H F' H') {v : Option V} : ∀ {s : Slot}, SlotOk K F H v s → SlotOk K F' H' v s
  | .un, _ => trivial
  | .v d, ⟨v, e, r⟩ => ⟨v, e, r.mono x.mono⟩
  | .own d, ⟨p, e, n, o⟩ => by
    obtain ⟨u, q⟩ := o.there
    exact ⟨p, e, (x.keep p u n q).2, o.mono x.mono fun u q => (x.keep p u n q).1⟩
  | .tg _ _, ⟨e, r⟩ => ⟨e, r.mono x.mono⟩
  | .tb _, h => TabF.mono h x.mono
theorem EnvOk.mono {K : PySem.W.Frag} {F F' H H' : Hp} {σ : St} {ρ : List Slot} (h : EnvOk K F H σ ρ) (x : Ext F H F' H') : EnvOk K F' H' σ ρ :=
  ⟨h.len, fun i s e => let ⟨v, e1, o⟩ := h.at_ i s e; ⟨v, e1, o.mono x⟩, h.sep⟩
theorem EnvOk.set {K : PySem.W.Frag} {F H : Hp} {σ : St} {ρ : List Slot} (h : EnvOk K F H σ ρ) (i : Nat) {v : V} {d : D} (r : Rp K F v d) : EnvOk K F H (σ.set i (some v)) (ρ.set i (.v d)) := by
  refine ⟨by simp [h.len], fun j s e => ?_, fun a b p d' e' hab h1 h2 h3 h4 => ?_⟩
  · by_cases hj : j = i
    · subst hj
      have hl : j < ρ.length := by
        have := (List.getElem?_eq_some_iff.mp e).1
        simpa using this
      rw [List.getElem?_set_self hl] at e
      cases e
      exact ⟨some v, by rw [List.getElem?_set_self (by rw [h.len]; exact hl)], v, rfl, r⟩
    · rw [List.getElem?_set_ne (Ne.symm hj)] at e
      rw [List.getElem?_set_ne (Ne.symm hj)]
      exact h.at_ j s e
  · have na : a ≠ i := fun z => by
      subst z
      have hl : a < ρ.length := by
        have := (List.getElem?_eq_some_iff.mp h2).1
        simpa using this
      rw [List.getElem?_set_self hl] at h2; cases h2
    have nb : b ≠ i := fun z => by
      subst z
      have hl : b < ρ.length := by
        have := (List.getElem?_eq_some_iff.mp h4).1
        simpa using this
      rw [List.getElem?_set_self hl] at h4; cases h4
    rw [List.getElem?_set_ne (Ne.symm na)] at h1 h2
    rw [List.getElem?_set_ne (Ne.symm nb)] at h3 h4
    exact h.sep a b p d' e' hab h1 h2 h3 h4
-- data without lists and dicts
mutual
def D.noLst : D → Bool
  | .lst _ => false
  | .scr => false
  | .tup ds => D.noLsts ds
  | .dic _ => false
  | _ => true
def D.noLsts : List D → Bool
  | [] => true
  | d :: ds => d.noLst && D.noLsts ds
end
def Mutb (o : HO) : Prop := (∃ xs, o = .lst xs) ∨ ∃ ob u, o = .frz ob u ∧ ∀ xs, u ≠ .tup xs
/-- F' is F but for lists and dicts -/
def ButLst (F F' : Hp) : Prop := ∀ a o, F a = some o → F' a = some o ∨ Mutb o
theorem SqT.but {K : PySem.W.Frag} {F F' : Hp} (m : ButLst F F') {a : Addr} {xs : List V} (h : SqT K F a xs) : SqT K F' a xs := by
  rcases h with (h | ⟨o, h⟩) | h
  · exact .inl (.inl ((m _ _ h).resolve_right fun z => z.elim (fun ⟨_, z⟩ => nomatch z) fun ⟨_, _, z, _⟩ => nomatch z))
  · exact .inl (.inr ⟨o, (m _ _ h).resolve_right fun z => z.elim (fun ⟨_, z⟩ => nomatch z) fun ⟨ob, u, z, k⟩ => by cases z; exact k _ rfl⟩)
  · exact .inr h
mutual
theorem Rp.but {K : PySem.W.Frag} {F F' : Hp} (m : ButLst F F') : ∀ {v : V} {d : D}, d.noLst = true → Rp K F v d → Rp K F' v d
  | _, _, _, .non => .non
  | _, _, _, .bl b => .bl b
  | _, _, _, .int b => .int b
  | _, _, _, .str b => .str b
  | _, _, n, .tup h r => .tup (SqT.but m h) (RpA.but m (by simpa only [D.noLst] using n) r)
  | _, _, n, .lst h r => by simp [D.noLst] at n
  | _, _, n, .dic h r k => by simp [D.noLst] at n
  | _, _, n, .dicT .. => by simp [D.noLst] at n
  | _, _, _, .bag h => .bag ((m _ _ h).resolve_right fun z => z.elim (fun ⟨_, z⟩ => nomatch z) fun ⟨_, _, z, _⟩ => nomatch z)
  | _, _, n, .scr h l => by simp [D.noLst] at n
theorem RpA.but {K : PySem.W.Frag} {F F' : Hp} (m : ButLst F F') : ∀ {v : List V} {d : List D}, D.noLsts d = true → RpA K F v d → RpA K F' v d
  | _, _, _, .nil => .nil
  | _, _, n, .cons h r => by
    simp only [D.noLsts, Bool.and_eq_true] at n
    exact .cons (Rp.but m n.1 h) (RpA.but m n.2 r)
end
/-- a list of one's own is given away -/
theorem Ext.adopt {F1 H1 F H : Hp} (x : Ext F1 H1 F H) {p : Addr} {xs : List V} (hp : H1 p = none) (hF : F p = none) (h : H p = some (.lst xs)) : Ext F1 H1 (upd F p (.lst xs)) H := by
  have m : Same F (upd F p (.lst xs)) := fun b o e => by rw [upd_ne (ne_of_none e hF)]; exact e
  refine ⟨x.mono.trans m, fun a o e q => ?_, fun b o e => ?_⟩
  · rw [upd_ne (ne_of_none q hp)]
    exact x.keep a o e q
  · by_cases hb : b = p
    · subst hb
      rw [upd_same] at e; cases e
      exact h
    · rw [upd_ne hb] at e
      exact (x.sub b o e).mono m fun u q => q
end DV

namespace DV
open PySem PySem.Spec PyProof.Rows L2

/-! ### readings over data -/
abbrev DE := List Slot → (D → Prop) → Prop
abbrev DA := List Slot → (List D → Prop) → Prop
abbrev DT := List Slot → (Bool → Prop) → Prop
structure DN where
  nx : List Slot → Prop
  rt : D → Prop
  bk : List Slot → Prop := fun _ => False
  ct : List Slot → Prop := fun _ => False
  /-- a new list of one's own is handed back -/
  ro : D → Prop := rt
abbrev DS := DN → List Slot → Prop
/-- a def's promise over data -/
abbrev DSp := List D → (D → Prop) → Prop

theorem _root_.L2.PE.impD {X : Cx} {e : Expr} {t t' : TE} (h : PE X e t) (i : ∀ σ H Q, t' σ H Q → t σ H Q) : PE X e t' := ⟨fun p s σ H Q I q => h.run p s σ H Q I (i _ _ _ q)⟩
theorem _root_.L2.PT.impD {X : Cx} {e : Expr} {t t' : TT} (h : PT X e t) (i : ∀ σ H Q, t' σ H Q → t σ H Q) : PT X e t' := ⟨fun p s σ H Q I q => h.run p s σ H Q I (i _ _ _ q)⟩
theorem _root_.L2.PW.impD {X : Cx} {e : Expr} {t t' : TT} (h : PW X e t) (i : ∀ σ H Q, t' σ H Q → t σ H Q) : PW X e t' := ⟨fun w p s σ H Q I q => h.run w p s σ H Q I (i _ _ _ q)⟩
theorem _root_.L2.PA.impD {X : Cx} {e : List Expr} {t t' : TA} (h : PA X e t) (i : ∀ σ H Q, t' σ H Q → t σ H Q) : PA X e t' := ⟨fun o p s σ H Q I q => h.run o p s σ H Q I (i _ _ _ q)⟩
theorem _root_.L2.PS.impD {X : Cx} {e : Stmt} {t t' : TS} (h : PS X e t) (i : ∀ N σ H, t' N σ H → t N σ H) : PS X e t' := ⟨fun p s σ H N I q => h.run p s σ H N I (i _ _ _ q)⟩
theorem _root_.L2.PSs.impD {X : Cx} {e : List Stmt} {t t' : TS} (h : PSs X e t) (i : ∀ N σ H, t' N σ H → t N σ H) : PSs X e t' := ⟨fun p s σ H N I q => h.run p s σ H N I (i _ _ _ q)⟩

def lfE (K : PySem.W.Frag) (t : DE) : TE := fun σ H Q => ∃ ρ F Q0, Sub F H ∧ EnvOk K F H σ ρ ∧ t ρ Q0 ∧ ∀ v H' F' d, Ext F H F' H' → Rp K F' v d → Q0 d → Q v H'
def lfA (K : PySem.W.Frag) (t : DA) : TA := fun σ H Q => ∃ ρ F Q0, Sub F H ∧ EnvOk K F H σ ρ ∧ t ρ Q0 ∧ ∀ v H' F' d, Ext F H F' H' → RpA K F' v d → Q0 d → Q v H'
def lfT (K : PySem.W.Frag) (t : DT) : TT := fun σ H Q => ∃ ρ F Q0, Sub F H ∧ EnvOk K F H σ ρ ∧ t ρ Q0 ∧ ∀ b H' F', Ext F H F' H' → Q0 b → Q b H'
abbrev PD (X : Cx) (e : Expr) (t : DE) : Prop := PE X e (lfE X.K t)
abbrev PDA (X : Cx) (es : List Expr) (t : DA) : Prop := PA X es (lfA X.K t)
abbrev PDT (X : Cx) (e : Expr) (t : DT) : Prop := PT X e (lfT X.K t)
abbrev PDW (X : Cx) (e : Expr) (t : DT) : Prop := PW X e (lfT X.K t)

section
variable {X : Cx} {e a b c : Expr} {es rest : List Expr} {t ta tb tc : DE} {tr : DA} {tA tB : DT} {pos : Pos}

/-! ### names, constants -/
def dVar (i : Nat) : DE := fun ρ Q => match ρ[i]? with
  | some (.v d) => Q d
  | some (.tg _ d) => Q d
  | _ => False
def dC (d : D) : DE := fun _ Q => Q d
theorem pd_var {i : Nat} (h : PE X e (tVar i)) : PD X e (dVar i) := h.impD fun σ H Q ⟨ρ, F, Q0, s, en, ht, k⟩ => by
  unfold dVar at ht
  cases hi : ρ[i]? with
  | none => rw [hi] at ht; exact ht.elim
  | some sl =>
    rw [hi] at ht
    cases sl with
    | un => exact ht.elim
    | own d => exact ht.elim
    | v d =>
      obtain ⟨x, e1, v, rfl, r⟩ := en.at_ i _ hi
      exact ⟨v, e1, k v H F d (.refl s) r ht⟩
    | tg u d =>
      obtain ⟨x, e1, rfl, r⟩ := en.at_ i _ hi
      exact ⟨u, e1, k u H F d (.refl s) r ht⟩
    | tb T => exact ht.elim
theorem pd_c {v : V} {d : D} (h : PE X e (tC v)) (r : ∀ K F, Rp K F v d) : PD X e (dC d) := h.impD fun σ H Q ⟨ρ, F, Q0, s, en, ht, k⟩ => k v H F d (.refl s) (r _ _) ht
theorem pd_int {i : Int} {j pos} : PD X (.Constant (.int i) j pos) (dC (.int i)) := pd_c pe_int fun _ _ => .int _
theorem pd_bl {b : Bool} {j pos} : PD X (.Constant (.bool b) j pos) (dC (.bl b)) := pd_c pe_bl fun _ _ => .bl _
theorem pd_non {j pos} : PD X (.Constant .none j pos) (dC .non) := pd_c pe_non fun _ _ => .non
theorem pd_str {x : Str} {j pos} : PD X (.Constant (.str x) j pos) (dC (.str x)) := pd_c pe_str fun _ _ => .str _
/-- a constant of the module, an int -/
theorem pd_gint {x : Str} {i : Int} {pos} (hm : ∃ tk, X.mg x = some (.int i tk)) (hg : Gl X x := by rfl) (hd : (x == ("__debug__" : Str)) = false := by decide) : PD X (.Name x pos) (dC (.int i)) := let ⟨_, h⟩ := hm; pd_c (pe_glob (v := .int i) hg h ⟨_, rfl⟩ hd) fun _ _ => .int _
/-! ### operators -/
abbrev D2 := D → D → (D → Prop) → Prop
def OpD (K : PySem.W.Frag) (r : R2) (g : D2) : Prop := ∀ (F H : Hp) (x y : V) (dx dy : D) (Q0 : D → Prop) (Q : VK), Sub F H → Rp K F x dx → Rp K F y dy → g dx dy Q0 → (∀ v H' F' d, Ext F H F' H' → Rp K F' v d → Q0 d → Q v H') → r x y H Q
def dOp (g : D2) (ta tb : DE) : DE := fun ρ Q => ta ρ fun x => tb ρ fun y => g x y Q
theorem lf_op {r : R2} {g : D2} {K : PySem.W.Frag} (hg : OpD K r g) : ∀ σ H Q, lfE K (dOp g ta tb) σ H Q → tOp r (lfE K ta) (lfE K tb) σ H Q := fun σ H Q ⟨ρ, F, Q0, s, en, ht, k⟩ =>
  ⟨ρ, F, _, s, en, ht, fun x H1 F1 dx x1 rx q1 => ⟨ρ, F1, _, x1.sub, en.mono x1, q1, fun y H2 F2 dy x2 ry q2 =>
    hg F2 H2 x y dx dy Q0 Q x2.sub (rx.mono x2.mono) ry q2 fun v H' F' d x3 r3 q3 => k v H' F' d ((x1.trans x2).trans x3) r3 q3⟩⟩
theorem pd_op {op : Operator} {r : R2} {g : D2} (ho : OpR X (binaryOp op) r) (hg : OpD X.K r g) (ha : PD X a ta) (hb : PD X b tb) : PD X (.BinOp a op b pos) (dOp g ta tb) := (pe_op ho ha hb).impD (lf_op hg)
theorem pd_cmp {op : CmpOp} {r : R2} {g : D2} (ho : OpR X (compareOp op) r) (hg : OpD X.K r g) (hm : behindInMarks op b = false) (ha : PD X a ta) (hb : PD X b tb) : PD X (.Compare a [op] [b] pos) (dOp g ta tb) := (pe_cmpR ho ha hb hm).impD (lf_op hg)
theorem pd_ix {r : R2} {g : D2} (hr : IxR X r) (hg : OpD X.K r g) (ha : PD X a ta) (hb : PD X b tb) (hs : PlainIx b) : PD X (.Subscript a b pos) (dOp g ta tb) := (pe_ix hr ha hb hs).impD (lf_op hg)
/-- a chain of two comparisons -/
def dChain (g g' : D2) (ta tb tc : DE) : DE := fun ρ Q => ta ρ fun x => tb ρ fun y => g x y fun z => match z with
  | .bl k => if k = true then tc ρ fun w => g' y w Q else Q (.bl false)
  | _ => False
theorem lf_chain {r r' : R2} {g g' : D2} {K : PySem.W.Frag} (hg : OpD K r g) (hg' : OpD K r' g') : ∀ σ H Q, lfE K (dChain g g' ta tb tc) σ H Q → tChain r r' (lfE K ta) (lfE K tb) (lfE K tc) σ H Q := fun σ H Q ⟨ρ, F, Q0, s, en, ht, k⟩ =>
  ⟨ρ, F, _, s, en, ht, fun x H1 F1 dx x1 rx q1 => ⟨ρ, F1, _, x1.sub, en.mono x1, q1, fun y H2 F2 dy x2 ry q2 => by
    refine hg F2 H2 x y dx dy _ _ x2.sub (rx.mono x2.mono) ry q2 fun z H3 F3 dz x3 rz q3 => ?_
    cases dz with
    | bl k0 =>
      cases rz
      refine ⟨k0, rfl, ?_⟩
      have x13 := (x1.trans x2).trans x3
      cases k0 with
      | false => exact iteF (k _ H3 F3 _ x13 (.bl false) q3)
      | true => exact iteT ⟨ρ, F3, _, x3.sub, en.mono x13, q3, fun w H4 F4 dw x4 rw q4 => hg' F4 H4 y w dy dw Q0 Q x4.sub (ry.mono (x3.mono.trans x4.mono)) rw q4 fun v H' F' d x5 r5 q5 => k v H' F' d ((x13.trans x4).trans x5) r5 q5⟩
    | _ => exact q3.elim⟩⟩
theorem pd_chain {op op' : CmpOp} {r r' : R2} {g g' : D2} (ho : OpR X (compareOp op) r) (hg : OpD X.K r g) (ho' : OpR X (compareOp op') r') (hg' : OpD X.K r' g') (ha : PD X a ta) (hb : PD X b tb) (hc : PD X c tc)
    (hm : lastMarks [op, op'] [b, c] = false := by with_unfolding_all rfl) : PD X (.Compare a [op, op'] [b, c] pos) (dChain g g' ta tb tc) := (pe_chain ho ho' ha hb hc hm).impD (lf_chain hg hg')

/-! the operators over data -/
def addD : D2
  | .int i, .int j, Q => Q (.int (i + j))
  | .str i, .str j, Q => i.length + j.length ≤ sizeLine ∧ Q (.str (i ++ j))
  | .tup xs, .tup ys, Q => xs ≠ [] ∧ xs.length + ys.length ≤ sizeLine ∧ Q (.tup (xs ++ ys))
  | .lst xs, .lst ys, Q => xs.length + ys.length ≤ sizeLine ∧ Q (.lst (xs ++ ys))
  | _, _, _ => False
def intD (C : Int → Int → Prop) (f : Int → Int → D) : D2
  | .int i, .int j, Q => C i j ∧ Q (f i j)
  | _, _, _ => False
def intD0 (f : Int → Int → D) : D2
  | .int i, .int j, Q => Q (f i j)
  | _, _, _ => False
/-- a product's size: one side is small -/
def MulOk (i j : Int) : Prop := (-(2 ^ 64) < i ∧ i < 2 ^ 64) ∨ (-(2 ^ 64) < j ∧ j < 2 ^ 64)
def subD : D2 := intD0 fun i j => .int (i - j)
def mulD : D2 := intD MulOk fun i j => .int (i * j)
/-- a divisor -/
def DivOk (j : Int) : Prop := j ≠ 0 ∧ j.natAbs.log2 < 9000
def fdivD : D2 := intD (fun _ j => DivOk j) fun i j => .int (i.fdiv j)
def modD : D2 := intD (fun _ j => j ≠ 0) fun i j => .int (i.fmod j)
def powD : D2 := intD (fun i j => 0 ≤ j ∧ j ≤ 1000000 ∧ i.natAbs < 2 ^ 64) fun i j => .int (i ^ j.toNat)
theorem opD_int0 {K : PySem.W.Frag} {g : Int → Int → V} {f : Int → Int → D} (h : ∀ i j K F, Rp K F (g i j) (f i j)) : OpD K (rI0 g) (intD0 f) := fun F H x y dx dy Q0 Q s rx ry q k => by
  cases rx <;> cases ry <;> first | exact q.elim | skip
  exact ⟨_, _, rfl, rfl, k _ H F _ (.refl s) (h _ _ _ _) q⟩
theorem pd_sub (ha : PD X a ta) (hb : PD X b tb) : PD X (.BinOp a .Sub b pos) (dOp subD ta tb) := pd_op op_sub (opD_int0 fun _ _ _ _ => .int _) ha hb
theorem op_fdivA : OpR X (binaryOp .FloorDiv) (rI (fun _ j => DivOk j) fun i j => .int (i.fdiv j)) := opI fun _ _ _ _ _ _ _ hc q => floordiv_int hc.1 q (.inl (PyProof.noPylong_of_log2 hc.2))
def rAddA (K : PySem.W.Frag) : R2 := fun x y H Q => ((rI0 (fun i j => .int (i + j)) x y H Q ∨ (∃ i j, x = .str i ∧ y = .str j ∧ i.length + j.length ≤ sizeLine ∧ Q (.str (i ++ j)) H)) ∨ rCatT K x y H Q) ∨ rCat x y H Q
theorem opD_add {K : PySem.W.Frag} : OpD K (rAddA K) addD := fun F H x y dx dy Q0 Q s rx ry q k => by
  cases rx <;> cases ry <;> first | exact q.elim | skip
  · exact .inl (.inl (.inl ⟨_, _, rfl, rfl, k _ H F _ (.refl s) (.int _) q⟩))
  · exact .inl (.inl (.inr ⟨_, _, rfl, rfl, q.1, k _ H F _ (.refl s) (.str _) q.2⟩))
  · rename_i a1 xs1 ds1 h1 r1 a2 xs2 ds2 h2 r2
    refine .inl (.inr ⟨_, _, _, _, rfl, rfl, s.seqT h1, s.seqT h2, fun z => q.1 ?_, by rw [r1.length, r2.length]; exact q.2.1, fun e => ?_, fun _ p hp => ?_⟩)
    · subst z; cases r1; rfl
    · subst e
      cases r2
      have q2 := q.2.2
      rw [List.append_nil] at q2
      exact k _ H F _ (.refl s) (.tup h1 r1) q2
    · have x := Ext.newT (xs := xs1 ++ xs2) s hp
      exact k _ _ _ _ x (.tup (.inl (.inl upd_same)) ((r1.append r2).mono x.mono)) q.2.2
  · rename_i a1 xs1 ds1 h1 r1 a2 xs2 ds2 h2 r2
    refine .inr ⟨_, _, _, _, rfl, rfl, s.lst h1, s.lst h2, by rw [r1.length, r2.length]; exact q.1, fun p hp => ?_⟩
    have x := Ext.newL (xs := xs1 ++ xs2) s hp
    exact k _ _ _ _ x (.lst upd_same ((r1.append r2).mono x.mono)) q.2
theorem pd_add (ha : PD X a ta) (hb : PD X b tb) : PD X (.BinOp a .Add b pos) (dOp addD ta tb) := pd_op (((op_add.or op_add_str).or op_catT).or op_cat) opD_add ha hb

/-! comparisons -/
def ltI : D2 := intD0 fun i j => .bl (decide (i < j))
def leI : D2 := intD0 fun i j => .bl (decide (i ≤ j))
def gtI : D2 := intD0 fun i j => .bl (decide (j < i))
def geI : D2 := intD0 fun i j => .bl (decide (j ≤ i))
theorem od_lt {K : PySem.W.Frag} : OpD K (rI0 fun i j => .bl (decide (i < j))) ltI := opD_int0 fun _ _ _ _ => .bl _
theorem od_le {K : PySem.W.Frag} : OpD K (rI0 fun i j => .bl (decide (i ≤ j))) leI := opD_int0 fun _ _ _ _ => .bl _
theorem od_gt {K : PySem.W.Frag} : OpD K (rI0 fun i j => .bl (decide (j < i))) gtI := opD_int0 fun _ _ _ _ => .bl _
mutual
def D.toP : D → PyData
  | .non => .none
  | .bl b => .bool b
  | .int i => .int i
  | .str x => .str x
  | .tup xs => .tuple (D.toPs xs)
  | .lst xs => .list (D.toPs xs)
  | .dic _ => .none
  | .bag => .none
  | .scr => .none
def D.toPs : List D → List PyData
  | [] => []
  | x :: xs => D.toP x :: D.toPs xs
end
mutual
def D.flatOk : D → Bool
  | .tup xs => D.flatOks xs
  | .lst xs => D.flatOks xs
  | .dic _ => false
  | .bag => false
  | .scr => false
  | _ => true
def D.flatOks : List D → Bool
  | [] => true
  | x :: xs => D.flatOk x && D.flatOks xs
end
/-- data that == may compare -/
def D.lay (d : D) : Bool := d.flatOk && SeqAt.shaped d.toP
mutual
def D.eqb : D → D → Bool
  | .non, .non => true
  | .bl a, .bl b => a == b
  | .bl a, .int j => (if a then 1 else 0) == j
  | .int i, .bl b => i == (if b then 1 else 0)
  | .int i, .int j => i == j
  | .str x, .str y => x == y
  | .lst xs, .lst ys => D.eqbs xs ys
  | .tup xs, .tup ys => D.eqbs xs ys
  | _, _ => false
def D.eqbs : List D → List D → Bool
  | [], [] => true
  | x :: xs, y :: ys => D.eqb x y && D.eqbs xs ys
  | _, _ => false
end
mutual
theorem eqb_toP : ∀ (x y : D), x.flatOk = true → y.flatOk = true → PyData.eqv x.toP y.toP = D.eqb x y
  | .non, y, _, h => by cases y <;> first | rfl | (simp [D.flatOk] at h; done) | simp [D.toP, PyData.eqv, D.eqb]
  | .bl a, y, _, h => by cases y <;> first | rfl | (simp [D.flatOk] at h; done) | simp [D.toP, PyData.eqv, D.eqb]
  | .int a, y, _, h => by cases y <;> first | rfl | (simp [D.flatOk] at h; done) | simp [D.toP, PyData.eqv, D.eqb]
  | .str a, y, _, h => by cases y <;> first | rfl | (simp [D.flatOk] at h; done) | simp [D.toP, PyData.eqv, D.eqb]
  | .tup xs, y, hx, h => by
    cases y with
    | tup ys =>
      simp only [D.flatOk] at hx h
      simp only [D.toP, PyData.eqv, D.eqb]
      exact eqbs_toP xs ys hx h
    | _ => first | rfl | (simp [D.flatOk] at h; done) | simp [D.toP, PyData.eqv, D.eqb]
  | .lst xs, y, hx, h => by
    cases y with
    | lst ys =>
      simp only [D.flatOk] at hx h
      simp only [D.toP, PyData.eqv, D.eqb]
      exact eqbs_toP xs ys hx h
    | _ => first | rfl | (simp [D.flatOk] at h; done) | simp [D.toP, PyData.eqv, D.eqb]
  | .dic _, _, h, _ => by simp [D.flatOk] at h
  | .bag, _, h, _ => by simp [D.flatOk] at h
  | .scr, _, h, _ => by simp [D.flatOk] at h
theorem eqbs_toP : ∀ (x y : List D), D.flatOks x = true → D.flatOks y = true → PyData.eqvAll (D.toPs x) (D.toPs y) = D.eqbs x y
  | [], [], _, _ => rfl
  | [], _ :: _, _, _ => rfl
  | _ :: _, [], _, _ => rfl
  | x :: xs, y :: ys, hx, hy => by
    simp only [D.flatOks, Bool.and_eq_true] at hx hy
    simp only [D.toPs, PyData.eqvAll, D.eqbs]
    rw [eqb_toP x y hx.1 hy.1, eqbs_toP xs ys hx.2 hy.2]
end
mutual
theorem Rp.dp {K : PySem.W.Frag} {F H : Hp} (s : Sub F H) : ∀ {v : V} {d : D}, Rp K F v d → d.flatOk = true → Dp K H v d.toP
  | _, _, .non, _ => .non
  | _, _, .bl b, _ => .bl b
  | _, _, .int b, _ => .int b
  | _, _, .str b, _ => .str b
  | _, _, .tup h r, f => .tup (s.seqT h) (RpA.dp s r f)
  | _, _, .lst h r, f => .lst (.of (s.lst h)) (RpA.dp s r f)
  | _, _, .dic _ _ _, f => by simp [D.flatOk] at f
  | _, _, .dicT .., f => by simp [D.flatOk] at f
  | _, _, .bag _, f => by simp [D.flatOk] at f
  | _, _, .scr _ _, f => by simp [D.flatOk] at f
theorem RpA.dp {K : PySem.W.Frag} {F H : Hp} (s : Sub F H) : ∀ {v : List V} {d : List D}, RpA K F v d → D.flatOks d = true → DpAll K H v (D.toPs d)
  | _, _, .nil, _ => .nil
  | _, _, .cons h r, f => by
    simp only [D.flatOks, Bool.and_eq_true] at f
    exact .cons (Rp.dp s h f.1) (RpA.dp s r f.2)
end
def eqD : D2 := fun x y Q => x.lay = true ∧ y.lay = true ∧ Q (.bl (D.eqb x y))
def neD : D2 := fun x y Q => x.lay = true ∧ y.lay = true ∧ Q (.bl (!D.eqb x y))
theorem lay_and {d : D} (h : d.lay = true) : d.flatOk = true ∧ SeqAt.shaped d.toP = true := Bool.and_eq_true_iff.mp h
theorem od_eq {K : PySem.W.Frag} : OpD K (rEqD K) eqD := fun F H x y dx dy Q0 Q s rx ry q k => by
  obtain ⟨h1, h2, q⟩ := q
  refine ⟨dx.toP, dy.toP, rx.dp s (lay_and h1).1, ry.dp s (lay_and h2).1, (lay_and h1).2, (lay_and h2).2, ?_⟩
  rw [eqb_toP dx dy (lay_and h1).1 (lay_and h2).1]
  exact k _ H F _ (.refl s) (.bl _) q
theorem od_ne {K : PySem.W.Frag} : OpD K (rNeD K) neD := fun F H x y dx dy Q0 Q s rx ry q k => by
  obtain ⟨h1, h2, q⟩ := q
  refine ⟨dx.toP, dy.toP, rx.dp s (lay_and h1).1, ry.dp s (lay_and h2).1, (lay_and h1).2, (lay_and h2).2, ?_⟩
  rw [eqb_toP dx dy (lay_and h1).1 (lay_and h2).1]
  exact k _ H F _ (.refl s) (.bl _) q
def inD : D2 := fun x y Q => match y with
  | .lst ds => x.lay = true ∧ (D.lst ds).lay = true ∧ Q (.bl (ds.any fun z => D.eqb z x))
  | _ => False
def notInD : D2 := fun x y Q => match y with
  | .lst ds => x.lay = true ∧ (D.lst ds).lay = true ∧ Q (.bl (!ds.any fun z => D.eqb z x))
  | _ => False
def isNonD : D2 := fun x y Q => match y with
  | .non => Q (.bl (match x with | .non => true | _ => false))
  | _ => False
def notNonD : D2 := fun x y Q => match y with
  | .non => Q (.bl (match x with | .non => false | _ => true))
  | _ => False
theorem od_isN {K : PySem.W.Frag} : OpD K (fun x y H Q => y = .non ∧ Q (.bl (decide (x = .non))) H) isNonD := fun F H x y dx dy Q0 Q s rx ry q k => by
  cases ry <;> first | exact q.elim | skip
  refine ⟨rfl, ?_⟩
  cases rx <;> exact k _ H F _ (.refl s) (.bl _) q
def isBD : D2 := fun x y Q => match x, y with
  | .bl a, .bl b => Q (.bl (decide (a = b)))
  | _, _ => False
/-! ### unary operators, tests, and, or, not, if else -/
def dUn (g : D → (D → Prop) → Prop) (ta : DE) : DE := fun ρ Q => ta ρ fun x => g x Q
def negD : D → (D → Prop) → Prop
  | .int i, Q => Q (.int (-i))
  | _, _ => False
theorem pd_neg (ha : PD X a ta) : PD X (.UnaryOp .USub a pos) (dUn negD ta) := (pe_un un_neg ha).impD fun σ H Q ⟨ρ, F, Q0, s, en, ht, k⟩ =>
  ⟨ρ, F, _, s, en, ht, fun x H1 F1 dx x1 rx q1 => by
    cases rx <;> first | exact q1.elim | skip
    exact ⟨_, rfl, k _ H1 F1 _ x1 (.int _) q1⟩⟩
def dTest (t : DE) : DT := fun ρ Q => t ρ fun x => match x with
  | .bl b => Q b
  | _ => False
theorem lf_test {K : PySem.W.Frag} : ∀ σ H Q, lfT K (dTest t) σ H Q → (lfE K t) σ H (fun x H' => ∃ k, x = .bl k ∧ Q k H') := fun σ H Q ⟨ρ, F, Q0, s, en, ht, k⟩ =>
  ⟨ρ, F, _, s, en, ht, fun x H1 F1 dx x1 rx q1 => by
    cases dx <;> first | exact q1.elim | skip
    cases rx
    exact ⟨_, rfl, k _ H1 F1 x1 q1⟩⟩
theorem pdt_val (h : PD X e t) (he : ∀ whole, isTrue e X.env whole = (do let v ← whole; standAt e.pos; holding [v] (truthy v)) := by intro _; rfl) : PDT X e (dTest t) := (pt_val h he).impD lf_test
theorem pdt_cmp {op : CmpOp} {r : R2} {g : D2} (ho : OpR X (compareOp op) r) (hg : OpD X.K r g) (hm : behindInMarks op b = false) (ha : PD X a ta) (hb : PD X b tb) : PDT X (.Compare a [op] [b] pos) (dTest (dOp g ta tb)) :=
  (pt_cmpR ho ha hb hm).impD fun σ H Q h => lf_op hg σ H _ (by
    obtain ⟨ρ, F, Q0, s, en, ht, k⟩ := h
    refine ⟨ρ, F, _, s, en, ht, fun x H1 F1 dx x1 rx q1 => ?_⟩
    cases dx <;> first | exact q1.elim | skip
    cases rx
    exact ⟨_, rfl, k _ H1 F1 x1 q1⟩)
def dAnd (t u : DT) : DT := fun ρ Q => t ρ fun c => if c = true then u ρ Q else Q false
def dOr (t u : DT) : DT := fun ρ Q => t ρ fun c => if c = true then Q true else u ρ Q
def dNot (t : DT) : DT := fun ρ Q => t ρ fun c => Q (!c)
theorem pdw_or1 (h : PDT X a tA) : PDW X (.BoolOp .Or [a] pos) tA := pw_or1 h
theorem pdw_or (ha : PDT X a tA) (hb : PDW X (.BoolOp .Or (b :: rest) pos) tB) : PDW X (.BoolOp .Or (a :: b :: rest) pos) (dOr tA tB) := (pw_or ha hb).impD fun σ H Q ⟨ρ, F, Q0, s, en, ht, k⟩ =>
  ⟨ρ, F, _, s, en, ht, fun c H1 F1 x1 q1 => by
    cases c with
    | true => exact iteT (k _ H1 F1 x1 q1)
    | false => exact iteF ⟨ρ, F1, Q0, x1.sub, en.mono x1, q1, fun b H2 F2 x2 q2 => k b H2 F2 (x1.trans x2) q2⟩⟩
theorem pdt_w (h : PDW X e tA) : PDT X e tA := h.pt
theorem pdt_not (ha : PDT X a tA) : PDT X (.UnaryOp .Not a pos) (dNot tA) := (pt_not ha).impD fun σ H Q ⟨ρ, F, Q0, s, en, ht, k⟩ =>
  ⟨ρ, F, _, s, en, ht, fun c H1 F1 x1 q1 => k _ H1 F1 x1 q1⟩
/-- as values -/
def dAndV (ta tb : DE) : DE := fun ρ Q => ta ρ fun x => match x with
  | .bl c => if c = true then tb ρ Q else Q (.bl false)
  | _ => False
def dOrV (ta tb : DE) : DE := fun ρ Q => ta ρ fun x => match x with
  | .bl c => if c = true then Q (.bl true) else tb ρ Q
  | _ => False
def notD : D → (D → Prop) → Prop
  | .bl c, Q => Q (.bl (!c))
  | _, _ => False
theorem pd_one {op} (h : PD X a t) : PD X (.BoolOp op [a] pos) t := pe_one h
theorem pd_and (ha : PD X a ta) (hb : PD X (.BoolOp .And (b :: rest) pos) tb) : PD X (.BoolOp .And (a :: b :: rest) pos) (dAndV ta tb) := (pe_and ha hb).impD fun σ H Q ⟨ρ, F, Q0, s, en, ht, k⟩ =>
  ⟨ρ, F, _, s, en, ht, fun x H1 F1 dx x1 rx q1 => by
    cases dx <;> first | exact q1.elim | skip
    cases rx
    rename_i c
    refine ⟨c, rfl, ?_⟩
    cases c with
    | true => exact iteT ⟨ρ, F1, Q0, x1.sub, en.mono x1, q1, fun v H2 F2 d x2 r2 q2 => k v H2 F2 d (x1.trans x2) r2 q2⟩
    | false => exact iteF (k _ H1 F1 _ x1 (.bl _) q1)⟩
def dIf (c : DT) (ta tb : DE) : DE := fun ρ Q => c ρ fun k => if k = true then ta ρ Q else tb ρ Q
theorem pd_if (hc : PDT X c tA) (ha : PD X a ta) (hb : PD X b tb) : PD X (.IfExp c a b pos) (dIf tA ta tb) := (pe_ifExp hc ha hb).impD fun σ H Q ⟨ρ, F, Q0, s, en, ht, k⟩ =>
  ⟨ρ, F, _, s, en, ht, fun c H1 F1 x1 q1 => by
    cases c with
    | true => exact iteT ⟨ρ, F1, Q0, x1.sub, en.mono x1, q1, fun v H2 F2 d x2 r2 q2 => k v H2 F2 d (x1.trans x2) r2 q2⟩
    | false => exact iteF ⟨ρ, F1, Q0, x1.sub, en.mono x1, q1, fun v H2 F2 d x2 r2 q2 => k v H2 F2 d (x1.trans x2) r2 q2⟩⟩

/-! ### arguments, displays -/
def dNil : DA := fun _ Q => Q []
def dCons (ta : DE) (tr : DA) : DA := fun ρ Q => ta ρ fun x => tr ρ fun xs => Q (x :: xs)
theorem pda_nil : PDA X [] dNil := pa_nil.impD fun σ H Q ⟨ρ, F, Q0, s, en, ht, k⟩ => k [] H F [] (.refl s) .nil ht
theorem pda_cons (ha : PD X e t) (hr : PDA X es tr) (hs : starEach (e :: es) X.env = (false, eval e X.env) :: starEach es X.env := by rfl) : PDA X (e :: es) (dCons t tr) := (pa_cons ha hr hs).impD fun σ H Q ⟨ρ, F, Q0, s, en, ht, k⟩ =>
  ⟨ρ, F, _, s, en, ht, fun x H1 F1 dx x1 rx q1 => ⟨ρ, F1, _, x1.sub, en.mono x1, q1, fun xs H2 F2 ds x2 rs q2 => k _ H2 F2 _ (x1.trans x2) (.cons (rx.mono x2.mono) rs) q2⟩⟩
def dTup (t : DA) : DE := fun ρ Q => t ρ fun xs => xs.length ≤ sizeLine ∧ Q (.tup xs)
def dLst (t : DA) : DE := fun ρ Q => t ρ fun xs => xs.length ≤ sizeLine ∧ Q (.lst xs)
theorem pd_tup {x1} (h : PDA X es tr) : PD X (.Tuple es x1 pos) (dTup tr) := (pe_tup h).impD fun σ H Q ⟨ρ, F, Q0, s, en, ht, k⟩ =>
  ⟨ρ, F, _, s, en, ht, fun xs H1 F1 ds x1 rs q1 => ⟨by rw [rs.length]; exact q1.1, fun p hp => by
    have x := Ext.newT (xs := xs) x1.sub hp
    exact k _ _ _ _ (x1.trans x) (.tup (.inl (.inl upd_same)) (rs.mono x.mono)) q1.2⟩⟩
theorem pd_lst (h : PDA X es tr) : PD X (.List es pos) (dLst tr) := (pe_lst h).impD fun σ H Q ⟨ρ, F, Q0, s, en, ht, k⟩ =>
  ⟨ρ, F, _, s, en, ht, fun xs H1 F1 ds x1 rs q1 => ⟨by rw [rs.length]; exact q1.1, fun p hp => by
    have x := Ext.newL (xs := xs) x1.sub hp
    exact k _ _ _ _ (x1.trans x) (.lst upd_same (rs.mono x.mono)) q1.2⟩⟩
end
end DV

namespace DV
open PySem PySem.Spec PyProof.Rows L2

/-! ### statements -/
structure Sta (K : PySem.W.Frag) (F0 H0 G F : Hp) (σ : St) (H : Hp) (ρ : List Slot) : Prop where
  bse : Sub F0 H0
  pin : Same G F
  ext : Ext F0 H0 F H
  env : EnvOk K F H σ ρ
  own : ∀ (i : Nat) p d, σ[i]? = some (some (.ref p)) → ρ[i]? = some (.own d) → H0 p = none
def StOk (K : PySem.W.Frag) (F0 H0 G : Hp) (σ : St) (H : Hp) (ρ : List Slot) : Prop := ∃ F, Sta K F0 H0 G F σ H ρ
theorem Sta.step {K : PySem.W.Frag} {F0 H0 G F F1 H H1 : Hp} {σ : St} {ρ : List Slot} (s : Sta K F0 H0 G F σ H ρ) (x : Ext F H F1 H1) : Sta K F0 H0 G F1 σ H1 ρ := ⟨s.bse, s.pin.trans x.mono, s.ext.trans x, s.env.mono x, s.own⟩
theorem Sta.set {K : PySem.W.Frag} {F0 H0 G F H : Hp} {σ : St} {ρ : List Slot} (s : Sta K F0 H0 G F σ H ρ) (i : Nat) {v : V} {d : D} (r : Rp K F v d) : Sta K F0 H0 G F (σ.set i (some v)) H (ρ.set i (.v d)) := by
  refine ⟨s.bse, s.pin, s.ext, s.env.set i r, fun j p e h1 h2 => ?_⟩
  have nj : j ≠ i := fun z => by
    subst z
    have hl : j < ρ.length := by
      have := (List.getElem?_eq_some_iff.mp h2).1
      simpa using this
    rw [List.getElem?_set_self hl] at h2; cases h2
  rw [List.getElem?_set_ne (Ne.symm nj)] at h1 h2
  exact s.own j p e h1 h2
structure EndsOk (K : PySem.W.Frag) (F0 H0 G : Hp) (N : DN) (Dn : Ends) : Prop where
  nx : ∀ σ H ρ, StOk K F0 H0 G σ H ρ → N.nx ρ → Dn.nx σ H
  rt : ∀ v H' F' d, Ext F0 H0 F' H' → Rp K F' v d → N.rt d → Dn.rt v H'
  ro : ∀ p d H' F', Ext F0 H0 F' H' → H0 p = none → F' p = none → OwnAt K F' H' p d → N.ro d → Dn.rt (.ref p) H'
  bk : ∀ σ H ρ, StOk K F0 H0 G σ H ρ → N.bk ρ → Dn.bk σ H
  ct : ∀ σ H ρ, StOk K F0 H0 G σ H ρ → N.ct ρ → Dn.ct σ H
def lfS (K : PySem.W.Frag) (t : DS) : TS := fun Dn σ H => ∃ F0 H0 G ρ N, StOk K F0 H0 G σ H ρ ∧ t N ρ ∧ EndsOk K F0 H0 G N Dn
abbrev PDS (X : Cx) (st : Stmt) (t : DS) : Prop := PS X st (lfS X.K t)
abbrev PDSs (X : Cx) (st : List Stmt) (t : DS) : Prop := PSs X st (lfS X.K t)

section
variable {X : Cx} {e a b c : Expr} {es : List Expr} {st : Stmt} {sts as bs : List Stmt} {t ta tb tc : DE} {tr : DA} {tA tB : DT} {u v w : DS} {pos : Pos}

def sNext : DS := fun N ρ => N.nx ρ
def sSeq (t u : DS) : DS := fun N ρ => t { N with nx := u N } ρ
theorem pds_nil : PDSs X [] sNext := pss_nil.impD fun N σ H ⟨F0, H0, G, ρ, M, so, ht, k⟩ => k.nx σ H ρ so ht
theorem pds_cons (h1 : PDS X st u) (h2 : PDSs X sts v) : PDSs X (st :: sts) (sSeq u v) := (pss_cons h1 h2).impD fun N σ H ⟨F0, H0, G, ρ, M, so, ht, k⟩ =>
  ⟨F0, H0, G, ρ, _, so, ht, fun σ' H' ρ' so' q => ⟨F0, H0, G, ρ', M, so', q, k⟩, k.rt, k.ro, k.bk, k.ct⟩
theorem pds_one (h1 : PDS X st u) : PDSs X [st] u := pss_one h1
def sBreak : DS := fun N ρ => N.bk ρ
def sCont : DS := fun N ρ => N.ct ρ
def sNever : DS := fun _ _ => False
theorem pds_never : PDS X st sNever := ps_never.impD fun N σ H ⟨F0, H0, G, ρ, M, so, ht, k⟩ => ht.elim
theorem pdss_never : PDSs X sts sNever := pss_never.impD fun N σ H ⟨F0, H0, G, ρ, M, so, ht, k⟩ => ht.elim
theorem Sta.lf {K : PySem.W.Frag} {F0 H0 G F H : Hp} {σ : St} {ρ : List Slot} (s : Sta K F0 H0 G F σ H ρ) {t : DE} {Q0 : D → Prop} (ht : t ρ Q0) {Q : VK} (k : ∀ v H' F' d, Sta K F0 H0 G F' σ H' ρ → Rp K F' v d → Q0 d → Q v H') : lfE K t σ H Q :=
  ⟨ρ, F, Q0, s.ext.sub, s.env, ht, fun v H' F' d x r q => k v H' F' d (s.step x) r q⟩
theorem Sta.lfT {K : PySem.W.Frag} {F0 H0 G F H : Hp} {σ : St} {ρ : List Slot} (s : Sta K F0 H0 G F σ H ρ) {t : DT} {Q0 : Bool → Prop} (ht : t ρ Q0) {Q : Bool → Hp → Prop} (k : ∀ v H' F', Sta K F0 H0 G F' σ H' ρ → Q0 v → Q v H') : DV.lfT K t σ H Q :=
  ⟨ρ, F, Q0, s.ext.sub, s.env, ht, fun v H' F' x q => k v H' F' (s.step x) q⟩
theorem Sta.lfA {K : PySem.W.Frag} {F0 H0 G F H : Hp} {σ : St} {ρ : List Slot} (s : Sta K F0 H0 G F σ H ρ) {t : DA} {Q0 : List D → Prop} (ht : t ρ Q0) {Q : List V → Hp → Prop} (k : ∀ v H' F' d, Sta K F0 H0 G F' σ H' ρ → RpA K F' v d → Q0 d → Q v H') : DV.lfA K t σ H Q :=
  ⟨ρ, F, Q0, s.ext.sub, s.env, ht, fun v H' F' d x r q => k v H' F' d (s.step x) r q⟩
def sDrop (t : DE) : DS := fun N ρ => t ρ fun _ => N.nx ρ
theorem pds_expr (he : PD X e t) (hs : swapsWith e none pos.line X.env = pure false := by rfl) : PDS X (.Expr e pos) (sDrop t) := (ps_expr he hs).impD fun N σ H ⟨F0, H0, G, ρ, M, ⟨F, so⟩, ht, k⟩ =>
  so.lf ht fun v H' F' d so' _ q => k.nx σ H' ρ ⟨F', so'⟩ q
def sRet (t : DE) : DS := fun N ρ => t ρ N.rt
theorem pds_ret (he : PD X e t) : PDS X (.Return (some e) pos) (sRet t) := (ps_ret he).impD fun N σ H ⟨F0, H0, G, ρ, M, ⟨F, so⟩, ht, k⟩ =>
  so.lf ht fun v H' F' d so' r q => k.rt v H' F' d so'.ext r q
def sRetN : DS := fun N _ => N.rt .non
def sIf (c : DT) (t u : DS) : DS := fun N ρ => c ρ fun b => if b = true then t N ρ else u N ρ
theorem pds_if (hc : PDT X c tA) (ha : PDSs X as u) (hb : PDSs X bs v) : PDS X (.If c as bs pos) (sIf tA u v) := (ps_if hc ha hb).impD fun N σ H ⟨F0, H0, G, ρ, M, ⟨F, so⟩, ht, k⟩ =>
  so.lfT ht fun b H' F' so' q => by
    cases b with
    | true => exact iteT ⟨F0, H0, G, ρ, M, ⟨F', so'⟩, q, k⟩
    | false => exact iteF ⟨F0, H0, G, ρ, M, ⟨F', so'⟩, q, k⟩

/-! ### targets -/
abbrev DG := D → List Slot → (List Slot → Prop) → Prop
/-- g over the heap, g' over data; vs: the slots that it may store -/
def RelG (K : PySem.W.Frag) (vs : List Nat) (g : TG) (g' : DG) : Prop := ∀ (F0 H0 G F H : Hp) (σ : St) (ρ : List Slot) (x : V) (d : D) (Q0 : List Slot → Prop) (Q : St → Hp → Prop), Sta K F0 H0 G F σ H ρ → Rp K F x d → g' d ρ Q0 →
  (∀ σ' ρ', Sta K F0 H0 G F σ' H ρ' → wipe σ' vs = wipe σ vs → Q0 ρ' → Q σ' H) → g x σ H Q
def gN (i : Nat) : DG := fun d ρ Q => Q (ρ.set i (.v d))
def gsNil : List D → List Slot → (List Slot → Prop) → Prop := fun ds ρ Q => ds = [] ∧ Q ρ
def gsCons (g : DG) (gs : List D → List Slot → (List Slot → Prop) → Prop) : List D → List Slot → (List Slot → Prop) → Prop := fun ds ρ Q => match ds with
  | [] => False
  | d :: r => g d ρ fun ρ' => gs r ρ' Q
def gT (n : Nat) (gs : List D → List Slot → (List Slot → Prop) → Prop) : DG := fun d ρ Q => match d with
  | .tup ds => ds.length = n ∧ gs ds ρ Q
  | _ => False
theorem wipe_at : ∀ {vs : List Nat} {σ : St} {i : Nat} {x : Option V}, i ∈ vs → wipe (σ.set i x) vs = wipe σ vs
  | [], _, _, _, h => by cases h
  | v :: r, σ, i, x, h => by
    have comm : ∀ (r : List Nat) (σ : St) (i : Nat) (x : Option V), i ∉ r → wipe (σ.set i x) r = (wipe σ r).set i x := by
      intro r
      induction r with
      | nil => intro σ i x _; rfl
      | cons w q ih =>
        intro σ i x hn
        show (wipe (σ.set i x) q).set w none = ((wipe σ q).set w none).set i x
        rw [ih σ i x (fun z => hn (List.mem_cons_of_mem _ z)), List.set_comm _ _ (fun z => hn (by rw [z]; exact List.mem_cons_self))]
    show (wipe (σ.set i x) r).set v none = (wipe σ r).set v none
    by_cases hr : i ∈ r
    · rw [wipe_at hr]
    · have e : i = v := (List.mem_cons.mp h).resolve_right hr
      subst e
      rw [comm r σ i x hr, List.set_set]
theorem rg_nm {K : PySem.W.Frag} {vs : List Nat} {i : Nat} (h : i ∈ vs) : RelG K vs (gName i) (gN i) := fun F0 H0 G F H σ ρ x d Q0 Q s r q k => k _ _ (s.set i r) (wipe_at h) q
def sAsg (t : DE) (g : DG) : DS := fun N ρ => t ρ fun d => g d ρ N.nx
def sSet (i : Nat) (t : DE) : DS := fun N ρ => t ρ fun d => N.nx (ρ.set i (.v d))
theorem pds_set {i : Nat} {x : Str} {pos' : Pos} (hN : X.N.Nodup) (hi : X.N[i]? = some x) (hx : Loc X.env.scope x) (he : PD X e t) (hs : swapsWith e (some (.Name x pos')) pos.line X.env = pure false := by rfl)
    (hf : X.fn x = true ∨ X.env.scope.names.lookup x = some .local := by first | exact .inl rfl | exact .inr rfl | assumption) : PDS X (.Assign [.Name x pos'] e pos) (sSet i t) := (ps_set hN hi hx he hs hf).impD fun N σ H ⟨F0, H0, G, ρ, M, ⟨F, so⟩, ht, k⟩ =>
  so.lf ht fun v H' F' d so' r q => k.nx _ H' _ ⟨F', so'.set i r⟩ q
def sPar (i j : Nat) (t : DA) : DS := fun N ρ => t ρ fun ds => match ds with
  | [d, e] => N.nx ((ρ.set i (.v d)).set j (.v e))
  | _ => False
def sPar3 (i j l : Nat) (t : DA) : DS := fun N ρ => t ρ fun ds => match ds with
  | [d, e, f] => N.nx (((ρ.set i (.v d)).set j (.v e)).set l (.v f))
  | _ => False
/-! ### what is walked -/
abbrev DI := List Slot → (List D → Prop) → Prop
def ItOk (K : PySem.W.Frag) (J : It) (F : Hp) (ds : List D) : Prop := ∀ F' H', Same F F' → Sub F' H' → ∀ i,
  (i < ds.length → J.go i H' ∧ ∀ x H'', J.yld i H' x H'' → ∃ F'' d, Ext F' H' F'' H'' ∧ ds[i]? = some d ∧ Rp K F'' x d) ∧ (ds.length ≤ i → J.stop i H')
def lfI (K : PySem.W.Frag) (t : DI) : TI := fun σ H R => ∃ ρ F Q0, Sub F H ∧ EnvOk K F H σ ρ ∧ t ρ Q0 ∧ ∀ J H' F' ds, Ext F H F' H' → ItOk K J F' ds → Q0 ds → R J H'
abbrev PDI (X : Cx) (tg e : Expr) (t : DI) : Prop := PI X tg e (lfI X.K t)
theorem _root_.L2.PI.impD {tg e : Expr} {t t' : TI} (h : PI X tg e t) (i : ∀ σ H Q, t' σ H Q → t σ H Q) : PI X tg e t' := ⟨fun p s σ H Q I q => h.run p s σ H Q I (i _ _ _ q)⟩
theorem it_seq {K : PySem.W.Frag} {J : It} {F : Hp} {ds : List D} {xs : List V} {Sq : Hp → List V → Prop} (ra : RpA K F xs ds) (hS : ∀ F' H', Same F F' → Sub F' H' → Sq H' xs) (hg : ∀ i H, (∃ ys y, Sq H ys ∧ ys[i]? = some y) → J.go i H)
    (hy : ∀ i H x H', J.yld i H x H' → H' = H ∧ ∀ ys, Sq H ys → ys[i]? = some x) (hs : ∀ i H, (∃ ys, Sq H ys ∧ ys.length ≤ i) → J.stop i H) : ItOk K J F ds := fun F' H' m s' i => by
  refine ⟨fun hi => ?_, fun hi => hs _ _ ⟨xs, hS _ _ m s', by rw [ra.length]; exact hi⟩⟩
  have hl : i < xs.length := by rw [ra.length]; exact hi
  refine ⟨hg _ _ ⟨xs, _, hS _ _ m s', List.getElem?_eq_getElem hl⟩, fun x H'' hyy => ?_⟩
  obtain ⟨e1, e2⟩ := hy _ _ _ _ hyy
  obtain ⟨v, ev, rv⟩ := ra.get (List.getElem?_eq_getElem hi)
  have ex := e2 xs (hS _ _ m s')
  rw [ev] at ex; cases ex
  subst e1
  exact ⟨F', _, .refl s', List.getElem?_eq_getElem hi, rv.mono m⟩
theorem pi_seq {tg l : Expr} {tl : TE} (hl : PE X l tl) : PI X tg l (fun σ H R => tl σ H fun x H1 => ∃ a, x = .ref a ∧ (((∃ xs, SqL X.K H1 a xs) ∧ R (Itl X.K a) H1) ∨ ((∃ xs, SqT X.K H1 a xs) ∧ R (Itt X.K a) H1))) := by
  refine ⟨fun pins s σ H R I h => ?_⟩
  refine thn (hl.run pins s σ H _ I h) fun v s1 ⟨x, H1, I1, r1, q1⟩ => ?_
  obtain ⟨a, e, q1⟩ := q1
  subst e
  cases r1
  rcases q1 with ⟨⟨xs, hq⟩, q⟩ | ⟨⟨xs, hq⟩, q⟩
  · obtain ⟨its, rv, p, hz⟩ := I1.list hq
    refine wpAny_pyIter_list p.isList ?_
    refine ⟨s1.heap.objs.size, [s1.heap.objs.size], _, _, H1, rfl, I1.kept (t' := s1.toks) fun b o e => Heap.get?_push_of_some _ e, turn_list a _, ⟨_, Heap.get?_push_size _ rfl, rfl, rfl⟩, fun b hb => ?_, q⟩
    have e : b = s1.heap.objs.size := by simpa using hb
    subst e
    exact I1.fpOk (Nat.le_refl _) (I1.hok.fresh (Nat.le_refl _))
  · obtain ⟨its, rv, p, hz⟩ := I1.tuple hq
    refine wpAny_pyIter_tuple (show s1.heap.IsTuple a its.toArray from p) ?_
    refine ⟨s1.heap.objs.size, [s1.heap.objs.size], _, _, H1, rfl, I1.kept (t' := s1.toks) fun b o e => Heap.get?_push_of_some _ e, turn_tuple a _, ⟨_, Heap.get?_push_size _ rfl, rfl, rfl⟩, fun b hb => ?_, q⟩
    have e : b = s1.heap.objs.size := by simpa using hb
    subst e
    exact I1.fpOk (Nat.le_refl _) (I1.hok.fresh (Nat.le_refl _))
def iSeq (t : DE) : DI := fun ρ Q => t ρ fun d => match d with
  | .lst ds => Q ds
  | .tup ds => Q ds
  | _ => False
theorem pdi_seq {tg : Expr} (h : PD X e t) : PDI X tg e (iSeq t) := PI.impD (pi_seq h) fun σ H R ⟨ρ, F, Q0, s, en, ht, k⟩ =>
  ⟨ρ, F, _, s, en, ht, fun v H1 F1 d x1 r q => by
    cases d <;> first | exact q.elim | skip
    · cases r with
      | tup h1 ra => exact ⟨_, rfl, .inr ⟨⟨_, x1.sub.seqT h1⟩, k _ H1 F1 _ x1 (it_seq (Sq := fun H ys => SqT X.K H _ ys) ra (fun F' H' m s' => s'.seqT (SqT.same m h1)) (fun _ _ z => z) (fun _ _ _ _ z => z) (fun _ _ z => z)) q⟩⟩
    · cases r with
      | lst h1 ra => exact ⟨_, rfl, .inl ⟨⟨_, .of (x1.sub.lst h1)⟩, k _ H1 F1 _ x1 (it_seq (Sq := fun H ys => SqL X.K H _ ys) ra (fun F' H' m s' => .of (s'.lst (m _ _ h1))) (fun _ _ z => z) (fun _ _ _ _ z => z) (fun _ _ z => z)) q⟩⟩⟩
def rngD (lo : Int) (n : Nat) : List D := (List.range n).map fun (k : Nat) => D.int (lo + (k : Int))
theorem it_rng {K : PySem.W.Frag} {F : Hp} {lo : Int} {n : Nat} : ItOk K (Itr lo n) F (rngD lo n) := fun F' H' m s i => by
  have hl : (rngD lo n).length = n := by simp [rngD]
  rw [hl]
  refine ⟨fun hi => ⟨hi, fun x H'' hy => ?_⟩, fun hi => hi⟩
  obtain ⟨rfl, rfl⟩ := hy
  exact ⟨F', _, .refl s, by simp [rngD, hi], .int _⟩
def iRng1D (t : DA) : DI := fun ρ Q => t ρ fun ds => match ds with
  | [.int j] => (-(2 ^ 62) ≤ j ∧ j < 2 ^ 62) ∧ Q (rngD 0 j.toNat)
  | _ => False
def iRng2D (t : DA) : DI := fun ρ Q => t ρ fun ds => match ds with
  | [.int i, .int j] => (-(2 ^ 62) ≤ i ∧ i < 2 ^ 62 ∧ -(2 ^ 62) ≤ j ∧ j < 2 ^ 62) ∧ Q (rngD i (j - i).toNat)
  | _ => False
theorem pdi_range1 {tg : Expr} {p : Pos} (hm : X.mg "range" = none) (ha : PDA X [a] tr) (hg : Gl X "range" := by rfl) (hs : starEach [a] X.env = [(false, eval a X.env)] := by rfl) : PDI X tg (.Call (.Name "range" p) [a] [] pos) (iRng1D tr) := PI.impD (pi_range1 hg hm ha hs) fun σ H R ⟨ρ, F, Q0, s, en, ht, k⟩ =>
  ⟨ρ, F, _, s, en, ht, fun vs H1 F1 ds x1 r q => by
    cases r with
    | nil => exact q.elim
    | cons r1 r2 =>
      cases r2 with
      | cons _ _ => cases r1 <;> exact q.elim
      | nil =>
        cases r1 <;> first | exact q.elim | skip
        exact ⟨_, rfl, q.1.1, q.1.2, k _ H1 F1 _ x1 it_rng q.2⟩⟩
/-- for over data -/
def forD (g : DG) (b : DS) (N : DN) : List D → List Slot → Prop
  | [], ρ => N.nx ρ
  | d :: ds, ρ => g d ρ fun ρ' => b { N with nx := forD g b N ds, ct := forD g b N ds, bk := N.nx } ρ'
def sFor (it : DI) (g : DG) (b : DS) : DS := fun N ρ => it ρ fun ds => forD g b N ds ρ
theorem drop_cons {α : Type} : ∀ {l : List α} {i : Nat} {d : α}, l[i]? = some d → l.drop i = d :: l.drop (i + 1)
  | [], i, d, h => by simp at h
  | a :: l, 0, d, h => by simp at h; subst h; rfl
  | a :: l, i + 1, d, h => by
    have := drop_cons (l := l) (i := i) (d := d) (by simpa using h)
    simpa using this
theorem Sta.pinned {K : PySem.W.Frag} {F0 H0 G F H : Hp} {σ : St} {ρ : List Slot} (s : Sta K F0 H0 G F σ H ρ) {G' : Hp} (h : Same G' F) : Sta K F0 H0 G' F σ H ρ := ⟨s.bse, h, s.ext, s.env, s.own⟩
theorem pds_for {iter tg : Expr} {body : List Stmt} {it : DI} {g : TG} {g' : DG} {vs : List Nat} (hG : RelG X.K vs g g') (hp : PassesOwn (model X.prog X.w) X.A X.env X.xe) (hc : X.calm = true) (hi : PDI X tg iter it) (hg : PG X tg g) (hb : PDSs X body u)
    (hs : ∀ x, foldedSetIterable iter X.env x = pure x := by intro _; rfl) : PDS X (.For tg iter body [] pos) (sFor it g' u) := (ps_for hp hc hi hg hb hs).impD fun N σ H ⟨F0, H0, G, ρ, M, ⟨F, so⟩, ht, k⟩ => by
  refine ⟨ρ, F, _, so.ext.sub, so.env, ht, fun J H1 F1 ds x1 io q => ?_⟩
  have g1 : Same G F1 := so.pin.trans x1.mono
  refine ⟨fun i m σ' H' => m = ds.length - i ∧ i ≤ ds.length ∧ ∃ ρ', StOk X.K F0 H0 F1 σ' H' ρ' ∧ forD g' u M (ds.drop i) ρ', ⟨ds.length, rfl, Nat.zero_le _, ρ, ⟨F1, (so.step x1).pinned (Same.refl _)⟩, q⟩, fun i m σ' H' hW => ?_⟩
  obtain ⟨rfl, hle, ρ', ⟨F', so'⟩, q'⟩ := hW
  obtain ⟨h1, h2⟩ := io F' H' so'.pin so'.ext.sub i
  have out : ∀ {σ2 H2 ρ2}, StOk X.K F0 H0 F1 σ2 H2 ρ2 → StOk X.K F0 H0 G σ2 H2 ρ2 := fun ⟨F2, s2⟩ => ⟨F2, s2.pinned (g1.trans s2.pin)⟩
  by_cases hi : i < ds.length
  · obtain ⟨go, hy⟩ := h1 hi
    refine .inr ⟨go, fun σ2 H2 => ∃ ρ2, StOk X.K F0 H0 F1 σ2 H2 ρ2 ∧ forD g' u M (ds.drop (i + 1)) ρ2, fun σ2 H2 ⟨ρ2, s2, q2⟩ => ⟨ds.length - (i + 1), by omega, rfl, hi, ρ2, s2, q2⟩, fun x H2 hyx => ?_⟩
    obtain ⟨F2, d, x2, ed, rd⟩ := hy x H2 hyx
    rw [drop_cons ed] at q'
    have so2 := so'.step x2
    refine hG _ _ _ _ _ _ _ _ _ _ _ so2 rd q' fun σ3 ρ3 s3 _ q3 => ?_
    exact ⟨F0, H0, F1, ρ3, _, ⟨F2, s3⟩, q3, fun σ4 H4 ρ4 s4 q4 => ⟨ρ4, s4, q4⟩, k.rt, k.ro, fun σ4 H4 ρ4 s4 q4 => k.nx _ _ _ (out s4) q4, fun σ4 H4 ρ4 s4 q4 => ⟨ρ4, s4, q4⟩⟩
  · exact .inl ⟨h2 (by omega), by
      have e : ds.drop i = [] := List.drop_eq_nil_of_le (by omega)
      rw [e] at q'
      exact k.nx _ _ _ (out ⟨F', so'⟩) q'⟩
def sWhile (c : DT) (b : DS) : DS := fun N ρ => ∃ I : Nat → List Slot → Prop, (∃ m, I m ρ) ∧ ∀ m ρ, I m ρ → c ρ fun k =>
  if k = true then b { N with nx := fun ρ' => ∃ m', m' < m ∧ I m' ρ', ct := fun ρ' => ∃ m', m' < m ∧ I m' ρ', bk := N.nx } ρ else N.nx ρ
/-! ### lists of one's own -/
/-- x = [..], x to grow -/
def sOwn (i : Nat) (t : DA) : DS := fun N ρ => t ρ fun ds => ds.length ≤ sizeLine ∧ N.nx (ρ.set i (.own (.lst ds)))
/-- x.append(e), x a list of one's own -/
def sAppend (i : Nat) (t : DE) : DS := fun N ρ => match ρ[i]? with
  | some (.own (.lst ds)) => t ρ fun d => ds.length < sizeLine ∧ N.nx (ρ.set i (.own (.lst (ds ++ [d]))))
  | _ => False
end
end DV

namespace DV
open PySem PySem.Spec PyProof.Rows L2

/-! ### defs and their calls -/
def spD (K : PySem.W.Frag) (f : DSp) : Sp := fun vs H Q _ => ∃ F ds Q0, Sub F H ∧ RpA K F vs ds ∧ f ds Q0 ∧ ∀ v H' F' d, Ext F H F' H' → Rp K F' v d → Q0 d → Q v H'
def isLst : D → Bool
  | .lst _ => true
  | _ => false
def roL (Q : D → Prop) (d : D) : Prop := isLst d = true ∧ Q d
/-- a def of m parameters, n names -/
def fnD (n m : Nat) (t : DS) : DSp := fun ds Q => ds.length = m ∧ t ⟨fun _ => Q .non, Q, fun _ => False, fun _ => False, roL Q⟩ (ds.map Slot.v ++ List.replicate (n - m) Slot.un)
theorem env_start {K : PySem.W.Frag} {F H : Hp} {N : List Str} {vs : List V} {ds : List D} (r : RpA K F vs ds) : EnvOk K F H (L2.start N vs) (ds.map Slot.v ++ List.replicate (N.length - ds.length) Slot.un) := by
  have hl := r.length
  have get : ∀ (i : Nat) s, (ds.map Slot.v ++ List.replicate (N.length - ds.length) Slot.un)[i]? = some s → (∃ d, ds[i]? = some d ∧ s = .v d) ∨ s = .un := fun i s e => by
    by_cases hi : i < ds.length
    · rw [List.getElem?_append_left (by simpa using hi), List.getElem?_map] at e
      obtain ⟨d, e1, e2⟩ := Option.map_eq_some_iff.mp e
      exact .inl ⟨d, e1, e2.symm⟩
    · rw [List.getElem?_append_right (by simp; omega)] at e
      exact .inr (List.mem_replicate.mp (List.mem_of_getElem? e)).2
  refine ⟨by simp [L2.start, hl], fun i s e => ?_, fun i j p d e hij h1 h2 h3 h4 => ?_⟩
  · have hi : i < (L2.start N vs).length := by
      have := (List.getElem?_eq_some_iff.mp e).1
      simp [L2.start] at this ⊢
      omega
    refine ⟨_, List.getElem?_eq_getElem hi, ?_⟩
    rcases get i s e with ⟨d, e1, rfl⟩ | rfl
    · obtain ⟨v, e2, r1⟩ := r.get e1
      refine ⟨v, ?_, r1⟩
      have hv : i < vs.length := (List.getElem?_eq_some_iff.mp e2).1
      have e3 : (L2.start N vs)[i]? = some (some v) := by
        unfold L2.start
        rw [List.getElem?_append_left (by simpa using hv), List.getElem?_map, e2]
        rfl
      rw [List.getElem?_eq_getElem hi] at e3
      exact Option.some.inj e3
    · trivial
  · rcases get i _ h2 with ⟨d', _, z⟩ | z <;> cases z
section
variable {P : Program} {w : World} {K : PySem.W.Frag} {mg : Str → Option Value} {base : Heap}
theorem fn_okD {x qual : Str} {params : Arguments} {body : List Stmt} {scope : Scope} {dvs : List V} {kws : List (Str × V)} {f : Addr} {fd : FuncData} {N ps : List Str} {k : Nat} {t : DS}
    (F : FunD K x qual params body scope dvs kws f fd) (S : FnScope N ps scope)
    (hb : ∀ (cdv : Value) (A : Around) (outer : List Env) (s : Shared) (H : Hp) (E : XK), Room k (A.deeper (envOfC qual scope s.heap.objs.size f cdv)) → PDSs (cxOf CX0 P w K mg base N qual scope f cdv A outer s H E).nox body t) :
    FnOk P w K mg base CX0 (k + 1) f fd ps (spD K (fnD N.length ps.length t)) := by
  refine F.ok S (fun vs H Q E h => ?_) (fun cdv A outer s H vs Q E hr h => ⟨_, PSs.nox (hb cdv A outer s H E hr), ?_⟩)
  · obtain ⟨F, ds, Q0, _, r, h, _⟩ := h
    rw [r.length]; exact h.1
  · obtain ⟨F, ds, Q0, sb, r, h, q⟩ := h
    have en : EnvOk K F H (L2.start N vs) (ds.map Slot.v ++ List.replicate (N.length - ds.length) Slot.un) := env_start r
    rw [h.1] at en
    refine ⟨F, H, F, _, _, ⟨F, ⟨sb, Same.refl F, .refl sb, en, fun i p d h1 h2 => ?_⟩⟩, h.2, ⟨fun σ' H' ρ' ⟨F', s'⟩ z => q .non H' F' .non s'.ext .non z, fun v H' F' d x r z => q v H' F' d x r z, fun p d H' F' x h0 hF o z => (by
      cases d <;> first | (simp [roL, isLst] at z; done) | skip
      obtain ⟨xs, hp, r⟩ := o
      exact q (.ref p) H' (upd F' p (.lst xs)) _ (x.adopt h0 hF hp) (.lst upd_same (r.mono fun b o e => by rw [upd_ne (ne_of_none e hF)]; exact e)) z.2), fun _ _ _ _ z => z.elim, fun _ _ _ _ z => z.elim⟩⟩
    have hm := List.mem_of_getElem? h2
    rcases List.mem_append.mp hm with z | z
    · obtain ⟨d', _, z⟩ := List.mem_map.mp z
      cases z
    · cases (List.mem_replicate.mp z).2
end
/-- a def of the module as its callers see it: dd its defaults that are left to it -/
def Gd (P : Program) (w : World) (K : PySem.W.Frag) (mg : Str → Option Value) (base : Heap) (nm : Str) (k : Nat) (dd : List D) (f : DSp) : Prop :=
  ∃ (a : Addr) (fd : FuncData) (ps : List Str) (ds : List Value) (dvs : List V), mg nm = some (.ref a) ∧ PySem.W.keepIn K (.ref a) = true ∧ FnOk P w K mg base CX0 k a fd ps (spD K f) ∧ Binds K fd ps ds ∧ Vals dvs ds ∧ ∀ F, RpA K F dvs dd
section
variable {X : Cx} {e a b c : Expr} {es : List Expr} {t ta tb tc : DE} {tr : DA} {pos p : Pos} {nm : Str} {k : Nat} {dd : List D} {f : DSp}
def dCall (f : DSp) (dd : List D) (tr : DA) : DE := fun ρ Q => tr ρ fun ds => f (ds ++ dd) Q
theorem pd_call (G : Gd X.prog X.w X.K X.mg X.base nm k dd f) (hr : Room k X.A) (ha : PDA X (e :: es) tr) (hg : Gl X nm := by rfl) (hdb : (nm == ("__debug__" : Str)) = false := by decide)
    (he : starEach (e :: es) X.env = (false, eval e X.env) :: starEach es X.env := by rfl) (hpl : (backTo pos (starEach es X.env)).any (·.1) = false := by rfl) : PD X (.Call (.Name nm p) (e :: es) [] pos) (dCall f dd tr) := by
  obtain ⟨a, fd, ps, ds, dvs, hm, hk, F, hb, hd, hdd⟩ := G
  refine (pe_call F hr hg hm hk hb hd pass0 ha hdb he hpl).impD fun σ H Q ⟨ρ, F, Q0, s, en, ht, k⟩ => ⟨ρ, F, _, s, en, ht, fun vs H1 F1 ds x1 r q => ?_⟩
  exact ⟨F1, _, Q0, x1.sub, r.append (hdd F1), q, fun v H' F' d x2 r2 q2 => k v H' F' d (x1.trans x2) r2 q2⟩

/-! ### built-in functions -/
abbrev DF := List D → (D → Prop) → Prop
def CallD (K : PySem.W.Frag) (r : List V → Hp → VK → Prop) (g : DF) : Prop := ∀ (F H : Hp) (xs : List V) (ds : List D) (Q0 : D → Prop) (Q : VK), Sub F H → RpA K F xs ds → g ds Q0 → (∀ v H' F' d, Ext F H F' H' → Rp K F' v d → Q0 d → Q v H') → r xs H Q
def dB (g : DF) (tr : DA) : DE := fun ρ Q => tr ρ fun ds => g ds Q
theorem lf_cb {K : PySem.W.Frag} {r : List V → Hp → VK → Prop} {g : DF} (h : CallD K r g) : ∀ σ H Q, lfE K (dB g tr) σ H Q → tCB r (lfA K tr) σ H Q := fun σ H Q ⟨ρ, F, Q0, s, en, ht, k⟩ =>
  ⟨ρ, F, _, s, en, ht, fun vs H1 F1 ds x1 r q => h F1 H1 vs ds Q0 Q x1.sub r q fun v H' F' d x2 r2 q2 => k v H' F' d (x1.trans x2) r2 q2⟩
theorem pd_cb {id : String} {r : List V → Hp → VK → Prop} {g : DF} (hc : CallR X (.builtin id) r) (h : CallD X.K r g) (hm : X.mg nm = none) (hv : bootBuiltins nm = some (.builtin id)) (ha : PDA X (e :: es) tr) (hg : Gl X nm := by rfl) (hn : nm ≠ "__name__" := by decide) (hdb : (nm == ("__debug__" : Str)) = false := by decide)
    (he : starEach (e :: es) X.env = (false, eval e X.env) :: starEach es X.env := by rfl) (hpl : (backTo pos (starEach es X.env)).any (·.1) = false := by rfl) : PD X (.Call (.Name nm p) (e :: es) [] pos) (dB g tr) := by
  refine PE.impD (t := tCB r (lfA X.K tr)) ?_ (lf_cb h)
  exact pe_callB hc hg hm hv ha hn hdb he hpl
theorem pd_ct {T : String} {r : List V → Hp → VK → Prop} {g : DF} (hc : CallR X (.type T) r) (h : CallD X.K r g) (hm : X.mg nm = none) (hv : bootBuiltins nm = some (.type T)) (ha : PDA X (e :: es) tr) (hg : Gl X nm := by rfl) (hn : nm ≠ "__name__" := by decide) (hdb : (nm == ("__debug__" : Str)) = false := by decide)
    (he : starEach (e :: es) X.env = (false, eval e X.env) :: starEach es X.env := by rfl) (hpl : (backTo pos (starEach es X.env)).any (·.1) = false := by rfl) : PD X (.Call (.Name nm p) (e :: es) [] pos) (dB g tr) := by
  refine PE.impD (t := tCB r (lfA X.K tr)) ?_ (lf_cb h)
  exact pe_callTy hc hg hm hv ha hn hdb he hpl
def absD : DF
  | [.int i], Q => Q (.int (if i < 0 then -i else i))
  | _, _ => False
def intC : DF
  | [.int i], Q => Q (.int i)
  | [.bl b], Q => Q (.int (if b then 1 else 0))
  | _, _ => False
def lenD : DF
  | [.lst ds], Q => Q (.int ds.length)
  | [.tup ds], Q => Q (.int ds.length)
  | [.str x], Q => x.length ≤ sizeLine ∧ Q (.int x.length)
  | _, _ => False
theorem cd_len {K : PySem.W.Frag} : CallD K (fun xs H Q => ∃ x n, xs = [x] ∧ LenV K x H n ∧ Q (.int n) H) lenD := fun F H xs ds Q0 Q s r q k => by
  cases r with
  | nil => exact q.elim
  | cons r1 r2 => cases r2 with
    | cons _ _ => cases r1 <;> exact q.elim
    | nil =>
      cases r1 <;> first | exact q.elim | skip
      · exact ⟨_, _, rfl, ⟨q.1, rfl⟩, k _ H F _ (.refl s) (.int _) q.2⟩
      · rename_i h ra
        refine ⟨_, _, rfl, .inr ⟨_, s.seqT h, rfl⟩, ?_⟩
        rw [ra.length]
        exact k _ H F _ (.refl s) (.int _) q
      · rename_i h ra
        refine ⟨_, _, rfl, .inl ⟨_, .of (s.lst h), rfl⟩, ?_⟩
        rw [ra.length]
        exact k _ H F _ (.refl s) (.int _) q
def max2D : DF
  | [.int i, .int j], Q => Q (.int (if j > i then j else i))
  | _, _ => False
def min2D : DF
  | [.int i, .int j], Q => Q (.int (if j < i then j else i))
  | _, _ => False
def listD : DF
  | [.lst ds], Q => Q (.lst ds)
  | [.tup ds], Q => Q (.lst ds)
  | _, _ => False
def tupleD : DF
  | [.lst ds], Q => Q (.tup ds)
  | [.tup ds], Q => Q (.tup ds)
  | _, _ => False
theorem cd_tuple {K : PySem.W.Frag} : CallD K (fun xs H Q => ∃ p ys, xs = [.ref p] ∧ ((SqL K H p ys ∧ ∀ l, H l = none → Q (.ref l) (upd H l (.tup ys))) ∨ (SqT K H p ys ∧ Q (.ref p) H))) tupleD := fun F H xs ds Q0 Q s r q k => by
  rcases r with _ | ⟨r1, _ | ⟨_, _⟩⟩ <;> first | exact q.elim | (cases r1 <;> exact q.elim) | skip
  cases r1 <;> first | exact q.elim | skip
  · rename_i h ra
    exact ⟨_, _, rfl, .inr ⟨s.seqT h, k _ H F _ (.refl s) (.tup h ra) q⟩⟩
  · rename_i h ra
    refine ⟨_, _, rfl, .inl ⟨.of (s.lst h), fun l hl => ?_⟩⟩
    exact k _ _ _ _ (Ext.newT s hl) (.tup (.inl (.inl upd_same)) (ra.mono (Ext.newT s hl).mono)) q
def isT : D → Bool
  | .bl b => b
  | _ => false
def isB : D → Bool
  | .bl _ => true
  | _ => false
theorem bools_of {K : PySem.W.Frag} {F : Hp} : ∀ {vs : List V} {ds : List D}, RpA K F vs ds → ds.all isB = true → vs = (ds.map isT).map V.bl
  | _, _, .nil, _ => rfl
  | _, _, .cons h r, q => by
    simp only [List.all_cons, Bool.and_eq_true] at q
    have ih := bools_of r q.2
    cases h <;> first | (rw [ih]; rfl) | (exact absurd q.1 (by simp [isB]))
def allD : DF
  | [.lst ds], Q => ds.all isB = true ∧ Q (.bl (ds.all isT))
  | _, _ => False
def anyD : DF
  | [.lst ds], Q => ds.all isB = true ∧ Q (.bl (ds.any isT))
  | _, _ => False
theorem cd_all {K : PySem.W.Frag} : CallD K (rAll K) allD := fun F H xs ds Q0 Q s r q k => by
  rcases r with _ | ⟨r1, _ | ⟨_, _⟩⟩ <;> first | exact q.elim | (cases r1 <;> exact q.elim) | skip
  cases r1 <;> first | exact q.elim | skip
  rename_i h ra
  have e := bools_of ra q.1
  refine ⟨_, _, rfl, .of (by rw [s.lst h, e]), ?_⟩
  rw [List.all_map]
  exact k _ H F _ (.refl s) (.bl _) q.2
/-! ### items, slices -/
def ixD : D2 := fun x y Q => match x, y with
  | .tup ds, .int i => (match atI ds i with
    | some d => Q d
    | none => False)
  | .lst ds, .int i => (match atI ds i with
    | some d => Q d
    | none => False)
  | _, _ => False
theorem RpA.atI {K : PySem.W.Frag} {F : Hp} {xs : List V} {ds : List D} {i : Int} {d : D} (r : RpA K F xs ds) (h : L2.atI ds i = some d) : ∃ v, L2.atI xs i = some v ∧ Rp K F v d := by
  unfold L2.atI at h ⊢
  rw [r.length]
  cases e : ixN ds.length i with
  | none => rw [e] at h; cases h
  | some j =>
    rw [e] at h
    exact r.get h
theorem od_ix {K : PySem.W.Frag} : OpD K (fun x y H Q => rIxL K x y H Q ∨ rIxT K x y H Q) ixD := fun F H x y dx dy Q0 Q s rx ry q k => by
  cases rx <;> cases ry <;> first | exact q.elim | skip
  · rename_i ds h ra i
    have q' : (match L2.atI ds i with
      | some d => Q0 d
      | none => False) := q
    cases e : L2.atI ds i with
    | none => rw [e] at q'; exact q'.elim
    | some d =>
      rw [e] at q'
      obtain ⟨v, ev, rv⟩ := ra.atI e
      exact .inr ⟨_, _, _, _, rfl, rfl, s.seqT h, ev, k _ H F _ (.refl s) rv q'⟩
  · rename_i ds h ra i
    have q' : (match L2.atI ds i with
      | some d => Q0 d
      | none => False) := q
    cases e : L2.atI ds i with
    | none => rw [e] at q'; exact q'.elim
    | some d =>
      rw [e] at q'
      obtain ⟨v, ev, rv⟩ := ra.atI e
      exact .inl ⟨_, _, _, _, rfl, rfl, .of (s.lst h), ev, k _ H F _ (.refl s) rv q'⟩
theorem pd_item (ha : PD X a ta) (hb : PD X b tb) (hs : PlainIx b := by exact fun _ _ => rfl) : PD X (.Subscript a b pos) (dOp ixD ta tb) := pd_ix (ix_list.or ix_tup) od_ix ha hb hs
/-- a part of a slice -/
abbrev DO := List Slot → (Option Int → Prop) → Prop
def lfO (K : PySem.W.Frag) (t : DO) : TO := fun σ H Q => ∃ ρ F Q0, Sub F H ∧ EnvOk K F H σ ρ ∧ t ρ Q0 ∧ ∀ o H' F', Ext F H F' H' → Q0 o → Q o H'
def PDO (X : Cx) (o : Option Expr) (t : DO) : Prop := PO X o (lfO X.K t)
theorem _root_.L2.PO.impD {o : Option Expr} {t t' : TO} (h : PO X o t) (i : ∀ σ H Q, t' σ H Q → t σ H Q) : PO X o t' := ⟨fun p s σ H Q I q => h.run p s σ H Q I (i _ _ _ q)⟩
def dNo : DO := fun _ Q => Q none
def dPart (t : DE) : DO := fun ρ Q => t ρ fun d => match d with
  | .int i => Q (some i)
  | _ => False
theorem pdo_none : PDO X none dNo := po_none.impD fun σ H Q ⟨ρ, F, Q0, s, en, ht, k⟩ => k _ H F (.refl s) ht
theorem pdo_some (h : PD X e t) : PDO X (some e) (dPart t) := (po_some h).impD fun σ H Q ⟨ρ, F, Q0, s, en, ht, k⟩ => ⟨ρ, F, _, s, en, ht, fun v H1 F1 d x1 r q => by
  cases r <;> first | exact q.elim | skip
  exact ⟨_, rfl, k _ H1 F1 x1 q⟩⟩
def cutD (xs : List D) (lo hi : Option Int) : List D := (xs.drop (HT.sIx xs.length 0 lo)).take (HT.sIx xs.length xs.length hi - HT.sIx xs.length 0 lo)
def slD (x : D) (lo hi : Option Int) (Q : D → Prop) : Prop := match x with
  | .tup ds => ¬ (HT.sIx ds.length 0 lo = 0 ∧ HT.sIx ds.length ds.length hi = ds.length) ∧ Q (.tup (cutD ds lo hi))
  | .lst ds => Q (.lst (cutD ds lo hi))
  | _ => False
def dSl (t : DE) (l h : DO) : DE := fun ρ Q => t ρ fun x => l ρ fun lo => h ρ fun hi => slD x lo hi Q
theorem RpA.cut {K : PySem.W.Frag} {F : Hp} {xs : List V} {ds : List D} (r : RpA K F xs ds) (lo hi : Option Int) : RpA K F (cutV xs lo hi) (cutD ds lo hi) := by
  unfold cutV cutD
  rw [r.length]
  exact (r.drop _).take _
theorem pd_slice {lo hi : Option Expr} {l h : DO} {p2 : Pos} (he : PD X e t) (hl : PDO X lo l) (hh : PDO X hi h) : PD X (.Subscript e (.Slice lo hi none p2) pos) (dSl t l h) := (pe_slice (SlR.or sl_tup sl_list) he hl hh).impD fun σ H Q ⟨ρ, F, Q0, s, en, ht, k⟩ =>
  ⟨ρ, F, _, s, en, ht, fun v H1 F1 d x1 r q => ⟨ρ, F1, _, x1.sub, en.mono x1, q, fun o H2 F2 x2 q2 => ⟨ρ, F2, _, x2.sub, en.mono (x1.trans x2), q2, fun o' H3 F3 x3 q3 => by
    have r3 := r.mono (x2.mono.trans x3.mono)
    have xx := (x1.trans x2).trans x3
    cases r3 <;> first | exact q3.elim | skip
    · rename_i h ra
      refine .inl ⟨_, _, rfl, x3.sub.seqT h, by rw [ra.length]; exact q3.1, fun p hp => ?_⟩
      exact k _ _ _ _ (xx.trans (Ext.newT x3.sub hp)) (.tup (.inl (.inl upd_same)) ((ra.cut o o').mono (Ext.newT x3.sub hp).mono)) q3.2
    · rename_i h ra
      refine .inr ⟨_, _, rfl, .of (x3.sub.lst h), fun p hp => ?_⟩
      exact k _ _ _ _ (xx.trans (Ext.newL x3.sub hp)) (.lst upd_same ((ra.cut o o').mono (Ext.newL x3.sub hp).mono)) q3⟩⟩⟩

/-! ### isinstance of built-in types -/
def tyD : D → String
  | .non => "NoneType" | .bl _ => "bool" | .int _ => "int" | .str _ => "str" | .tup _ => "tuple" | .lst _ => "list" | .dic _ => "dict" | .bag => "list" | .scr => "list"
/-- data whose kind may be asked (dicts with keys that are tuples: not so) -/
def D.tyOk : D → Bool
  | .dic kvs => kvs.all fun p => !p.1.kok
  | _ => true
theorem Rp.tyX {K : PySem.W.Frag} {F H : Hp} (s : Sub F H) {v : V} {d : D} (r : Rp K F v d) (ok : d.tyOk = true) : TyX K H v (.type (tyD d)) := by
  cases r with
  | non => exact .base .non
  | bl b => exact .base (.bl b)
  | int b => exact .base (.int b)
  | str b => exact .base (.str b)
  | lst h _ => exact .base (.lst (s.lst h))
  | dic h _ _ => exact .fDict (s.frz h)
  | dicT h k0 k1 k2 r1 r2 =>
    rename_i ds
    cases ds with
    | nil => exact absurd rfl k0
    | cons p ds =>
      exfalso
      simp only [D.tyOk, List.all_cons, Bool.and_eq_true] at ok
      rw [k2 p List.mem_cons_self] at ok
      exact Bool.false_ne_true ok.1
  | bag h =>
    obtain ⟨_, _, _, _, _, e⟩ := (s _ _ h).bag
    exact .base (.lst e)
  | scr h _ =>
    rcases h with (h | ⟨o, h⟩) | ⟨o, its, n, e, c, _⟩
    · exact .base (.lst (s.lst h))
    · exact .base (.frz (s.frz h))
    · exact .kList e c
  | tup h _ =>
    rcases h with (h | ⟨o, h⟩) | ⟨o, its, n, e, c, _⟩
    · exact .base (.tup (s.tup h))
    · exact .fTuple (s.frz h)
    · exact .kTuple e c
/-- the answers that the laws ask for, by the type's name -/
def isiD (T : String) (d : D) : Bool := match d with
  | .non => decide (T = "NoneType")
  | .bl _ => decide (T = "bool") || decide (T = "int")
  | .int _ => decide (T = "int")
  | .str _ => decide (T = "str")
  | .tup _ => decide (T = "tuple")
  | .lst _ => decide (T = "list")
  | .dic _ => decide (T = "dict")
  | .bag => decide (T = "list")
  | .scr => decide (T = "list")
def kitT (T : String) : Bool := [("NoneType", ["NoneType"]), ("bool", ["bool", "int"]), ("int", ["int"]), ("str", ["str"]), ("tuple", ["tuple"]), ("list", ["list"]), ("dict", ["dict"])].all fun p => decide (kitB p.1 T = some (p.2.contains T))
theorem kit_d {K : PySem.W.Frag} {T : String} (h : kitT T = true) (d : D) : PySem.W.kitOne K (.type (tyD d)) (.type T) = some (isiD T d) := by
  have h' := List.all_eq_true.mp h
  cases d <;> refine kit_ty ?_
  · have := of_decide_eq_true (h' ("NoneType", ["NoneType"]) (by simp)); rw [show tyD .non = "NoneType" from rfl, this]; simp [isiD, List.contains_cons]
  · rename_i b; have := of_decide_eq_true (h' ("bool", ["bool", "int"]) (by simp)); rw [show tyD (.bl b) = "bool" from rfl, this]; simp [isiD, List.contains_cons]
  · rename_i b; have := of_decide_eq_true (h' ("int", ["int"]) (by simp)); rw [show tyD (.int b) = "int" from rfl, this]; simp [isiD, List.contains_cons]
  · rename_i b; have := of_decide_eq_true (h' ("str", ["str"]) (by simp)); rw [show tyD (.str b) = "str" from rfl, this]; simp [isiD, List.contains_cons]
  · rename_i b; have := of_decide_eq_true (h' ("tuple", ["tuple"]) (by simp)); rw [show tyD (.tup b) = "tuple" from rfl, this]; simp [isiD, List.contains_cons]
  · rename_i b; have := of_decide_eq_true (h' ("list", ["list"]) (by simp)); rw [show tyD (.lst b) = "list" from rfl, this]; simp [isiD, List.contains_cons]
  · rename_i b; have := of_decide_eq_true (h' ("dict", ["dict"]) (by simp)); rw [show tyD (.dic b) = "dict" from rfl, this]; simp [isiD, List.contains_cons]
  · have := of_decide_eq_true (h' ("list", ["list"]) (by simp)); rw [show tyD .bag = "list" from rfl, this]; simp [isiD, List.contains_cons]
  · have := of_decide_eq_true (h' ("list", ["list"]) (by simp)); rw [show tyD .scr = "list" from rfl, this]; simp [isiD, List.contains_cons]
def dIsi (T : String) (t : DE) : DE := fun ρ Q => t ρ fun d => d.tyOk = true ∧ Q (.bl (isiD T d))
theorem pd_isi {T : Str} {p2 : Pos} (Tn : String) (hv2 : bootBuiltins T = some (.type Tn)) (hk : kitT Tn = true) (hm : X.mg "isinstance" = none) (hm2 : X.mg T = none) (he : PD X e t) (hg2 : Gl X T := by rfl) (hn2 : T ≠ "__name__" := by decide) (hd2 : (T == ("__debug__" : Str)) = false := by decide) (hg : Gl X "isinstance" := by rfl)
    (h1 : starEach [e, .Name T p2] X.env = (false, eval e X.env) :: starEach [.Name T p2] X.env := by rfl) :
    PD X (.Call (.Name "isinstance" p) [e, .Name T p2] [] pos) (dIsi Tn t) := by
  refine PE.impD (t := tCB (rIsi X.K) (tCons (lfE X.K t) (tCons (tC (.ty Tn)) tNil))) ?_ fun σ H Q ⟨ρ, F, Q0, s, en, ht, k⟩ => ⟨ρ, F, _, s, en, ht, fun v H1 F1 d x1 r q => ?_⟩
  · exact pe_callB call_isi hg hm (by decide +kernel) (pa_cons he (pa_cons (pe_bltn hg2 hm2 hv2 rfl hn2 hd2) pa_nil) h1) (by decide) (by decide) h1
  · exact ⟨v, _, _, _, _, rfl, .ty Tn, r.tyX x1.sub q.1, kit_d hk d, k _ H1 F1 _ x1 (.bl _) q.2⟩
def dIsi2 (T S : String) (t : DE) : DE := fun ρ Q => t ρ fun d => d.tyOk = true ∧ Q (.bl (isiD T d || isiD S d))
theorem pd_isi2 {T S : Str} {p2 p3 p4 : Pos} {x1} (Tn Sn : String) (hv2 : bootBuiltins T = some (.type Tn)) (hv3 : bootBuiltins S = some (.type Sn)) (hk : kitT Tn = true) (hk3 : kitT Sn = true) (hm : X.mg "isinstance" = none) (hm2 : X.mg T = none) (hm3 : X.mg S = none) (he : PD X e t)
    (hg2 : Gl X T := by rfl) (hn2 : T ≠ "__name__" := by decide) (hd2 : (T == ("__debug__" : Str)) = false := by decide) (hg3 : Gl X S := by rfl) (hn3 : S ≠ "__name__" := by decide) (hd3 : (S == ("__debug__" : Str)) = false := by decide) (hg : Gl X "isinstance" := by rfl)
    (h1 : starEach [e, .Tuple [.Name T p2, .Name S p3] x1 p4] X.env = (false, eval e X.env) :: starEach [.Tuple [.Name T p2, .Name S p3] x1 p4] X.env := by rfl) :
    PD X (.Call (.Name "isinstance" p) [e, .Tuple [.Name T p2, .Name S p3] x1 p4] [] pos) (dIsi2 Tn Sn t) := by
  refine PE.impD (t := tCB (rIsiT X.K) (tCons (lfE X.K t) (tCons (tTup (tCons (tC (.ty Tn)) (tCons (tC (.ty Sn)) tNil))) tNil))) ?_ fun σ H Q ⟨ρ, F, Q0, s, en, ht, k⟩ => ⟨ρ, F, _, s, en, ht, fun v H1 F1 d y1 r q => ?_⟩
  · exact pe_callB call_isiT hg hm (by decide +kernel) (pa_cons he (pa_cons (pe_tup (pa_cons (pe_bltn hg2 hm2 hv2 rfl hn2 hd2) (pa_cons (pe_bltn hg3 hm3 hv3 rfl hn3 hd3) pa_nil))) pa_nil) h1) (by decide) (by decide) h1
  · refine ⟨by show 2 ≤ sizeLine; decide, fun tp hp => ?_⟩
    have x := Ext.newT (xs := [V.ty Tn, V.ty Sn]) y1.sub hp
    refine ⟨v, tp, _, _, _, isiD Tn d || isiD Sn d, rfl, upd_same, .cons (.ty Tn) (.cons (.ty Sn) .nil), (r.mono x.mono).tyX x.sub q.1, ?_, k _ _ _ _ (y1.trans x) (.bl _) q.2⟩
    refine kitAny_cons (kit_d hk d) (fun h1 => ?_) (fun h1 => by rw [h1]; rfl)
    rw [h1, Bool.false_or]
    exact kitAny_cons (kit_d hk3 d) (fun h2 => by rw [h2]; exact kitAny_nil) (fun h2 => h2)
end
end DV

namespace DV
open PySem PySem.Spec PyProof.Rows L2

/-! ### list comprehensions -/
def wipeD (ρ : List Slot) : List Nat → List Slot
  | [] => ρ
  | v :: vs => (wipeD ρ vs).set v .un
def lcD (g : DG) (tt : DT) (te : DE) (ρ : List Slot) : List D → List D → (D → Prop) → Prop
  | [], acc, Q => Q (.lst acc)
  | d :: ds, acc, Q => g d ρ fun ρ2 => tt ρ2 fun b => if b = true then te ρ2 fun y => acc.length < sizeLine ∧ lcD g tt te ρ ds (acc ++ [y]) Q else lcD g tt te ρ ds acc Q
def dLc (it : DI) (g : DG) (tt : DT) (te : DE) (vs : List Nat) : DE := fun ρ Q => it ρ fun ds => lcD g tt te (wipeD ρ vs) ds [] Q
def dYes : DT := fun _ Q => Q true
theorem _root_.L2.PTs.impD {X : Cx} {es : List Expr} {t t' : TT} (h : PTs X es t) (i : ∀ σ H Q, t' σ H Q → t σ H Q) : PTs X es t' := ⟨fun p s σ H Q I q => h.run p s σ H Q I (i _ _ _ q)⟩
theorem pdts_nil {X : Cx} : PTs X [] (lfT X.K dYes) := pts_nil.impD fun σ H Q ⟨ρ, F, Q0, s, en, ht, k⟩ => k _ H F (.refl s) ht
theorem EnvOk.un {K : PySem.W.Frag} {F H : Hp} {σ : St} {ρ : List Slot} (h : EnvOk K F H σ ρ) (i : Nat) : EnvOk K F H (σ.set i none) (ρ.set i .un) := by
  refine ⟨by simp [h.len], fun j s e => ?_, fun a b p d' e' hab h1 h2 h3 h4 => ?_⟩
  · by_cases hj : j = i
    · subst hj
      have hl : j < ρ.length := by
        have := (List.getElem?_eq_some_iff.mp e).1
        simpa using this
      rw [List.getElem?_set_self hl] at e
      cases e
      exact ⟨none, by rw [List.getElem?_set_self (by rw [h.len]; exact hl)], trivial⟩
    · rw [List.getElem?_set_ne (Ne.symm hj)] at e ⊢
      exact h.at_ j s e
  · have ne : ∀ {a : Nat} {d : D}, (ρ.set i Slot.un)[a]? = some (Slot.own d) → a ≠ i := fun {a d} q z => by
      subst z
      have hl : a < ρ.length := by
        have := (List.getElem?_eq_some_iff.mp q).1
        simpa using this
      rw [List.getElem?_set_self hl] at q; cases q
    have na := ne h2
    have nb := ne h4
    rw [List.getElem?_set_ne (Ne.symm na)] at h1 h2
    rw [List.getElem?_set_ne (Ne.symm nb)] at h3 h4
    exact h.sep a b p d' e' hab h1 h2 h3 h4
theorem EnvOk.wipe {K : PySem.W.Frag} {F H : Hp} {σ : St} {ρ : List Slot} (h : EnvOk K F H σ ρ) : ∀ vs : List Nat, EnvOk K F H (L2.wipe σ vs) (wipeD ρ vs)
  | [] => h
  | v :: vs => (EnvOk.wipe h vs).un v
theorem Sta.empty {K : PySem.W.Frag} {F H : Hp} {σ : St} {ρ : List Slot} (s : Sub F H) (en : EnvOk K F H σ ρ) : Sta K (fun _ => none) (fun _ => none) F F σ H ρ :=
  ⟨fun _ _ e => (nomatch e), Same.refl F, ⟨fun _ _ e => (nomatch e), fun _ _ _ e => (nomatch e), s⟩, en, fun _ _ _ _ _ => rfl⟩
section
variable {X : Cx} {elt tg iter : Expr} {ifs : List Expr} {scope : Scope} {own : List (Str × Nat)} {pos : Pos} {it : DI} {g : TG} {g' : DG} {tt : DT} {te : DE}
theorem lf_lc (hG : RelG X.K (own.map (·.2)) g g') : ∀ σ H Q, lfE X.K (dLc it g' tt te (own.map (·.2))) σ H Q → tLc (lfI X.K it) g (lfT X.K tt) (lfE X.K te) (own.map (·.2)) σ H Q := fun σ H Q ⟨ρ, F, Q0, s, en, ht, k⟩ => by
  refine ⟨ρ, F, _, s, en, ht, fun J H1 F1 ds x1 io q Dd hD => ?_⟩
  have en1 := en.mono x1
  have hF1 := x1.sub.none hD
  refine ⟨fun i m H' => m = ds.length - i ∧ i ≤ ds.length ∧ ∃ F' acc xs, Ext F1 H1 F' H' ∧ F' Dd = none ∧ H' Dd = some (.lst xs) ∧ RpA X.K F' xs acc ∧ lcD g' tt te (wipeD ρ (own.map (·.2))) (ds.drop i) acc Q0,
    ⟨ds.length, rfl, Nat.zero_le _, F1, [], [], Ext.newO x1.sub hD, hF1, upd_same, .nil, q⟩, fun i m H' hW => ?_⟩
  obtain ⟨rfl, hle, F', acc, xs, x2, hF', hH', ra, q'⟩ := hW
  obtain ⟨h1, h2⟩ := io F' H' x2.mono x2.sub i
  by_cases hi : i < ds.length
  · obtain ⟨go, hy⟩ := h1 hi
    refine .inr ⟨go, fun H'' => ∃ F' acc xs, Ext F1 H1 F' H'' ∧ F' Dd = none ∧ H'' Dd = some (.lst xs) ∧ RpA X.K F' xs acc ∧ lcD g' tt te (wipeD ρ (own.map (·.2))) (ds.drop (i + 1)) acc Q0,
      fun H'' hN => ⟨ds.length - (i + 1), by omega, rfl, hi, hN⟩, fun x H2 hyx => ?_⟩
    obtain ⟨F2, d, x3, ed, rd⟩ := hy x H2 hyx
    rw [drop_cons ed] at q'
    have x23 := x2.trans x3
    have D2 := x3.keep Dd _ hF' hH'
    refine hG _ _ _ _ _ _ _ _ _ _ _ (Sta.empty x23.sub ((en1.mono x23).wipe _)) rd q' fun σ3 ρ3 s3 hw q3 => ⟨hw.trans (by
      have ww : ∀ (vs : List Nat) (σ : St), L2.wipe (L2.wipe σ vs) vs = L2.wipe σ vs := by
        intro vs σ
        have aux : ∀ (us : List Nat), (∀ u ∈ us, u ∈ vs) → L2.wipe (L2.wipe σ us) vs = L2.wipe σ vs := by
          intro us
          induction us with
          | nil => intro _; rfl
          | cons u r ih =>
            intro hu
            show L2.wipe ((L2.wipe σ r).set u none) vs = _
            rw [wipe_at (hu u List.mem_cons_self)]
            exact ih fun v hv => hu v (List.mem_cons_of_mem _ hv)
        exact aux vs fun u hu => hu
      exact ww _ _), ρ3, F2, _, s3.ext.sub, s3.env, q3, fun b H3 F3 x4 q4 => ?_⟩
    have x24 := x23.trans x4
    have D3 := x4.keep Dd _ D2.2 D2.1
    cases b with
    | false => exact iteF ⟨F3, acc, xs, x24, D3.2, D3.1, ra.mono (x3.mono.trans x4.mono), q4⟩
    | true =>
      refine iteT ⟨ρ3, F3, _, x4.sub, s3.env.mono x4, q4, fun y H4 F4 dy x5 ry q5 => ?_⟩
      have x25 := x24.trans x5
      have D4 := x5.keep Dd _ D3.2 D3.1
      have ra4 := ra.mono ((x3.mono.trans x4.mono).trans x5.mono)
      refine ⟨xs, D4.1, by rw [ra.length]; exact q5.1, F4, acc ++ [dy], xs ++ [y], ⟨x25.mono, fun a o e z => ?_, Ext.own x25.sub D4.2⟩, D4.2, upd_same, ra4.append (.cons ry .nil), q5.2⟩
      rw [upd_ne (ne_of_none z hD)]
      exact x25.keep a o e z
  · refine .inl ⟨h2 (by omega), ?_⟩
    have e : ds.drop i = [] := List.drop_eq_nil_of_le (by omega)
    rw [e] at q'
    have xa := x2.adopt hD hF' hH'
    have m : Same F' (upd F' Dd (.lst xs)) := fun b o e => by rw [upd_ne (ne_of_none e hF')]; exact e
    exact k _ _ _ _ (x1.trans xa) (.lst upd_same (ra.mono m)) q'
theorem pd_lc (hG : RelG X.K (own.map (·.2)) g g') (hc : X.calm = true) (hN : X.N.Nodup) (hi : PDI X tg iter it) (ok : BlkOk X.N X.env.scope scope own)
    (hg : ∀ (s : Shared) (H : Hp) (C : Addr) (cl : List (Str × Addr)) (fp : List Addr), PG (X.blk s H scope (compEnvC scope cl C X.env) fp) tg g)
    (ht : ∀ (s : Shared) (H : Hp) (C : Addr) (cl : List (Str × Addr)) (fp : List Addr), PTs (X.blk s H scope (compEnvC scope cl C X.env) fp) ifs (lfT X.K tt))
    (he : ∀ (s : Shared) (H : Hp) (C : Addr) (cl : List (Str × Addr)) (fp : List Addr), PE (X.blk s H scope (compEnvC scope cl C X.env) fp) elt (lfE X.K te)) (hs : ∀ x, foldedSetIterable iter X.env x = pure x := by intro _; rfl) :
    PD X (.ListComp elt [⟨tg, iter, ifs, 0⟩] scope pos) (dLc it g' tt te (own.map (·.2))) := (pe_lc hc hN hi ok hg ht he hs).impD (lf_lc hG)
theorem pds_setLc {i : Nat} {y : Str} {py spos : Pos} (hG : RelG X.K (own.map (·.2)) g g') (hc : X.calm = true) (hN : X.N.Nodup) (hy : X.N[i]? = some y) (hyl : X.env.scope.names.lookup y = some .local)
    (hsw : swapsWith (.ListComp elt [⟨tg, iter, ifs, 0⟩] scope pos) (some (.Name y py)) spos.line X.env = pure true) (hi : PDI X tg iter it) (ok : BlkOk X.N X.env.scope scope own)
    (hg : ∀ (s : Shared) (H : Hp) (C : Addr) (cl : List (Str × Addr)) (fp : List Addr), PG (X.blk s H scope (compEnvC scope cl C X.env) fp) tg g)
    (ht : ∀ (s : Shared) (H : Hp) (C : Addr) (cl : List (Str × Addr)) (fp : List Addr), PTs (X.blk s H scope (compEnvC scope cl C X.env) fp) ifs (lfT X.K tt))
    (he : ∀ (s : Shared) (H : Hp) (C : Addr) (cl : List (Str × Addr)) (fp : List Addr), PE (X.blk s H scope (compEnvC scope cl C X.env) fp) elt (lfE X.K te)) (hs : ∀ x, foldedSetIterable iter X.env x = pure x := by intro _; rfl) :
    PDS X (.Assign [.Name y py] (.ListComp elt [⟨tg, iter, ifs, 0⟩] scope pos) spos) (sSet i (dLc it g' tt te (own.map (·.2)))) := (ps_setLc hc hN hy hyl hsw hi ok hg ht he hs).impD fun N σ H ⟨F0, H0, G, ρ, M, ⟨F, so⟩, ht, k⟩ =>
  lf_lc hG σ H _ (so.lf ht fun v H' F' d so' r q => k.nx _ H' _ ⟨F', so'.set i r⟩ q)
end

/-- a list of one's own is handed back -/
def sRetOwn (i : Nat) : DS := fun N ρ => match ρ[i]? with
  | some (.own d) => N.ro d
  | _ => False
theorem hu65 {k : Nat} {A : Around} (r : Room k A) : A.units + 65 < cLine := by
  have := r.un
  omega
/-! ### the law's draws -/
def pullD : DSp := fun ds Q => ∃ n : Int, ds = [.bag, .int n] ∧ 0 < n ∧ DivOk n ∧ ∀ r : Int, 0 ≤ r → r < n → Q (.int r)
def bagD : DSp := fun ds Q => ds = [.scr] ∧ Q .bag

/-! ### the law's end -/
theorem mkGd {P : Program} {w : World} {K : PySem.W.Frag} {mg : Str → Option Value} {base : Heap} {nm : Str} {k : Nat} {dd : List D} {f : DSp} {a : Addr} {fd : FuncData} {ps : List Str} (hm : mg nm = some (.ref a)) (hk : PySem.W.keepIn K (.ref a) = true) (F : FnOk P w K mg base CX0 k a fd ps (spD K f))
    {dvs : List V} (b : ∃ ds, Vals dvs ds ∧ Binds K fd ps ds) (r : ∀ F, RpA K F dvs dd) : Gd P w K mg base nm k dd f := by
  obtain ⟨ds, h1, h2⟩ := b
  exact ⟨a, fd, ps, ds, dvs, hm, hk, F, h2, h1, r⟩
end DV

namespace DV
open PySem PySem.Spec PyProof.Rows L2

/-! ### a list of one's own is frozen -/
def frz (i : Nat) (ρ : List Slot) : List Slot := match ρ[i]? with
  | some (.own d) => ρ.set i (.v d)
  | _ => ρ
def sFrz (i : Nat) (t : DS) : DS := fun N ρ => t N (frz i ρ)
theorem ext_upd {F H F1 H1 : Hp} (x : Ext F1 H1 F H) {p : Addr} {o : HO} (hp : H1 p = none) (hF : F p = none) (ho : ∀ ps, o ≠ .tbl ps) : Ext F1 H1 (upd F p o) (upd H p o) := by
  have m : Same F (upd F p o) := fun b o e => by rw [upd_ne (ne_of_none e hF)]; exact e
  refine ⟨x.mono.trans m, fun a o e q => ?_, fun b u e => ?_⟩
  · rw [upd_ne (ne_of_none q hp), upd_ne (ne_of_none q hp)]
    exact x.keep a o e q
  · by_cases hb : b = p
    · subst hb
      rw [upd_same] at e; cases e
      cases o with
      | tbl ps => exact absurd rfl (ho ps)
      | _ => exact upd_same
    · rw [upd_ne hb] at e
      exact (x.sub b u e).mono m fun u q => by rw [upd_ne hb]; exact q
/-- u is the frozen form of u0 -/
def FrzOf (u0 u : HO) : Prop := (∃ xs, u0 = .lst xs ∧ u = .lst xs) ∨ (∃ od, u = .frz od u0 ∧ Mut (some u0) ∧ ∀ xs, u0 ≠ .tup xs)
/-- an object of one's own is frozen (a dict is locked) -/
theorem own_freeze {X : Cx} {pins : List (Addr × Obj)} {σ : St} {s : Shared} {F1 H1 F H : Hp} (I : Inv X pins σ H s) (x : Ext F1 H1 F H) {p : Addr} {d : D} (hp : H1 p = none) (hF : F p = none) (o : OwnAt X.K F H p d) :
    ∃ u0 u, H p = some u0 ∧ FrzOf u0 u ∧ (∀ o' u', X.H_0 p ≠ some (.frz o' u')) ∧ Inv X pins σ (upd H p u) s ∧ Ext F1 H1 (upd F p u) (upd H p u) ∧ Rp X.K (upd F p u) (.ref p) d := by
  have m : ∀ u, Same F (upd F p u) := fun u b o e => by rw [upd_ne (ne_of_none e hF)]; exact e
  cases d <;> first | exact o.elim | skip
  · obtain ⟨xs, e, r⟩ := o
    refine ⟨_, .lst xs, e, .inl ⟨xs, rfl, rfl⟩, I.nofrz e True.intro, ?_, ext_upd x hp hF (fun _ z => nomatch z), .lst upd_same (r.mono (m _))⟩
    have : upd H p (.lst xs) = H := funext fun b => by
      by_cases h : b = p
      · rw [h, upd_same, e]
      · rw [upd_ne h]
    rw [this]; exact I
  · rcases o with ⟨ks, e, r, q⟩ | ⟨rows, e, q0, q1, q2, r1, r2⟩
    · obtain ⟨od, I1⟩ := I.lock e True.intro
      exact ⟨_, _, e, .inr ⟨od, rfl, True.intro, fun _ z => nomatch z⟩, I.nofrz e True.intro, I1, ext_upd x hp hF (fun _ z => nomatch z), .dic upd_same (r.mono (m _)) q⟩
    · obtain ⟨od, I1⟩ := I.lock e True.intro
      exact ⟨_, _, e, .inr ⟨od, rfl, True.intro, fun _ z => nomatch z⟩, I.nofrz e True.intro, I1, ext_upd x hp hF (fun _ z => nomatch z), .dicT upd_same q0 q1 q2 (r1.mono (m _)) (r2.mono (m _))⟩
/-! ### x = y = e -/
def sAsg2 (i j : Nat) (t : DE) : DS := fun N ρ => t ρ fun d => N.nx ((ρ.set i (.v d)).set j (.v d))
/-! ### order of data -/
def ltX (f : PyData → PyData → Bool) (K : PySem.W.Frag) : R2 := fun x y H Q => ∃ d e, Dp K H x d ∧ Dp K H y e ∧ W.alike d e = true ∧ d ≠ .none ∧ d.depth ≤ 64 ∧ Q (.bl (f d e)) H
section
variable {X : Cx}
theorem op_ltX (hu : X.A.units + 64 < cLine) : OpR X (compareOp .Lt) (ltX (fun d e => W.dataLt d e) X.K) := by
  intro pins s σ H x y v u Q I rx ry h
  obtain ⟨d, e, hd, he, al, hn, hz, q⟩ := h
  obtain ⟨as, r1⟩ := Dp.reads I d x v hd rx
  obtain ⟨bs, r2⟩ := Dp.reads I e y u he ry
  exact PySem.W.lt_data r1 r2 al hn (by have := Nat.min_le_left d.depth e.depth; omega) ⟨.bl _, H, I, rfl, q⟩
theorem op_gtX (hu : X.A.units + 64 < cLine) : OpR X (compareOp .Gt) (ltX (fun d e => W.dataLt e d) X.K) := by
  intro pins s σ H x y v u Q I rx ry h
  obtain ⟨d, e, hd, he, al, hn, hz, q⟩ := h
  obtain ⟨as, r1⟩ := Dp.reads I d x v hd rx
  obtain ⟨bs, r2⟩ := Dp.reads I e y u he ry
  exact PySem.W.gt_data r1 r2 al hn (by have := Nat.min_le_left d.depth e.depth; omega) ⟨.bl _, H, I, rfl, q⟩
theorem op_leX (hu : X.A.units + 64 < cLine) : OpR X (compareOp .LtE) (ltX (fun d e => !W.dataLt e d) X.K) := by
  intro pins s σ H x y v u Q I rx ry h
  obtain ⟨d, e, hd, he, al, hn, hz, q⟩ := h
  obtain ⟨as, r1⟩ := Dp.reads I d x v hd rx
  obtain ⟨bs, r2⟩ := Dp.reads I e y u he ry
  exact PySem.W.le_data r1 r2 al hn (by have := Nat.min_le_left d.depth e.depth; omega) ⟨.bl _, H, I, rfl, q⟩
end
def ordD (f : PyData → PyData → Bool) : D2 := fun x y Q => x.lay = true ∧ y.lay = true ∧ W.alike x.toP y.toP = true ∧ x.toP ≠ .none ∧ Q (.bl (f x.toP y.toP))
theorem od_ord {K : PySem.W.Frag} {f : PyData → PyData → Bool} : OpD K (ltX f K) (ordD f) := fun F H x y dx dy Q0 Q s rx ry q k => by
  obtain ⟨h1, h2, h3, h4, q⟩ := q
  exact ⟨dx.toP, dy.toP, rx.dp s (lay_and h1).1, ry.dp s (lay_and h2).1, h3, h4, SeqAt.depth_of_shaped (lay_and h1).2, k _ H F _ (.refl s) (.bl _) q⟩
def ltT : D2 := ordD fun d e => W.dataLt d e
def gtT : D2 := ordD fun d e => W.dataLt e d
def leT : D2 := ordD fun d e => !W.dataLt e d
def geT : D2 := ordD fun d e => !W.dataLt d e
theorem opD_or {K : PySem.W.Frag} {r r' : R2} {g g' : D2} (h : OpD K r g) (h' : OpD K r' g') : OpD K (fun x y H Q => r x y H Q ∨ r' x y H Q) (fun x y Q => g x y Q ∨ g' x y Q) := fun F H x y dx dy Q0 Q s rx ry q k =>
  q.elim (fun z => .inl (h F H x y dx dy Q0 Q s rx ry z k)) (fun z => .inr (h' F H x y dx dy Q0 Q s rx ry z k))

/-! ### min, max -/
section
variable {prog : Program} {w : World} {A : Around} {E : Value → Shared → Prop} {s : Shared}
end
def mm2D (mx : Bool) : DF := fun ds Q => match ds with
  | [x, y] => x.lay = true ∧ y.lay = true ∧ W.AlikeAll [x.toP, y.toP] ∧ Q (if (if mx = true then W.dataLt x.toP y.toP else W.dataLt y.toP x.toP) = true then y else x)
  | _ => False
/-- min, max of a tuple or list of ints -/
def rMM1 (f : Int → Int → Int) (K : PySem.W.Frag) : List V → Hp → VK → Prop := fun xs H Q => ∃ (a : Addr) (n : Int) (ns : List Int), xs = [.ref a] ∧ (SqL K H a ((n :: ns).map V.int) ∨ SqT K H a ((n :: ns).map V.int)) ∧ Q (.int (ns.foldl f n)) H
theorem alikeInts (n : Int) (ns : List Int) : W.AlikeAll ((n :: ns).map PyData.int) := by
  refine ⟨fun x hx y hy => ?_, fun x hx => ?_⟩
  · obtain ⟨i, _, rfl⟩ := List.mem_map.mp hx
    obtain ⟨j, _, rfl⟩ := List.mem_map.mp hy
    rfl
  · obtain ⟨i, _, rfl⟩ := List.mem_map.mp hx
    intro z; cases z
theorem depthInts : ∀ ns : List Int, PyData.depthAll (ns.map PyData.int) = 0
  | [] => rfl
  | n :: ns => by
    rw [List.map_cons]
    unfold PyData.depthAll
    rw [depthInts ns]
    rfl
theorem reads_ints {h : Heap} : ∀ {ns : List Int} {us : List Value}, Vals (ns.map V.int) us → ReadsAll h us (ns.map PyData.int) []
  | [], us, r => by cases r; exact .nil
  | n :: ns, us, r => by
    cases r with
    | cons r1 r2 =>
      obtain ⟨t, rfl⟩ := r1
      have := ReadsAll.cons (Reads.int (h := h) n t) (reads_ints (h := h) r2)
      simpa using this
theorem reads_int_inv {h : Heap} {v : Value} {i : Int} {as : List Addr} (r : Reads h v (.int i) as) : ∃ t, v = .int i t := by
  cases r; exact ⟨_, rfl⟩
theorem callX_max1 {X : Cx} (hc : X.calm = true) (hu : X.A.units + 65 < cLine) : CallR X (.builtin "max") (rMM1 max X.K) := by
  intro pins s σ H xs us Q I r h
  obtain ⟨a, n, ns, rfl, hS, q⟩ := h
  obtain rfl := Vals.ref1 r
  have hd : X.A.units + 1 + PyData.depthAll (PyData.int n :: ns.map PyData.int) < cLine := by
    have := depthInts (n :: ns)
    rw [List.map_cons] at this
    rw [this]; omega
  rcases hS with hS | hS
  · obtain ⟨its, rv, pl, _⟩ := I.list hS
    refine W.max_list_data (x := .int n) (xs := ns.map PyData.int) (I.ok.hd hc) pl.isList (by have := reads_ints (h := s.heap) rv; simpa using this) (alikeInts n ns) hd fun i v h' tk bs hv hr k => ?_
    rw [W.maxD_ints] at hr
    exact ⟨.int _, H, I.kept k, reads_int_inv hr, q⟩
  · obtain ⟨its, rv, pl, _⟩ := I.tuple hS
    refine W.max_tuple_data (x := .int n) (xs := ns.map PyData.int) (I.ok.hd hc) pl (by have := reads_ints (h := s.heap) rv; simpa using this) (alikeInts n ns) hd fun i v h' tk bs hv hr k => ?_
    rw [W.maxD_ints] at hr
    exact ⟨.int _, H, I.kept k, reads_int_inv hr, q⟩
theorem callX_min1 {X : Cx} (hc : X.calm = true) (hu : X.A.units + 65 < cLine) : CallR X (.builtin "min") (rMM1 min X.K) := by
  intro pins s σ H xs us Q I r h
  obtain ⟨a, n, ns, rfl, hS, q⟩ := h
  obtain rfl := Vals.ref1 r
  have hd : X.A.units + 1 + PyData.depthAll (PyData.int n :: ns.map PyData.int) < cLine := by
    have := depthInts (n :: ns)
    rw [List.map_cons] at this
    rw [this]; omega
  rcases hS with hS | hS
  · obtain ⟨its, rv, pl, _⟩ := I.list hS
    refine W.min_list_data (x := .int n) (xs := ns.map PyData.int) (I.ok.hd hc) pl.isList (by have := reads_ints (h := s.heap) rv; simpa using this) (alikeInts n ns) hd fun i v h' tk bs hv hr k => ?_
    rw [W.minD_ints] at hr
    exact ⟨.int _, H, I.kept k, reads_int_inv hr, q⟩
  · obtain ⟨its, rv, pl, _⟩ := I.tuple hS
    refine W.min_tuple_data (x := .int n) (xs := ns.map PyData.int) (I.ok.hd hc) pl (by have := reads_ints (h := s.heap) rv; simpa using this) (alikeInts n ns) hd fun i v h' tk bs hv hr k => ?_
    rw [W.minD_ints] at hr
    exact ⟨.int _, H, I.kept k, reads_int_inv hr, q⟩
def mm1D (f : Int → Int → Int) : DF := fun ds Q => match ds with
  | [.lst es] => ∃ n ns, es = (n :: ns).map D.int ∧ Q (.int (ns.foldl f n))
  | [.tup es] => ∃ n ns, es = (n :: ns).map D.int ∧ Q (.int (ns.foldl f n))
  | _ => False
theorem ints_of {K : PySem.W.Frag} {F : Hp} : ∀ {vs : List V} {ns : List Int}, RpA K F vs (ns.map D.int) → vs = ns.map V.int
  | _, [], r => by cases r; rfl
  | _, n :: ns, r => by
    cases r with
    | cons r1 r2 =>
      cases r1
      rw [ints_of r2]
      rfl
theorem cd_mm1 {K : PySem.W.Frag} {f : Int → Int → Int} : CallD K (rMM1 f K) (mm1D f) := fun F H xs ds Q0 Q s r q k => by
  rcases r with _ | ⟨r1, _ | ⟨r2, _⟩⟩ <;> first | exact q.elim | (cases r1 <;> exact q.elim) | skip
  cases r1 <;> first | exact q.elim | skip
  · rename_i h ra
    obtain ⟨n, ns, rfl, q⟩ := q
    have e := ints_of ra
    subst e
    exact ⟨_, n, ns, rfl, .inr (s.seqT h), k _ H F _ (.refl s) (.int _) q⟩
  · rename_i h ra
    obtain ⟨n, ns, rfl, q⟩ := q
    have e := ints_of ra
    subst e
    exact ⟨_, n, ns, rfl, .inl (.of (s.lst h)), k _ H F _ (.refl s) (.int _) q⟩
theorem hu64 {k : Nat} {A : Around} (r : Room k A) : A.units + 64 < cLine := by
  have := r.un
  omega
/-- x[::-1] -/
def revD (x : D) (Q : D → Prop) : Prop := match x with
  | .lst ds => Q (.lst ds.reverse)
  | _ => False
def dRev (t : DE) : DE := fun ρ Q => t ρ fun x => revD x Q
theorem RpA.rev {K : PySem.W.Frag} {F : Hp} {xs : List V} {ds : List D} (r : RpA K F xs ds) : RpA K F xs.reverse ds.reverse := by
  induction r using RpA.rec (motive_1 := fun _ _ _ => True) with
  | nil => exact .nil
  | cons h _ _ ih =>
    rw [List.reverse_cons, List.reverse_cons]
    exact ih.append (.cons h .nil)
  | _ => trivial
/-- < of ints or of other data -/
def ltA : D2 := fun x y Q => ltI x y Q ∨ ltT x y Q
def gtA : D2 := fun x y Q => gtI x y Q ∨ gtT x y Q
def leA : D2 := fun x y Q => leI x y Q ∨ leT x y Q
def geA : D2 := fun x y Q => geI x y Q ∨ geT x y Q
def max2A : DF := fun ds Q => max2D ds Q ∨ mm2D true ds Q
def min2A : DF := fun ds Q => min2D ds Q ∨ mm2D false ds Q
end DV

namespace DV
open PySem PySem.Spec PyProof.Rows L2

/-! ### new lists of one's own as results -/
theorem Ext.noneBack {F H F' H' : Hp} (s : Sub F H) (x : Ext F H F' H') {p : Addr} (h : H' p = none) : H p = none := by
  cases e : H p with
  | none => rfl
  | some o =>
    cases f : F p with
    | none =>
      have := (x.keep p o f e).1
      rw [h] at this; cases this
    | some o' =>
      obtain ⟨u, q⟩ := (x.sub p o' (x.mono p o' f)).there
      rw [h] at q; cases q
theorem same_upd {F : Hp} {p : Addr} {o : HO} (h : F p = none) : Same F (upd F p o) := fun b x e => by rw [upd_ne (ne_of_none e h)]; exact e
def OwnV (K : PySem.W.Frag) (H F' H' : Hp) (v : V) (d : D) : Prop := (d.noLst = true ∧ Rp K F' v d) ∨ ∃ p : Addr, v = .ref p ∧ H p = none ∧ F' p = none ∧ OwnAt K F' H' p d
theorem OwnV.lst {K : PySem.W.Frag} {H F' H' : Hp} {p : Addr} {xs : List V} {ds : List D} (h0 : H p = none) (hF : F' p = none) (hp : H' p = some (.lst xs)) (r : RpA K F' xs ds) : OwnV K H F' H' (.ref p) (.lst ds) := .inr ⟨p, rfl, h0, hF, xs, hp, r⟩
theorem OwnV.back {K : PySem.W.Frag} {F H F1 H1 F' H' : Hp} {v : V} {d : D} (s : Sub F H) (x : Ext F H F1 H1) (o : OwnV K H1 F' H' v d) : OwnV K H F' H' v d := o.imp id fun ⟨p, e1, e2, r⟩ => ⟨p, e1, x.noneBack s e2, r⟩
def lfEo (K : PySem.W.Frag) (t : DE) : TE := fun σ H Q => ∃ ρ F Q0, Sub F H ∧ EnvOk K F H σ ρ ∧ t ρ Q0 ∧ ∀ v H' F' d, Ext F H F' H' → OwnV K H F' H' v d → Q0 d → Q v H'
abbrev PDo (X : Cx) (e : Expr) (t : DE) : Prop := PE X e (lfEo X.K t)
theorem PDo.pd {X : Cx} {e : Expr} {t : DE} (h : PDo X e t) : PD X e t := by
  refine ⟨fun pins s σ H Q I ⟨ρ, F, Q0, sb, en, ht, k⟩ => ?_⟩
  refine thn (h.run pins s σ H (fun v H' => ∃ F' d, Ext F H F' H' ∧ OwnV X.K H F' H' v d ∧ Q0 d) I ⟨ρ, F, Q0, sb, en, ht, fun v H' F' d x o q => ⟨F', d, x, o, q⟩⟩) fun v s1 ⟨x, H1, I1, r1, F1, d, x1, o, q⟩ => ?_
  rcases o with ⟨_, r⟩ | ⟨p, rfl, h0, hF, o⟩
  · exact ⟨x, H1, I1, r1, k _ _ _ _ x1 r q⟩
  · obtain ⟨_, u, _, _, _, I2, x2, r2⟩ := own_freeze I1 x1 h0 hF o
    exact ⟨_, _, I2, r1, k _ _ _ _ x2 r2 q⟩
section
variable {X : Cx} {e a b c : Expr} {es : List Expr} {st : Stmt} {t ta tb tc : DE} {tr : DA} {tA : DT} {u : DS} {pos p : Pos}
/-! ### defs that hand back new lists -/
def rtNl (Q : D → Prop) (d : D) : Prop := d.noLst = true ∧ Q d
/-- a def of m parameters, n names, that hands back new lists or what holds none -/
def fnO (n m : Nat) (t : DS) : DSp := fun ds Q => ds.length = m ∧ t ⟨fun _ => Q .non, rtNl Q, fun _ => False, fun _ => False, Q⟩ (ds.map Slot.v ++ List.replicate (n - m) Slot.un)
end
section
variable {P : Program} {w : World} {K : PySem.W.Frag} {mg : Str → Option Value} {base : Heap}
end
section
variable {X : Cx} {e a b c : Expr} {es : List Expr} {st : Stmt} {t ta tb tc : DE} {tr : DA} {tA : DT} {u : DS} {pos p : Pos}
def ownS : D → Slot
  | .lst ds => .own (.lst ds)
  | .dic ds => .own (.dic ds)
  | d => .v d
def sSetO (i : Nat) (t : DE) : DS := fun N ρ => t ρ fun d => N.nx (ρ.set i (ownS d))
/-- a new list is handed back -/
def sRetO (t : DE) : DS := fun N ρ => t ρ fun d => if d.noLst = true then N.rt d else N.ro d
/-! ### own things are read for a while -/
theorem EnvOk.frz {K : PySem.W.Frag} {F H : Hp} {σ : St} {ρ : List Slot} (en : EnvOk K F H σ ρ) {i : Nat} {p : Addr} {d : D} {u : HO} (e1 : σ[i]? = some (some (.ref p))) (hi : ρ[i]? = some (.own d)) (hF : F p = none) (r : Rp K (upd F p u) (.ref p) d) : EnvOk K (upd F p u) (upd H p u) σ (ρ.set i (.v d)) := by
  have m : Same F (upd F p u) := same_upd hF
  have hl : i < ρ.length := (List.getElem?_eq_some_iff.mp hi).1
  refine ⟨by simp [en.len], fun j sl e => ?_, fun a b q d' e hab a1 a2 a3 a4 => ?_⟩
  · by_cases hj : j = i
    · subst hj
      rw [List.getElem?_set_self hl] at e
      cases e
      exact ⟨_, e1, _, rfl, r⟩
    · rw [List.getElem?_set_ne (Ne.symm hj)] at e
      obtain ⟨x, e3, ok⟩ := en.at_ j sl e
      refine ⟨x, e3, ?_⟩
      cases sl with
      | un => exact True.intro
      | v d =>
        obtain ⟨v, e4, r4⟩ := ok
        exact ⟨v, e4, r4.mono m⟩
      | tg u d => exact ⟨ok.1, ok.2.mono m⟩
      | tb T => exact TabF.mono ok m
      | own d' =>
        obtain ⟨q, e4, hq, o⟩ := ok
        subst e4
        have nq : q ≠ p := fun z => by
          subst z
          exact en.sep j i q d' _ hj e3 e e1 hi
        exact ⟨q, rfl, by rw [upd_ne nq]; exact hq, o.mono m fun u z => by rw [upd_ne nq]; exact z⟩
  · have ne : ∀ {a : Nat} {d' : D}, (ρ.set i (Slot.v d))[a]? = some (Slot.own d') → a ≠ i := fun {a d'} q z => by
      subst z
      rw [List.getElem?_set_self hl] at q; cases q
    have na := ne a2
    have nb := ne a4
    rw [List.getElem?_set_ne (Ne.symm na)] at a2
    rw [List.getElem?_set_ne (Ne.symm nb)] at a4
    exact en.sep a b q _ _ hab a1 a2 a3 a4
theorem FrzOf.std {u0 u : HO} (z : FrzOf u0 u) {F H : Hp} {p : Addr} (s : Stands F H p u) : H p = some u := by
  rcases z with ⟨xs, _, rfl⟩ | ⟨od, rfl, _, _⟩ <;> exact s
def dBorT (i : Nat) (t : DT) : DT := fun ρ Q => t (frz i ρ) Q
def dBor (i : Nat) (t : DE) : DE := fun ρ Q => t (frz i ρ) fun d => d.noLst = true ∧ Q d
def dBorA (i : Nat) (t : DA) : DA := fun ρ Q => t (frz i ρ) fun ds => D.noLsts ds = true ∧ Q ds
end
section
variable {X : Cx} {elt tg iter : Expr} {ifs : List Expr} {scope : Scope} {own : List (Str × Nat)} {pos : Pos} {it : DI} {g : TG} {g' : DG} {tt : DT} {te : DE}
end

/-! ### an own list lent over a statement -/
def tagS (u : V) : Slot → Slot
  | .v d => .tg u d
  | s => s
def tagAll (vs : Nat → V) : Nat → List Slot → List Slot
  | _, [] => []
  | j, s :: ρ => tagS (vs j) s :: tagAll vs (j + 1) ρ
open Classical in
noncomputable def backS (isI : Bool) (u : V) (s : Slot) : Slot → Slot
  | .tg w _ => match s with
    | .v d => if w = u then .v d else .un
    | .tg w0 d => if w = w0 then .tg w0 d else .un
    | .own d => if isI = true ∧ w = u then .own d else .un
    | .un => .un
    | .tb _ => .un
  | .tb T => .tb T
  | .v d => if d.noLst = true then .v d else .un
  | .own (.lst ds) => if D.noLsts ds = true then .own (.lst ds) else .un
  | .own (.dic ds) => if D.noLsts (ds.map (·.2)) = true then .own (.dic ds) else .un
  | _ => .un
noncomputable def backAll (vs : Nat → V) (i : Nat) : Nat → List Slot → List Slot → List Slot
  | j, s :: ρ, s' :: ρ' => backS (decide (j = i)) (vs j) s s' :: backAll vs i (j + 1) ρ ρ'
  | _, _, _ => []
def sLend (i : Nat) (t : DS) : DS := fun N ρ => match ρ[i]? with
  | some (.own d) => ∀ vs : Nat → V, t { N with
      nx := fun ρ' => ρ'[i]? = some (.tg (vs i) d) ∧ ρ.length = ρ'.length ∧ N.nx (backAll vs i 0 ρ ρ'),
      bk := fun ρ' => ρ'[i]? = some (.tg (vs i) d) ∧ ρ.length = ρ'.length ∧ N.bk (backAll vs i 0 ρ ρ'),
      ct := fun ρ' => ρ'[i]? = some (.tg (vs i) d) ∧ ρ.length = ρ'.length ∧ N.ct (backAll vs i 0 ρ ρ') } (tagAll vs 0 (ρ.set i (.v d)))
  | _ => False
mutual
theorem kin_nl : ∀ {d : D}, d.kin = true → d.noLst = true
  | .int i, _ => rfl
  | .tup ds, h => by
    simp only [D.kin] at h
    simp only [D.noLst]
    exact kins_nl h
  | .non, h => by simp [D.kin] at h
  | .bl _, h => by simp [D.kin] at h
  | .str _, h => by simp [D.kin] at h
  | .lst _, h => by simp [D.kin] at h
  | .dic _, h => by simp [D.kin] at h
  | .bag, h => by simp [D.kin] at h
  | .scr, h => by simp [D.kin] at h
theorem kins_nl : ∀ {ds : List D}, D.kins ds = true → D.noLsts ds = true
  | [], _ => rfl
  | d :: ds, h => by
    simp only [D.kins, Bool.and_eq_true] at h
    simp only [D.noLsts, Bool.and_eq_true]
    exact ⟨kin_nl h.1, kins_nl h.2⟩
end
theorem keys_nl : ∀ {kvs : List (D × D)}, (∀ q ∈ kvs, q.1.kok = true) → D.noLsts (kvs.map (·.1)) = true
  | [], _ => rfl
  | q :: kvs, h => by
    simp only [List.map_cons, D.noLsts, Bool.and_eq_true]
    exact ⟨kin_nl (kok_kin (h q List.mem_cons_self)), keys_nl fun q' h' => h q' (List.mem_cons_of_mem _ h')⟩
theorem OwnAt.but {K : PySem.W.Frag} {F F' H H' : Hp} (m : ButLst F F') {p : Addr} (k : ∀ u, H p = some u → H' p = some u) : ∀ {d : D}, (match d with
    | .lst ds => D.noLsts ds = true
    | .dic ds => D.noLsts (ds.map (·.2)) = true
    | _ => True) → OwnAt K F H p d → OwnAt K F' H' p d
  | .lst ds, n, ⟨xs, e, r⟩ => ⟨xs, k _ e, r.but m n⟩
  | .dic kvs, n, .inl ⟨ks, e, r, q⟩ => .inl ⟨ks, k _ e, r.but m n, q⟩
  | .dic kvs, n, .inr ⟨rows, e, q0, q1, q2, r1, r2⟩ => .inr ⟨rows, k _ e, q0, q1, q2, r1.but m (keys_nl q2), r2.but m n⟩
end DV

namespace DV
open PySem PySem.Spec PyProof.Rows L2

/-! ### dicts as data -/
def dgetD (kvs : List (D × D)) (k : D) : Option D := (kvs.find? fun z => D.eqb z.1 k).map (·.2)
def dputD (kvs : List (D × D)) (k v : D) : List (D × D) := if (kvs.any fun z => D.eqb z.1 k) = true then kvs.map (fun z => if D.eqb z.1 k = true then (z.1, v) else z) else kvs ++ [(k, v)]
def D.flt : D → Bool
  | .int _ => true
  | .str _ => true
  | _ => false
/-- keys of one kind: numbers and texts, or tuples of numbers -/
def keyFor (kvs : List (D × D)) (x : D) : Prop := (x.flt = true ∧ ∀ q ∈ kvs, q.1.flt = true) ∨ (x.kok = true ∧ ∀ q ∈ kvs, q.1.kok = true)
mutual
theorem eqb_nb : ∀ {d e : D}, d.kin = true → e.kin = true → D.eqb d e = NestedKey.beq d.nk e.nk
  | .int i, .int j, _, _ => by
    simp only [D.eqb, D.nk, NestedKey.beq]
    rfl
  | .int i, .tup es, _, _ => by simp only [D.eqb, D.nk, NestedKey.beq]
  | .tup ds, .int j, _, _ => by simp only [D.eqb, D.nk, NestedKey.beq]
  | .tup ds, .tup es, h, g => by
    simp only [D.kin] at h g
    simp only [D.eqb, D.nk, NestedKey.beq]
    exact eqbs_nk h g
  | .non, _, h, _ => by simp [D.kin] at h
  | .bl _, _, h, _ => by simp [D.kin] at h
  | .str _, _, h, _ => by simp [D.kin] at h
  | .lst _, _, h, _ => by simp [D.kin] at h
  | .dic _, _, h, _ => by simp [D.kin] at h
  | .bag, _, h, _ => by simp [D.kin] at h
  | .scr, _, h, _ => by simp [D.kin] at h
  | .int _, .non, _, h => by simp [D.kin] at h
  | .int _, .bl _, _, h => by simp [D.kin] at h
  | .int _, .str _, _, h => by simp [D.kin] at h
  | .int _, .lst _, _, h => by simp [D.kin] at h
  | .int _, .dic _, _, h => by simp [D.kin] at h
  | .int _, .bag, _, h => by simp [D.kin] at h
  | .int _, .scr, _, h => by simp [D.kin] at h
  | .tup _, .non, _, h => by simp [D.kin] at h
  | .tup _, .bl _, _, h => by simp [D.kin] at h
  | .tup _, .str _, _, h => by simp [D.kin] at h
  | .tup _, .lst _, _, h => by simp [D.kin] at h
  | .tup _, .dic _, _, h => by simp [D.kin] at h
  | .tup _, .bag, _, h => by simp [D.kin] at h
  | .tup _, .scr, _, h => by simp [D.kin] at h
theorem eqbs_nk : ∀ {ds es : List D}, D.kins ds = true → D.kins es = true → D.eqbs ds es = NestedKey.beqAll (D.nks ds) (D.nks es)
  | [], [], _, _ => by simp only [D.eqbs, D.nks, NestedKey.beqAll]
  | [], _ :: _, _, _ => by simp only [D.eqbs, D.nks, NestedKey.beqAll]
  | _ :: _, [], _, _ => by simp only [D.eqbs, D.nks, NestedKey.beqAll]
  | d :: ds, e :: es, h, g => by
    simp only [D.kins, Bool.and_eq_true] at h g
    simp only [D.eqbs, D.nks, NestedKey.beqAll]
    rw [eqb_nb h.1 g.1, eqbs_nk h.2 g.2]
end
theorem eqb_nk {d e : D} (h : d.kin = true) (g : e.kin = true) : D.eqb d e = decide (d.nk = e.nk) := (eqb_nb h g).trans (NestedKey.decide_eq _ _).symm
theorem eqb_key (a b : L2.Key) : D.eqb (keyD a) (keyD b) = decide (a = b) := by
  rcases a with i | x <;> rcases b with j | y
  · show D.eqb (.int i) (.int j) = _
    simp only [D.eqb]
    by_cases h : i = j
    · subst h; simp
    · rw [decide_eq_false (by simpa using h)]; simpa using h
  · show D.eqb (.int i) (.str y) = _
    simp only [D.eqb]
    exact (decide_eq_false (by simp)).symm
  · show D.eqb (.str x) (.int j) = _
    simp only [D.eqb]
    exact (decide_eq_false (by simp)).symm
  · show D.eqb (.str x) (.str y) = _
    simp only [D.eqb]
    by_cases h : x = y
    · subst h; simp
    · rw [decide_eq_false (by simpa using h)]; simpa using h
theorem flt_key {d : D} (h : d.flt = true) : ∃ k : L2.Key, d = keyD k := by
  cases d <;> first | (simp [D.flt] at h; done) | skip
  · exact ⟨.inl _, rfl⟩
  · exact ⟨.inr _, rfl⟩
theorem kok_flt {d : D} (h : d.kok = true) : d.flt = false := by
  cases d <;> first | rfl | (simp [D.kok] at h; done)
section
variable {X : Cx} {pins : List (Addr × Obj)} {σ : L2.St} {F H : Hp} {s : Shared}
/-! ### k in d -/
def inKD : D2 := fun x y Q => match y with
  | .dic kvs => keyFor kvs x ∧ Q (.bl (dgetD kvs x).isSome)
  | _ => False
def notInKD : D2 := fun x y Q => match y with
  | .dic kvs => keyFor kvs x ∧ Q (.bl (!(dgetD kvs x).isSome))
  | _ => False
end
end DV

namespace DV
open PySem PySem.Spec PyProof.Rows L2

/-! ### dicts of one's own are written -/
/-! rows and data -/
def DR (K : PySem.W.Frag) (F : Hp) (r : NestedKey × Addr × V) (p : D × D) : Prop := r.1 = p.1.nk ∧ p.1.kok = true ∧ Rp K F (.ref r.2.1) p.1 ∧ Rp K F r.2.2 p.2
theorem DR.mono {K : PySem.W.Frag} {F F' : Hp} (m : Same F F') : ∀ {rows : List (NestedKey × Addr × V)} {kvs : List (D × D)}, Paired (DR K F) rows kvs → Paired (DR K F') rows kvs
  | _, _, .nil => .nil
  | _, _, .cons h t => .cons ⟨h.1, h.2.1, h.2.2.1.mono m, h.2.2.2.mono m⟩ (DR.mono m t)
section
variable {X : Cx} {pins : List (Addr × Obj)} {σ : L2.St} {F H : Hp} {s : Shared}
end
/-- d[k] = v, d a dict of one's own -/
def sPutD (i : Nat) (tk tv : DE) : DS := fun N ρ => match ρ[i]? with
  | some (.own (.dic kvs)) => tv ρ fun v => tk ρ fun k => keyFor kvs k ∧ kvs.length < sizeLine ∧ N.nx (ρ.set i (.own (.dic (dputD kvs k v))))
  | _ => False
section
variable {X : Cx} {e value ke o : Expr} {pos pos' : Pos} {tk tv : DE}
def dD0 : DE := fun _ Q => Q (.dic [])
end
end DV

namespace DV
open PySem PySem.Spec PyProof.Rows L2

/-! ### dict(a list of pairs) -/
def tup2 (p : D × D) : D := .tup [p.1, p.2]
section
variable {X : Cx} {pins : List (Addr × Obj)} {σ : L2.St} {F H : Hp} {s : Shared}
end
end DV

namespace DV
open PySem PySem.Spec PyProof.Rows L2

/-! ### d[k] -/
def ixKD : D2 := fun x y Q => match x with
  | .dic kvs => keyFor kvs y ∧ match dgetD kvs y with
    | some d => Q d
    | none => False
  | _ => False
section
variable {X : Cx}
end

/-! ### new things made while a thing of one's own is lent -/
/-- a list or dict of things without lists, or a thing without lists -/
def D.nlc : D → Bool
  | .lst ds => D.noLsts ds
  | .dic ds => D.noLsts (ds.map (·.2))
  | d => d.noLst
def dBorO (i : Nat) (t : DE) : DE := fun ρ Q => t (frz i ρ) fun d => d.nlc = true ∧ Q d
section
variable {X : Cx} {e : Expr} {t : DE}
end
section
variable {X : Cx} {tg iter elt : Expr} {ifs : List Expr} {scope : Scope} {pos : Pos} {it : DI} {g : TG} {g' : DG} {tt : DT} {te : DE} {own : List (Str × Nat)}
end
end DV

namespace DV
open PySem PySem.Spec PyProof.Rows L2
/-! ### plain laws of the readings -/
theorem forD_inv {g : DG} {b : DS} {N : DN} (I : List Slot → Prop) : ∀ (ds : List D) (ρ : List Slot), I ρ →
    (∀ d ∈ ds, ∀ (ρ : List Slot) (M : DN), I ρ → (∀ ρ', I ρ' → M.nx ρ') → (∀ ρ', I ρ' → M.ct ρ') → M.rt = N.rt → M.bk = N.nx → g d ρ fun ρ' => b M ρ') → (∀ ρ, I ρ → N.nx ρ) → forD g b N ds ρ
  | [], ρ, h, _, e => e ρ h
  | d :: ds, ρ, h, s, e => s d List.mem_cons_self ρ _ h (fun ρ' h' => forD_inv I ds ρ' h' (fun d hd => s d (List.mem_cons_of_mem _ hd)) e) (fun ρ' h' => forD_inv I ds ρ' h' (fun d hd => s d (List.mem_cons_of_mem _ hd)) e) rfl rfl
theorem lcD_map {g : DG} {te : DE} {ρ : List Slot} (f : D → D) : ∀ (ds acc : List D) (Q : D → Prop), (∀ d ∈ ds, ∀ Q1 : D → Prop, Q1 (f d) → g d ρ fun ρ2 => te ρ2 Q1) → acc.length + ds.length ≤ sizeLine → Q (.lst (acc ++ ds.map f)) → lcD g dYes te ρ ds acc Q
  | [], acc, Q, _, _, q => by
    rw [List.map_nil, List.append_nil] at q
    exact q
  | d :: ds, acc, Q, h, hl, q => by
    have hl' : acc.length + (ds.length + 1) ≤ sizeLine := hl
    refine h d List.mem_cons_self (fun y => acc.length < sizeLine ∧ lcD g dYes te ρ ds (acc ++ [y]) Q) ⟨by omega, ?_⟩
    refine lcD_map f ds (acc ++ [f d]) Q (fun d hd => h d (List.mem_cons_of_mem _ hd)) (by rw [List.length_append]; show acc.length + 1 + ds.length ≤ sizeLine; omega) ?_
    rw [List.append_assoc]
    exact q
theorem pull_ok {n : Int} {Q : D → Prop} (h0 : 0 < n) (h1 : n < 18446744073709551616) (h : ∀ r : Int, 0 ≤ r → r < n → Q (.int r)) : pullD [.bag, .int n] Q := by
  exact ⟨n, rfl, h0, ⟨by omega, by
    have h2 : n.natAbs < 2 ^ 64 := by omega
    exact Nat.lt_of_lt_of_le (PySem.Flt.log2_lt_of (by decide) h2) (by decide)⟩, h⟩
theorem divOk {j : Int} (h0 : j ≠ 0) (h1 : j.natAbs < 1461501637330902918203684832716283019655932542976) : DivOk j := ⟨h0, by
  have h2 : j.natAbs < 2 ^ 160 := h1
  exact Nat.lt_of_lt_of_le (PySem.Flt.log2_lt_of (by decide) h2) (by decide)⟩
theorem mem_rng {lo : Int} {n : Nat} {d : D} (h : d ∈ rngD lo n) : ∃ k : Nat, k < n ∧ d = .int (lo + k) := by
  obtain ⟨k, hk, rfl⟩ := List.mem_map.mp h
  exact ⟨k, List.mem_range.mp hk, rfl⟩
theorem atI_of {α : Type} {xs : List α} {i : Int} (h0 : 0 ≤ i) (h1 : i < xs.length) : atI xs i = some (xs[i.toNat]'(by omega)) := by
  have e : atI xs ((i.toNat : Nat) : Int) = some (xs[i.toNat]'(by omega)) := atI_nat (List.getElem?_eq_getElem (by omega))
  rwa [Int.toNat_of_nonneg h0] at e
/-- an item at a drawn place -/
theorem ix_all {ds : List D} {i : Int} {Q : D → Prop} (h0 : 0 ≤ i) (h1 : i < ds.length) (h : ∀ d ∈ ds, Q d) : ixD (.lst ds) (.int i) Q := by
  show match atI ds i with
    | some d => Q d
    | none => False
  rw [atI_of h0 h1]
  exact h _ (List.getElem_mem _)
theorem ix_nat {ds : List D} {i : Nat} {Q : D → Prop} (h1 : i < ds.length) (h : Q ds[i]) : ixD (.lst ds) (.int (i : Int)) Q := by
  show match atI ds i with
    | some d => Q d
    | none => False
  rw [atI_of (by omega) (by omega)]
  exact h
theorem ix_natT {ds : List D} {i : Nat} {Q : D → Prop} (h1 : i < ds.length) (h : Q ds[i]) : ixD (.tup ds) (.int (i : Int)) Q := by
  show match atI ds i with
    | some d => Q d
    | none => False
  rw [atI_of (by omega) (by omega)]
  exact h
/-- data that _law_like may compare, n deep -/
def Lk : Nat → D → Prop
  | 0, _ => False
  | n + 1, d => match d with
    | .non => True
    | .bl _ => True
    | .int _ => True
    | .str x => PyData.strOk x = true
    | .tup ds => ds.length ≤ 1000000 ∧ ∀ d ∈ ds, Lk n d
    | .lst ds => ds.length ≤ 1000000 ∧ ∀ d ∈ ds, Lk n d
    | _ => False

/-! ### the operators at known data -/
section
variable {i j : Int} {a b : Bool} {x y : Str} {xs ys : List D} {d e f g h : D} {Q : D → Prop} {T : String}
theorem addD_ii : addD (.int i) (.int j) Q = Q (.int (i + j)) := rfl
theorem addD_tt : addD (.tup xs) (.tup ys) Q = (xs ≠ [] ∧ xs.length + ys.length ≤ sizeLine ∧ Q (.tup (xs ++ ys))) := rfl
theorem addD_ll : addD (.lst xs) (.lst ys) Q = (xs.length + ys.length ≤ sizeLine ∧ Q (.lst (xs ++ ys))) := rfl
theorem subD_ii : subD (.int i) (.int j) Q = Q (.int (i - j)) := rfl
theorem mulD_ii : mulD (.int i) (.int j) Q = (MulOk i j ∧ Q (.int (i * j))) := rfl
theorem fdivD_ii : fdivD (.int i) (.int j) Q = (DivOk j ∧ Q (.int (i.fdiv j))) := rfl
theorem modD_ii : modD (.int i) (.int j) Q = (j ≠ 0 ∧ Q (.int (i.fmod j))) := rfl
theorem powD_10_9 : powD (.int 10) (.int 9) Q = Q (.int 1000000000) := by
  show ((0 ≤ (9 : Int) ∧ (9 : Int) ≤ 1000000 ∧ (10 : Int).natAbs < 2 ^ 64) ∧ Q (.int (10 ^ (9 : Int).toNat))) = _
  rw [show (10 : Int) ^ (9 : Int).toNat = 1000000000 by decide]
  simp
theorem powD_10_6 : powD (.int 10) (.int 6) Q = Q (.int 1000000) := by
  show ((0 ≤ (6 : Int) ∧ (6 : Int) ≤ 1000000 ∧ (10 : Int).natAbs < 2 ^ 64) ∧ Q (.int (10 ^ (6 : Int).toNat))) = _
  rw [show (10 : Int) ^ (6 : Int).toNat = 1000000 by decide]
  simp
theorem ltA_ii : ltA (.int i) (.int j) Q = Q (.bl (decide (i < j))) := propext ⟨fun z => z.elim id fun z => by have := z.2.2.2.2; dsimp only at this; rw [show (D.int i).toP = .int i from rfl, show (D.int j).toP = .int j from rfl, W.dataLt_int] at this; exact this, .inl⟩
theorem gtA_ii : gtA (.int i) (.int j) Q = Q (.bl (decide (j < i))) := propext ⟨fun z => z.elim id fun z => by have := z.2.2.2.2; dsimp only at this; rw [show (D.int i).toP = .int i from rfl, show (D.int j).toP = .int j from rfl, W.dataLt_int] at this; exact this, .inl⟩
theorem not_lt_le {i j : Int} : (!decide (j < i)) = decide (i ≤ j) := by
  by_cases h : j < i
  · rw [decide_eq_true h, decide_eq_false (by omega)]; rfl
  · rw [decide_eq_false h, decide_eq_true (by omega)]; rfl
theorem leA_ii : leA (.int i) (.int j) Q = Q (.bl (decide (i ≤ j))) := propext ⟨fun z => z.elim id fun z => by have := z.2.2.2.2; dsimp only at this; rw [show (D.int i).toP = .int i from rfl, show (D.int j).toP = .int j from rfl, W.dataLt_int, not_lt_le] at this; exact this, .inl⟩
theorem geA_ii : geA (.int i) (.int j) Q = Q (.bl (decide (j ≤ i))) := propext ⟨fun z => z.elim id fun z => by have := z.2.2.2.2; dsimp only at this; rw [show (D.int i).toP = .int i from rfl, show (D.int j).toP = .int j from rfl, W.dataLt_int, not_lt_le] at this; exact this, .inl⟩
theorem ltT_t2 {i j k l : Int} : W.dataLt (D.tup [.int i, .int j]).toP (D.tup [.int k, .int l]).toP = decide (i < k ∨ (i = k ∧ j < l)) := W.dataLt_ii i j k l
theorem ltA_t2 {i j k l : Int} : ltA (.tup [.int i, .int j]) (.tup [.int k, .int l]) Q = Q (.bl (decide (i < k ∨ (i = k ∧ j < l)))) := propext ⟨fun z => z.elim (fun z => z.elim) fun z => by have := z.2.2.2.2; dsimp only at this; rwa [ltT_t2] at this, fun z => .inr ⟨rfl, rfl, rfl, (fun q => nomatch q), by dsimp only; rwa [ltT_t2]⟩⟩
theorem gtA_t2 {i j k l : Int} : gtA (.tup [.int i, .int j]) (.tup [.int k, .int l]) Q = Q (.bl (decide (k < i ∨ (k = i ∧ l < j)))) := propext ⟨fun z => z.elim (fun z => z.elim) fun z => by have := z.2.2.2.2; dsimp only at this; rwa [ltT_t2] at this, fun z => .inr ⟨rfl, rfl, rfl, (fun q => nomatch q), by dsimp only; rwa [ltT_t2]⟩⟩
theorem leA_t2 {i j k l : Int} : leA (.tup [.int i, .int j]) (.tup [.int k, .int l]) Q = Q (.bl (!decide (k < i ∨ (k = i ∧ l < j)))) := propext ⟨fun z => z.elim (fun z => z.elim) fun z => by have := z.2.2.2.2; dsimp only at this; rwa [ltT_t2] at this, fun z => .inr ⟨rfl, rfl, rfl, (fun q => nomatch q), by dsimp only; rwa [ltT_t2]⟩⟩
theorem geA_t2 {i j k l : Int} : geA (.tup [.int i, .int j]) (.tup [.int k, .int l]) Q = Q (.bl (!decide (i < k ∨ (i = k ∧ j < l)))) := propext ⟨fun z => z.elim (fun z => z.elim) fun z => by have := z.2.2.2.2; dsimp only at this; rwa [ltT_t2] at this, fun z => .inr ⟨rfl, rfl, rfl, (fun q => nomatch q), by dsimp only; rwa [ltT_t2]⟩⟩
theorem max2A_ii : max2A [.int i, .int j] Q = Q (.int (max i j)) := by
  have e : max2D [.int i, .int j] Q = Q (.int (max i j)) := by
    show Q (.int (if j > i then j else i)) = _
    rw [show (if j > i then j else i) = max i j by omega]
  refine propext ⟨fun z => z.elim (fun z => e ▸ z) fun z => ?_, fun z => .inl (e ▸ z)⟩
  have := z.2.2.2
  rw [if_pos rfl, show (D.int i).toP = .int i from rfl, show (D.int j).toP = .int j from rfl, W.dataLt_int] at this
  by_cases h : i < j
  · rw [if_pos (decide_eq_true h)] at this; rwa [show max i j = j by omega]
  · rw [if_neg (by simpa using h)] at this; rwa [show max i j = i by omega]
theorem min2A_ii : min2A [.int i, .int j] Q = Q (.int (min i j)) := by
  have e : min2D [.int i, .int j] Q = Q (.int (min i j)) := by
    show Q (.int (if j < i then j else i)) = _
    rw [show (if j < i then j else i) = min i j by omega]
  refine propext ⟨fun z => z.elim (fun z => e ▸ z) fun z => ?_, fun z => .inl (e ▸ z)⟩
  have := z.2.2.2
  rw [if_neg Bool.false_ne_true, show (D.int i).toP = .int i from rfl, show (D.int j).toP = .int j from rfl, W.dataLt_int] at this
  by_cases h : j < i
  · rw [if_pos (decide_eq_true h)] at this; rwa [show min i j = j by omega]
  · rw [if_neg (by simpa using h)] at this; rwa [show min i j = i by omega]
theorem alike2 {i j k l : Int} : W.AlikeAll [(D.tup [.int i, .int j]).toP, (D.tup [.int k, .int l]).toP] := by
  refine ⟨fun x hx y hy => ?_, fun x hx => ?_⟩
  · simp only [List.mem_cons, List.not_mem_nil, or_false] at hx hy
    rcases hx with rfl | rfl <;> rcases hy with rfl | rfl <;> rfl
  · simp only [List.mem_cons, List.not_mem_nil, or_false] at hx
    rcases hx with rfl | rfl <;> exact fun z => nomatch z
theorem max2A_t2 {i j k l : Int} : max2A [.tup [.int i, .int j], .tup [.int k, .int l]] Q = Q (if i < k ∨ (i = k ∧ j < l) then .tup [.int k, .int l] else .tup [.int i, .int j]) := by
  have e : (if W.dataLt (D.tup [.int i, .int j]).toP (D.tup [.int k, .int l]).toP = true then D.tup [.int k, .int l] else .tup [.int i, .int j]) = if i < k ∨ (i = k ∧ j < l) then .tup [.int k, .int l] else .tup [.int i, .int j] := by rw [ltT_t2]; simp only [decide_eq_true_eq]
  exact propext ⟨fun z => z.elim (fun z => z.elim) fun z => e ▸ z.2.2.2, fun z => .inr ⟨rfl, rfl, alike2, e ▸ z⟩⟩
theorem min2A_t2 {i j k l : Int} : min2A [.tup [.int i, .int j], .tup [.int k, .int l]] Q = Q (if k < i ∨ (k = i ∧ l < j) then .tup [.int k, .int l] else .tup [.int i, .int j]) := by
  have e : (if W.dataLt (D.tup [.int k, .int l]).toP (D.tup [.int i, .int j]).toP = true then D.tup [.int k, .int l] else .tup [.int i, .int j]) = if k < i ∨ (k = i ∧ l < j) then .tup [.int k, .int l] else .tup [.int i, .int j] := by rw [ltT_t2]; simp only [decide_eq_true_eq]
  exact propext ⟨fun z => z.elim (fun z => z.elim) fun z => e ▸ z.2.2.2, fun z => .inr ⟨rfl, rfl, alike2, e ▸ z⟩⟩
theorem revD_l : revD (.lst xs) Q = Q (.lst xs.reverse) := rfl
theorem negD_i : negD (.int i) Q = Q (.int (-i)) := rfl
theorem notD_b : notD (.bl a) Q = Q (.bl (!a)) := rfl
theorem isBD_bb : isBD (.bl a) (.bl b) Q = Q (.bl (decide (a = b))) := rfl
theorem isNon_n : isNonD .non .non Q = Q (.bl true) := rfl
theorem isNon_t : isNonD (.tup xs) .non Q = Q (.bl false) := rfl
theorem isNon_l : isNonD (.lst xs) .non Q = Q (.bl false) := rfl
theorem notNon_n : notNonD .non .non Q = Q (.bl false) := rfl
theorem notNon_t : notNonD (.tup xs) .non Q = Q (.bl true) := rfl
theorem absD_i : absD [.int i] Q = Q (.int (if i < 0 then -i else i)) := rfl
theorem intC_i : intC [.int i] Q = Q (.int i) := rfl
theorem intC_b : intC [.bl a] Q = Q (.int (if a = true then 1 else 0)) := rfl
theorem lenD_l : lenD [.lst xs] Q = Q (.int xs.length) := rfl
theorem lenD_t : lenD [.tup xs] Q = Q (.int xs.length) := rfl
theorem listD_l : listD [.lst xs] Q = Q (.lst xs) := rfl
theorem listD_t : listD [.tup xs] Q = Q (.lst xs) := rfl
theorem tupleD_l : tupleD [.lst xs] Q = Q (.tup xs) := rfl
theorem tupleD_t : tupleD [.tup xs] Q = Q (.tup xs) := rfl
theorem allD_l : allD [.lst xs] Q = (xs.all isB = true ∧ Q (.bl (xs.all isT))) := rfl
theorem anyD_l : anyD [.lst xs] Q = (xs.all isB = true ∧ Q (.bl (xs.any isT))) := rfl
theorem ixT0 : ixD (.tup (d :: xs)) (.int 0) Q = Q d := by
  show (match atI (d :: xs) ((0 : Nat) : Int) with
    | some d => Q d
    | none => False) = Q d
  rw [atI_nat (j := 0) (v := d) rfl]
theorem ixT1 : ixD (.tup (d :: e :: xs)) (.int 1) Q = Q e := by
  show (match atI (d :: e :: xs) ((1 : Nat) : Int) with
    | some d => Q d
    | none => False) = Q e
  rw [atI_nat (j := 1) (v := e) rfl]
theorem ixT2 : ixD (.tup (d :: e :: f :: xs)) (.int 2) Q = Q f := by
  show (match atI (d :: e :: f :: xs) ((2 : Nat) : Int) with
    | some d => Q d
    | none => False) = Q f
  rw [atI_nat (j := 2) (v := f) rfl]
theorem ixT3 : ixD (.tup (d :: e :: f :: g :: xs)) (.int 3) Q = Q g := by
  show (match atI (d :: e :: f :: g :: xs) ((3 : Nat) : Int) with
    | some d => Q d
    | none => False) = Q g
  rw [atI_nat (j := 3) (v := g) rfl]
theorem ixL0 : ixD (.lst (d :: xs)) (.int 0) Q = Q d := ixT0
theorem ixL1 : ixD (.lst (d :: e :: xs)) (.int 1) Q = Q e := ixT1
theorem ixL2 : ixD (.lst (d :: e :: f :: xs)) (.int 2) Q = Q f := ixT2
theorem ixL3 : ixD (.lst (d :: e :: f :: g :: xs)) (.int 3) Q = Q g := ixT3
theorem lay_i : (D.int i).lay = true := rfl
theorem lay_b : (D.bl a).lay = true := rfl
theorem lay_n : D.non.lay = true := rfl
theorem lay_t0 : (D.tup []).lay = true := rfl
theorem lay_l0 : (D.lst []).lay = true := rfl
theorem lay_t2 {i j : Int} : (D.tup [.int i, .int j]).lay = true := rfl
theorem lay_t4 {i j k l : Int} : (D.tup [.int i, .int j, .int k, .int l]).lay = true := rfl
theorem eqb_ii : D.eqb (.int i) (.int j) = (i == j) := by simp only [D.eqb]
theorem eqb_bb : D.eqb (.bl a) (.bl b) = (a == b) := by simp only [D.eqb]
theorem eqb_ss : D.eqb (.str x) (.str y) = (x == y) := by simp only [D.eqb]
theorem eqb_nn : D.eqb .non .non = true := by simp only [D.eqb]
theorem eqb_tt : D.eqb (.tup xs) (.tup ys) = D.eqbs xs ys := by simp only [D.eqb]
theorem eqb_ll : D.eqb (.lst xs) (.lst ys) = D.eqbs xs ys := by simp only [D.eqb]
theorem eqbs_nn : D.eqbs [] [] = true := by simp only [D.eqbs]
theorem eqbs_cc : D.eqbs (d :: xs) (e :: ys) = (D.eqb d e && D.eqbs xs ys) := by simp only [D.eqbs]
theorem eqbs_nc : D.eqbs [] (e :: ys) = false := by simp only [D.eqbs]
theorem eqbs_cn : D.eqbs (d :: xs) [] = false := by simp only [D.eqbs]
theorem tyOk_n : D.non.tyOk = true := rfl
theorem tyOk_b : (D.bl a).tyOk = true := rfl
theorem tyOk_i : (D.int i).tyOk = true := rfl
theorem tyOk_s : (D.str x).tyOk = true := rfl
theorem tyOk_t : (D.tup xs).tyOk = true := rfl
theorem tyOk_l : (D.lst xs).tyOk = true := rfl
theorem isi_n : isiD T .non = decide (T = "NoneType") := rfl
theorem isi_b : isiD T (.bl a) = (decide (T = "bool") || decide (T = "int")) := rfl
theorem isi_i : isiD T (.int i) = decide (T = "int") := rfl
theorem isi_s : isiD T (.str x) = decide (T = "str") := rfl
theorem isi_t : isiD T (.tup xs) = decide (T = "tuple") := rfl
theorem isi_l : isiD T (.lst xs) = decide (T = "list") := rfl
end
theorem sl0 : (0 ≤ sizeLine) = True := eq_true (by decide)
theorem sl1 : (1 ≤ sizeLine) = True := eq_true (by decide)
theorem sl2 : (2 ≤ sizeLine) = True := eq_true (by decide)
theorem sl3 : (3 ≤ sizeLine) = True := eq_true (by decide)
theorem sl4 : (4 ≤ sizeLine) = True := eq_true (by decide)
theorem sl5 : (5 ≤ sizeLine) = True := eq_true (by decide)
theorem sl6 : (6 ≤ sizeLine) = True := eq_true (by decide)
theorem sl7 : (7 ≤ sizeLine) = True := eq_true (by decide)
theorem sl8 : (8 ≤ sizeLine) = True := eq_true (by decide)
theorem sl9 : (9 ≤ sizeLine) = True := eq_true (by decide)
theorem sl10 : (10 ≤ sizeLine) = True := eq_true (by decide)
theorem sl11 : (11 ≤ sizeLine) = True := eq_true (by decide)
theorem sl12 : (12 ≤ sizeLine) = True := eq_true (by decide)
theorem slt0 : (0 < sizeLine) = True := eq_true (by decide)
theorem slt1 : (1 < sizeLine) = True := eq_true (by decide)
theorem slt2 : (2 < sizeLine) = True := eq_true (by decide)
theorem slt3 : (3 < sizeLine) = True := eq_true (by decide)
theorem slt4 : (4 < sizeLine) = True := eq_true (by decide)
theorem slt5 : (5 < sizeLine) = True := eq_true (by decide)
theorem slt6 : (6 < sizeLine) = True := eq_true (by decide)
theorem slt7 : (7 < sizeLine) = True := eq_true (by decide)
theorem slt8 : (8 < sizeLine) = True := eq_true (by decide)
theorem slt9 : (9 < sizeLine) = True := eq_true (by decide)
theorem slt10 : (10 < sizeLine) = True := eq_true (by decide)
theorem slt11 : (11 < sizeLine) = True := eq_true (by decide)
theorem slt12 : (12 < sizeLine) = True := eq_true (by decide)
theorem mulOk {i j : Int} (h : (-18446744073709551616 < i ∧ i < 18446744073709551616) ∨ (-18446744073709551616 < j ∧ j < 18446744073709551616)) : MulOk i j := h.imp (fun h => ⟨by omega, by omega⟩) fun h => ⟨by omega, by omega⟩
/-! ### equations that unfold from the outside -/
def chB (z : D) (p q : Prop) : Prop := match z with
  | .bl k => if k = true then p else q
  | _ => False
def tsB (x : D) (Q : Bool → Prop) : Prop := match x with
  | .bl b => Q b
  | _ => False
def ownL (s : Option Slot) (P : List D → Prop) : Prop := match s with
  | some (.own (.lst ds)) => P ds
  | _ => False
def two (ds : List D) (P : D → D → Prop) : Prop := match ds with
  | [d, e] => P d e
  | _ => False
def three (ds : List D) (P : D → D → D → Prop) : Prop := match ds with
  | [d, e, f] => P d e f
  | _ => False
def asI (d : D) (P : Int → Prop) : Prop := match d with
  | .int i => P i
  | _ => False
def asS (d : D) (P : List D → Prop) : Prop := match d with
  | .lst ds => P ds
  | .tup ds => P ds
  | _ => False
def one (ds : List D) (P : D → Prop) : Prop := match ds with
  | [d] => P d
  | _ => False
def k_sAppend1 (i : Nat) (N : DN) (ρ : List Slot) (ds : List D) (d : D) : Prop := ds.length < sizeLine ∧ N.nx (ρ.set i (.own (.lst (ds ++ [d]))))
theorem k_sAppend1_q {i : Nat} {N : DN} {ρ : List Slot} {ds : List D} {d : D} : k_sAppend1 i N ρ ds d = (ds.length < sizeLine ∧ N.nx (ρ.set i (.own (.lst (ds ++ [d]))))) := rfl
def k_sAppend (i : Nat) (t : DE) (N : DN) (ρ : List Slot) (ds : List D) : Prop := t ρ (k_sAppend1 i N ρ ds)
theorem k_sAppend_q {i : Nat} {t : DE} {N : DN} {ρ : List Slot} {ds : List D} : k_sAppend i t N ρ ds = (t ρ (k_sAppend1 i N ρ ds)) := rfl
def ownD (s : Option Slot) (P : D → Prop) : Prop := match s with
  | some (.own d) => P d
  | _ => False
theorem ownD_o {d : D} {P : D → Prop} : ownD (some (.own d)) P = P d := rfl
def k_sRetOwn (N : DN) (d : D) : Prop := N.ro d
theorem k_sRetOwn_q {N : DN} {d : D} : k_sRetOwn N d = N.ro d := rfl
def k_sPar2 (i j : Nat) (N : DN) (ρ : List Slot) (d e : D) : Prop := N.nx ((ρ.set i (.v d)).set j (.v e))
theorem k_sPar2_q {i j : Nat} {N : DN} {ρ : List Slot} {d e : D} : k_sPar2 i j N ρ d e = (N.nx ((ρ.set i (.v d)).set j (.v e))) := rfl
def k_sPar (i j : Nat) (N : DN) (ρ : List Slot) (ds : List D) : Prop := two ds (k_sPar2 i j N ρ)
theorem k_sPar_q {i j : Nat} {N : DN} {ρ : List Slot} {ds : List D} : k_sPar i j N ρ ds = (two ds (k_sPar2 i j N ρ)) := rfl
def k_sPar33 (i j l : Nat) (N : DN) (ρ : List Slot) (d e f : D) : Prop := N.nx (((ρ.set i (.v d)).set j (.v e)).set l (.v f))
theorem k_sPar33_q {i j l : Nat} {N : DN} {ρ : List Slot} {d e f : D} : k_sPar33 i j l N ρ d e f = (N.nx (((ρ.set i (.v d)).set j (.v e)).set l (.v f))) := rfl
def k_sPar3 (i j l : Nat) (N : DN) (ρ : List Slot) (ds : List D) : Prop := three ds (k_sPar33 i j l N ρ)
theorem k_sPar3_q {i j l : Nat} {N : DN} {ρ : List Slot} {ds : List D} : k_sPar3 i j l N ρ ds = (three ds (k_sPar33 i j l N ρ)) := rfl
def k_some (Q : Option Int → Prop) (i : Int) : Prop := Q (some i)
theorem k_some_q {Q : Option Int → Prop} {i : Int} : k_some Q i = (Q (some i)) := rfl
def k_asI (P : Int → Prop) (d : D) : Prop := asI d P
theorem k_asI_q {P : Int → Prop} {d : D} : k_asI P d = (asI d P) := rfl
def k_asS (Q : List D → Prop) (d : D) : Prop := asS d Q
theorem k_asS_q {Q : List D → Prop} {d : D} : k_asS Q d = (asS d Q) := rfl
def k_rng1 (Q : List D → Prop) (j : Int) : Prop := (-(2 ^ 62) ≤ j ∧ j < 2 ^ 62) ∧ Q (rngD 0 j.toNat)
theorem k_rng1_q {Q : List D → Prop} {j : Int} : k_rng1 Q j = ((-(2 ^ 62) ≤ j ∧ j < 2 ^ 62) ∧ Q (rngD 0 j.toNat)) := rfl
def k_one (P : D → Prop) (ds : List D) : Prop := one ds P
theorem k_one_q {P : D → Prop} {ds : List D} : k_one P ds = (one ds P) := rfl
def k_rng22 (Q : List D → Prop) (i : Int) (j : Int) : Prop := (-(2 ^ 62) ≤ i ∧ i < 2 ^ 62 ∧ -(2 ^ 62) ≤ j ∧ j < 2 ^ 62) ∧ Q (rngD i (j - i).toNat)
theorem k_rng22_q {Q : List D → Prop} {i : Int} {j : Int} : k_rng22 Q i j = ((-(2 ^ 62) ≤ i ∧ i < 2 ^ 62 ∧ -(2 ^ 62) ≤ j ∧ j < 2 ^ 62) ∧ Q (rngD i (j - i).toNat)) := rfl
def k_rng21 (Q : List D → Prop) (e : D) (i : Int) : Prop := asI e (k_rng22 Q i)
theorem k_rng21_q {Q : List D → Prop} {e : D} {i : Int} : k_rng21 Q e i = (asI e (k_rng22 Q i)) := rfl
def k_rng2 (Q : List D → Prop) (d e : D) : Prop := asI d (k_rng21 Q e)
theorem k_rng2_q {Q : List D → Prop} {d e : D} : k_rng2 Q d e = (asI d (k_rng21 Q e)) := rfl
def k_two (P : D → D → Prop) (ds : List D) : Prop := two ds P
theorem k_two_q {P : D → D → Prop} {ds : List D} : k_two P ds = (two ds P) := rfl
def k_non (Q : D → Prop) (ρ : List Slot) : Prop := Q .non
theorem k_non_q {Q : D → Prop} {ρ : List Slot} : k_non Q ρ = (Q .non) := rfl
def k_no  (ρ : List Slot) : Prop := False
theorem k_no_q {ρ : List Slot} : k_no ρ = (False) := rfl
def k_sSet (i : Nat) (N : DN) (ρ : List Slot) (d : D) : Prop := N.nx (ρ.set i (.v d))
theorem k_sSet_q {i : Nat} {N : DN} {ρ : List Slot} {d : D} : k_sSet i N ρ d = (N.nx (ρ.set i (.v d))) := rfl
def k_sAsg (g : DG) (N : DN) (ρ : List Slot) (d : D) : Prop := g d ρ N.nx
theorem k_sAsg_q {g : DG} {N : DN} {ρ : List Slot} {d : D} : k_sAsg g N ρ d = (g d ρ N.nx) := rfl
def k_sAsg2 (i j : Nat) (N : DN) (ρ : List Slot) (d : D) : Prop := N.nx ((ρ.set i (.v d)).set j (.v d))
theorem k_sAsg2_q {i j : Nat} {N : DN} {ρ : List Slot} {d : D} : k_sAsg2 i j N ρ d = (N.nx ((ρ.set i (.v d)).set j (.v d))) := rfl
def k_sIf (t u : DS) (N : DN) (ρ : List Slot) (b : Bool) : Prop := if b = true then t N ρ else u N ρ
theorem k_sIf_q {t u : DS} {N : DN} {ρ : List Slot} {b : Bool} : k_sIf t u N ρ b = (if b = true then t N ρ else u N ρ) := rfl
def k_sDrop (N : DN) (ρ : List Slot) (d : D) : Prop := N.nx ρ
theorem k_sDrop_q {N : DN} {ρ : List Slot} {d : D} : k_sDrop N ρ d = (N.nx ρ) := rfl
def k_sOwn (i : Nat) (N : DN) (ρ : List Slot) (ds : List D) : Prop := ds.length ≤ sizeLine ∧ N.nx (ρ.set i (.own (.lst ds)))
theorem k_sOwn_q {i : Nat} {N : DN} {ρ : List Slot} {ds : List D} : k_sOwn i N ρ ds = (ds.length ≤ sizeLine ∧ N.nx (ρ.set i (.own (.lst ds)))) := rfl
def k_sFor (g : DG) (b : DS) (N : DN) (ρ : List Slot) (ds : List D) : Prop := forD g b N ds ρ
theorem k_sFor_q {g : DG} {b : DS} {N : DN} {ρ : List Slot} {ds : List D} : k_sFor g b N ρ ds = (forD g b N ds ρ) := rfl
def k_gs (gs : List D → List Slot → (List Slot → Prop) → Prop) (r : List D) (Q : List Slot → Prop) (ρ' : List Slot) : Prop := gs r ρ' Q
theorem k_gs_q {gs : List D → List Slot → (List Slot → Prop) → Prop} {r : List D} {Q : List Slot → Prop} {ρ' : List Slot} : k_gs gs r Q ρ' = (gs r ρ' Q) := rfl
def k_dOp2 (g : D2) (x : D) (Q : D → Prop) (y : D) : Prop := g x y Q
theorem k_dOp2_q {g : D2} {x : D} {Q : D → Prop} {y : D} : k_dOp2 g x Q y = (g x y Q) := rfl
def k_dOp (g : D2) (tb : DE) (ρ : List Slot) (Q : D → Prop) (x : D) : Prop := tb ρ (k_dOp2 g x Q)
theorem k_dOp_q {g : D2} {tb : DE} {ρ : List Slot} {Q : D → Prop} {x : D} : k_dOp g tb ρ Q x = (tb ρ (k_dOp2 g x Q)) := rfl
def k_dCh4 (g' : D2) (y : D) (Q : D → Prop) (w : D) : Prop := g' y w Q
theorem k_dCh4_q {g' : D2} {y : D} {Q : D → Prop} {w : D} : k_dCh4 g' y Q w = (g' y w Q) := rfl
def k_dCh3 (g' : D2) (tc : DE) (ρ : List Slot) (y : D) (Q : D → Prop) (z : D) : Prop := chB z (tc ρ (k_dCh4 g' y Q)) (Q (.bl false))
theorem k_dCh3_q {g' : D2} {tc : DE} {ρ : List Slot} {y : D} {Q : D → Prop} {z : D} : k_dCh3 g' tc ρ y Q z = (chB z (tc ρ (k_dCh4 g' y Q)) (Q (.bl false))) := rfl
def k_dCh2 (g g' : D2) (tc : DE) (ρ : List Slot) (x : D) (Q : D → Prop) (y : D) : Prop := g x y (k_dCh3 g' tc ρ y Q)
theorem k_dCh2_q {g g' : D2} {tc : DE} {ρ : List Slot} {x : D} {Q : D → Prop} {y : D} : k_dCh2 g g' tc ρ x Q y = (g x y (k_dCh3 g' tc ρ y Q)) := rfl
def k_dCh1 (g g' : D2) (tb tc : DE) (ρ : List Slot) (Q : D → Prop) (x : D) : Prop := tb ρ (k_dCh2 g g' tc ρ x Q)
theorem k_dCh1_q {g g' : D2} {tb tc : DE} {ρ : List Slot} {Q : D → Prop} {x : D} : k_dCh1 g g' tb tc ρ Q x = (tb ρ (k_dCh2 g g' tc ρ x Q)) := rfl
def k_dUn (g : D → (D → Prop) → Prop) (Q : D → Prop) (x : D) : Prop := g x Q
theorem k_dUn_q {g : D → (D → Prop) → Prop} {Q : D → Prop} {x : D} : k_dUn g Q x = (g x Q) := rfl
def k_dTest (Q : Bool → Prop) (x : D) : Prop := tsB x Q
theorem k_dTest_q {Q : Bool → Prop} {x : D} : k_dTest Q x = (tsB x Q) := rfl
def k_dAnd (u : DT) (ρ : List Slot) (Q : Bool → Prop) (c : Bool) : Prop := if c = true then u ρ Q else Q false
theorem k_dAnd_q {u : DT} {ρ : List Slot} {Q : Bool → Prop} {c : Bool} : k_dAnd u ρ Q c = (if c = true then u ρ Q else Q false) := rfl
def k_dOr (u : DT) (ρ : List Slot) (Q : Bool → Prop) (c : Bool) : Prop := if c = true then Q true else u ρ Q
theorem k_dOr_q {u : DT} {ρ : List Slot} {Q : Bool → Prop} {c : Bool} : k_dOr u ρ Q c = (if c = true then Q true else u ρ Q) := rfl
def k_dNot (Q : Bool → Prop) (c : Bool) : Prop := Q (!c)
theorem k_dNot_q {Q : Bool → Prop} {c : Bool} : k_dNot Q c = (Q (!c)) := rfl
def k_dAndV (tb : DE) (ρ : List Slot) (Q : D → Prop) (x : D) : Prop := chB x (tb ρ Q) (Q (.bl false))
theorem k_dAndV_q {tb : DE} {ρ : List Slot} {Q : D → Prop} {x : D} : k_dAndV tb ρ Q x = (chB x (tb ρ Q) (Q (.bl false))) := rfl
def k_dOrV (tb : DE) (ρ : List Slot) (Q : D → Prop) (x : D) : Prop := chB x (Q (.bl true)) (tb ρ Q)
theorem k_dOrV_q {tb : DE} {ρ : List Slot} {Q : D → Prop} {x : D} : k_dOrV tb ρ Q x = (chB x (Q (.bl true)) (tb ρ Q)) := rfl
def k_dIf (ta tb : DE) (ρ : List Slot) (Q : D → Prop) (k : Bool) : Prop := if k = true then ta ρ Q else tb ρ Q
theorem k_dIf_q {ta tb : DE} {ρ : List Slot} {Q : D → Prop} {k : Bool} : k_dIf ta tb ρ Q k = (if k = true then ta ρ Q else tb ρ Q) := rfl
def k_dCons2 (x : D) (Q : List D → Prop) (xs : List D) : Prop := Q (x :: xs)
theorem k_dCons2_q {x : D} {Q : List D → Prop} {xs : List D} : k_dCons2 x Q xs = (Q (x :: xs)) := rfl
def k_dCons (tr : DA) (ρ : List Slot) (Q : List D → Prop) (x : D) : Prop := tr ρ (k_dCons2 x Q)
theorem k_dCons_q {tr : DA} {ρ : List Slot} {Q : List D → Prop} {x : D} : k_dCons tr ρ Q x = (tr ρ (k_dCons2 x Q)) := rfl
def k_dTup (Q : D → Prop) (xs : List D) : Prop := xs.length ≤ sizeLine ∧ Q (.tup xs)
theorem k_dTup_q {Q : D → Prop} {xs : List D} : k_dTup Q xs = (xs.length ≤ sizeLine ∧ Q (.tup xs)) := rfl
def k_dLst (Q : D → Prop) (xs : List D) : Prop := xs.length ≤ sizeLine ∧ Q (.lst xs)
theorem k_dLst_q {Q : D → Prop} {xs : List D} : k_dLst Q xs = (xs.length ≤ sizeLine ∧ Q (.lst xs)) := rfl
def k_dCall (f : DSp) (dd : List D) (Q : D → Prop) (ds : List D) : Prop := f (ds ++ dd) Q
theorem k_dCall_q {f : DSp} {dd : List D} {Q : D → Prop} {ds : List D} : k_dCall f dd Q ds = (f (ds ++ dd) Q) := rfl
def k_dIsi (T : String) (Q : D → Prop) (d : D) : Prop := d.tyOk = true ∧ Q (.bl (isiD T d))
theorem k_dIsi_q {T : String} {Q : D → Prop} {d : D} : k_dIsi T Q d = (d.tyOk = true ∧ Q (.bl (isiD T d))) := rfl
def k_dIsi2 (T S : String) (Q : D → Prop) (d : D) : Prop := d.tyOk = true ∧ Q (.bl (isiD T d || isiD S d))
theorem k_dIsi2_q {T S : String} {Q : D → Prop} {d : D} : k_dIsi2 T S Q d = (d.tyOk = true ∧ Q (.bl (isiD T d || isiD S d))) := rfl
def k_dSl3 (x : D) (lo : Option Int) (Q : D → Prop) (hi : Option Int) : Prop := slD x lo hi Q
theorem k_dSl3_q {x : D} {lo : Option Int} {Q : D → Prop} {hi : Option Int} : k_dSl3 x lo Q hi = (slD x lo hi Q) := rfl
def k_dSl2 (h : DO) (ρ : List Slot) (x : D) (Q : D → Prop) (lo : Option Int) : Prop := h ρ (k_dSl3 x lo Q)
theorem k_dSl2_q {h : DO} {ρ : List Slot} {x : D} {Q : D → Prop} {lo : Option Int} : k_dSl2 h ρ x Q lo = (h ρ (k_dSl3 x lo Q)) := rfl
def k_dSl (l h : DO) (ρ : List Slot) (Q : D → Prop) (x : D) : Prop := l ρ (k_dSl2 h ρ x Q)
theorem k_dSl_q {l h : DO} {ρ : List Slot} {Q : D → Prop} {x : D} : k_dSl l h ρ Q x = (l ρ (k_dSl2 h ρ x Q)) := rfl
def k_dRev (Q : D → Prop) (x : D) : Prop := revD x Q
theorem k_dRev_q {Q : D → Prop} {x : D} : k_dRev Q x = (revD x Q) := rfl
def k_dLc (g : DG) (tt : DT) (te : DE) (ρ : List Slot) (Q : D → Prop) (ds : List D) : Prop := lcD g tt te ρ ds [] Q
theorem k_dLc_q {g : DG} {tt : DT} {te : DE} {ρ : List Slot} {Q : D → Prop} {ds : List D} : k_dLc g tt te ρ Q ds = (lcD g tt te ρ ds [] Q) := rfl
def k_dB (g : DF) (Q : D → Prop) (ds : List D) : Prop := g ds Q
theorem k_dB_q {g : DF} {Q : D → Prop} {ds : List D} : k_dB g Q ds = g ds Q := rfl
theorem chB_b {k : Bool} {p q : Prop} : chB (.bl k) p q = if k = true then p else q := rfl
theorem tsB_b {b : Bool} {Q : Bool → Prop} : tsB (.bl b) Q = Q b := rfl
theorem dVar_s {i : Nat} {s : Slot} {ρ : List Slot} {Q : D → Prop} : dVar (i + 1) (s :: ρ) Q = dVar i ρ Q := rfl
theorem ownL_o {ds : List D} {P : List D → Prop} : ownL (some (.own (.lst ds))) P = P ds := rfl
theorem e_sAppend {i : Nat} {t : DE} {N : DN} {ρ : List Slot} : sAppend i t N ρ = ownL ρ[i]? (k_sAppend i t N ρ) := rfl
theorem e_sRetOwn {i : Nat} {N : DN} {ρ : List Slot} : sRetOwn i N ρ = ownD ρ[i]? (k_sRetOwn N) := rfl
theorem two_2 {d e : D} {P : D → D → Prop} : two [d, e] P = P d e := rfl
theorem three_3 {d e f : D} {P : D → D → D → Prop} : three [d, e, f] P = P d e f := rfl
theorem e_sPar {i j : Nat} {t : DA} {N : DN} {ρ : List Slot} : sPar i j t N ρ = t ρ (k_sPar i j N ρ) := rfl
theorem e_sPar3 {i j l : Nat} {t : DA} {N : DN} {ρ : List Slot} : sPar3 i j l t N ρ = t ρ (k_sPar3 i j l N ρ) := rfl
theorem asI_i {i : Int} {P : Int → Prop} : asI (.int i) P = P i := rfl
theorem e_dPart {t : DE} {ρ : List Slot} {Q : Option Int → Prop} : dPart t ρ Q = t ρ (k_asI (k_some Q)) := by
  unfold dPart
  rfl
theorem asS_l {ds : List D} {P : List D → Prop} : asS (.lst ds) P = P ds := rfl
theorem asS_t {ds : List D} {P : List D → Prop} : asS (.tup ds) P = P ds := rfl
theorem e_iSeq {t : DE} {ρ : List Slot} {Q : List D → Prop} : iSeq t ρ Q = t ρ (k_asS Q) := rfl
theorem one_1 {d : D} {P : D → Prop} : one [d] P = P d := rfl
theorem e_iRng1D {t : DA} {ρ : List Slot} {Q : List D → Prop} : iRng1D t ρ Q = t ρ (k_one (k_asI (k_rng1 Q))) := by
  unfold iRng1D
  congr
  funext ds
  rcases ds with _ | ⟨d, _ | ⟨_, _⟩⟩
  · rfl
  · cases d <;> rfl
  · cases d <;> rfl
theorem e_iRng2D {t : DA} {ρ : List Slot} {Q : List D → Prop} : iRng2D t ρ Q = t ρ (k_two (k_rng2 Q)) := by
  unfold iRng2D
  congr
  funext ds
  rcases ds with _ | ⟨d, _ | ⟨e, _ | ⟨_, _⟩⟩⟩
  · rfl
  · cases d <;> rfl
  · cases d <;> cases e <;> rfl
  · cases d <;> cases e <;> rfl
def k_for (g : DG) (b : DS) (N : DN) (ds : List D) (ρ' : List Slot) : Prop := b ⟨forD g b N ds, N.rt, N.nx, forD g b N ds, N.ro⟩ ρ'
theorem k_for_q {g : DG} {b : DS} {N : DN} {ds : List D} {ρ' : List Slot} : k_for g b N ds ρ' = b ⟨forD g b N ds, N.rt, N.nx, forD g b N ds, N.ro⟩ ρ' := rfl
theorem e_for_n {g : DG} {b : DS} {N : DN} {ρ : List Slot} : forD g b N [] ρ = N.nx ρ := rfl
theorem e_for_c {g : DG} {b : DS} {N : DN} {d : D} {ds : List D} {ρ : List Slot} : forD g b N (d :: ds) ρ = g d ρ (k_for g b N ds) := rfl
theorem wipeD_n {ρ : List Slot} : wipeD ρ [] = ρ := rfl
theorem wipeD_c {ρ : List Slot} {v : Nat} {vs : List Nat} : wipeD ρ (v :: vs) = (wipeD ρ vs).set v .un := rfl
theorem frz_0 {ρ : List Slot} {d : D} : frz 0 (.own d :: ρ) = .v d :: ρ := rfl
theorem frz_0v {ρ : List Slot} {d : D} : frz 0 (.v d :: ρ) = .v d :: ρ := rfl
theorem frz_s {i : Nat} {s : Slot} {ρ : List Slot} : frz (i + 1) (s :: ρ) = s :: frz i ρ := by
  unfold frz
  rw [List.getElem?_cons_succ]
  cases ρ[i]? with
  | none => rfl
  | some sl => cases sl <;> rfl
theorem slD_l {xs : List D} {lo hi : Option Int} {Q : D → Prop} : slD (.lst xs) lo hi Q = Q (.lst (cutD xs lo hi)) := rfl
theorem slD_t {xs : List D} {lo hi : Option Int} {Q : D → Prop} : slD (.tup xs) lo hi Q = (¬ (HT.sIx xs.length 0 lo = 0 ∧ HT.sIx xs.length xs.length hi = xs.length) ∧ Q (.tup (cutD xs lo hi))) := rfl

theorem roL_l {Q : D → Prop} {ds : List D} : roL Q (.lst ds) = Q (.lst ds) := propext ⟨fun z => z.2, fun z => ⟨rfl, z⟩⟩
theorem e_fnD {n m : Nat} {t : DS} {ds : List D} {Q : D → Prop} : fnD n m t ds Q = (ds.length = m ∧ t ⟨k_non Q, Q, k_no, k_no, roL Q⟩ (ds.map Slot.v ++ List.replicate (n - m) Slot.un)) := rfl
theorem e_sSeq {t u : DS} {N : DN} {ρ : List Slot} : sSeq t u N ρ = t { N with nx := u N } ρ := rfl
theorem e_sNext {N : DN} {ρ : List Slot} : sNext N ρ = N.nx ρ := rfl
theorem e_sBreak {N : DN} {ρ : List Slot} : sBreak N ρ = N.bk ρ := rfl
theorem e_sCont {N : DN} {ρ : List Slot} : sCont N ρ = N.ct ρ := rfl
theorem e_sSet {i : Nat} {t : DE} {N : DN} {ρ : List Slot} : sSet i t N ρ = t ρ (k_sSet i N ρ) := rfl
theorem e_sAsg {t : DE} {g : DG} {N : DN} {ρ : List Slot} : sAsg t g N ρ = t ρ (k_sAsg g N ρ) := rfl
theorem e_sAsg2 {i j : Nat} {t : DE} {N : DN} {ρ : List Slot} : sAsg2 i j t N ρ = t ρ (k_sAsg2 i j N ρ) := rfl
theorem e_sIf {c : DT} {t u : DS} {N : DN} {ρ : List Slot} : sIf c t u N ρ = c ρ (k_sIf t u N ρ) := rfl
theorem e_sRet {t : DE} {N : DN} {ρ : List Slot} : sRet t N ρ = t ρ N.rt := rfl
theorem e_sRetN {N : DN} {ρ : List Slot} : sRetN N ρ = N.rt .non := rfl
theorem e_sDrop {t : DE} {N : DN} {ρ : List Slot} : sDrop t N ρ = t ρ (k_sDrop N ρ) := rfl
theorem e_sNever {N : DN} {ρ : List Slot} : sNever N ρ = False := rfl
theorem e_sOwn {i : Nat} {t : DA} {N : DN} {ρ : List Slot} : sOwn i t N ρ = t ρ (k_sOwn i N ρ) := rfl
theorem e_sFrz {i : Nat} {t : DS} {N : DN} {ρ : List Slot} : sFrz i t N ρ = t N (frz i ρ) := rfl
theorem e_sFor {it : DI} {g : DG} {b : DS} {N : DN} {ρ : List Slot} : sFor it g b N ρ = it ρ (k_sFor g b N ρ) := rfl
theorem e_gN {i : Nat} {d : D} {ρ : List Slot} {Q : List Slot → Prop} : gN i d ρ Q = Q (ρ.set i (.v d)) := rfl
theorem e_gT_t {n : Nat} {gs : List D → List Slot → (List Slot → Prop) → Prop} {ds : List D} {ρ : List Slot} {Q : List Slot → Prop} : gT n gs (.tup ds) ρ Q = (ds.length = n ∧ gs ds ρ Q) := rfl
theorem e_gsNil_n {ρ : List Slot} {Q : List Slot → Prop} : gsNil [] ρ Q = ([] = ([] : List D) ∧ Q ρ) := rfl
theorem e_gsCons_c {g : DG} {gs : List D → List Slot → (List Slot → Prop) → Prop} {d : D} {r : List D} {ρ : List Slot} {Q : List Slot → Prop} : gsCons g gs (d :: r) ρ Q = g d ρ (k_gs gs r Q) := rfl
theorem e_dVar_0 {d : D} {ρ : List Slot} {Q : D → Prop} : dVar 0 (.v d :: ρ) Q = Q d := rfl
theorem e_dVar_0t {x : V} {d : D} {ρ : List Slot} {Q : D → Prop} : dVar 0 (.tg x d :: ρ) Q = Q d := rfl
theorem e_dC {d : D} {ρ : List Slot} {Q : D → Prop} : dC d ρ Q = Q d := rfl
theorem e_dOp {g : D2} {ta tb : DE} {ρ : List Slot} {Q : D → Prop} : dOp g ta tb ρ Q = ta ρ (k_dOp g tb ρ Q) := rfl
theorem e_dChain {g g' : D2} {ta tb tc : DE} {ρ : List Slot} {Q : D → Prop} : dChain g g' ta tb tc ρ Q = ta ρ (k_dCh1 g g' tb tc ρ Q) := rfl
theorem e_dUn {g : D → (D → Prop) → Prop} {ta : DE} {ρ : List Slot} {Q : D → Prop} : dUn g ta ρ Q = ta ρ (k_dUn g Q) := rfl
theorem e_dTest {t : DE} {ρ : List Slot} {Q : Bool → Prop} : dTest t ρ Q = t ρ (k_dTest Q) := rfl
theorem e_dAnd {t u : DT} {ρ : List Slot} {Q : Bool → Prop} : dAnd t u ρ Q = t ρ (k_dAnd u ρ Q) := rfl
theorem e_dOr {t u : DT} {ρ : List Slot} {Q : Bool → Prop} : dOr t u ρ Q = t ρ (k_dOr u ρ Q) := rfl
theorem e_dNot {t : DT} {ρ : List Slot} {Q : Bool → Prop} : dNot t ρ Q = t ρ (k_dNot Q) := rfl
theorem e_dAndV {ta tb : DE} {ρ : List Slot} {Q : D → Prop} : dAndV ta tb ρ Q = ta ρ (k_dAndV tb ρ Q) := rfl
theorem e_dOrV {ta tb : DE} {ρ : List Slot} {Q : D → Prop} : dOrV ta tb ρ Q = ta ρ (k_dOrV tb ρ Q) := rfl
theorem e_dIf {c : DT} {ta tb : DE} {ρ : List Slot} {Q : D → Prop} : dIf c ta tb ρ Q = c ρ (k_dIf ta tb ρ Q) := rfl
theorem e_dNil {ρ : List Slot} {Q : List D → Prop} : dNil ρ Q = Q [] := rfl
theorem e_dCons {ta : DE} {tr : DA} {ρ : List Slot} {Q : List D → Prop} : dCons ta tr ρ Q = ta ρ (k_dCons tr ρ Q) := rfl
theorem e_dTup {t : DA} {ρ : List Slot} {Q : D → Prop} : dTup t ρ Q = t ρ (k_dTup Q) := rfl
theorem e_dLst {t : DA} {ρ : List Slot} {Q : D → Prop} : dLst t ρ Q = t ρ (k_dLst Q) := rfl
theorem e_dCall {f : DSp} {dd : List D} {tr : DA} {ρ : List Slot} {Q : D → Prop} : dCall f dd tr ρ Q = tr ρ (k_dCall f dd Q) := rfl
theorem e_dB {g : DF} {tr : DA} {ρ : List Slot} {Q : D → Prop} : dB g tr ρ Q = tr ρ (k_dB g Q) := rfl
theorem e_dIsi {T : String} {t : DE} {ρ : List Slot} {Q : D → Prop} : dIsi T t ρ Q = t ρ (k_dIsi T Q) := rfl
theorem e_dIsi2 {T S : String} {t : DE} {ρ : List Slot} {Q : D → Prop} : dIsi2 T S t ρ Q = t ρ (k_dIsi2 T S Q) := rfl
theorem e_dSl {t : DE} {l h : DO} {ρ : List Slot} {Q : D → Prop} : dSl t l h ρ Q = t ρ (k_dSl l h ρ Q) := rfl
theorem e_dRev {t : DE} {ρ : List Slot} {Q : D → Prop} : dRev t ρ Q = t ρ (k_dRev Q) := rfl
theorem e_dNo {ρ : List Slot} {Q : Option Int → Prop} : dNo ρ Q = Q none := rfl
theorem e_dYes {ρ : List Slot} {Q : Bool → Prop} : dYes ρ Q = Q true := rfl
theorem e_dLc {it : DI} {g : DG} {tt : DT} {te : DE} {vs : List Nat} {ρ : List Slot} {Q : D → Prop} : dLc it g tt te vs ρ Q = it ρ (k_dLc g tt te (wipeD ρ vs) Q) := rfl
/-! ### closures of what is lent -/
def k_rtNl (Q : D → Prop) (d : D) : Prop := d.noLst = true ∧ Q d
theorem k_rtNl_q {Q : D → Prop} {d : D} : k_rtNl Q d = (d.noLst = true ∧ Q d) := rfl
theorem e_fnO {n m : Nat} {t : DS} {ds : List D} {Q : D → Prop} : fnO n m t ds Q = (ds.length = m ∧ t ⟨k_non Q, k_rtNl Q, k_no, k_no, Q⟩ (ds.map Slot.v ++ List.replicate (n - m) Slot.un)) := rfl
def k_sSetO (i : Nat) (N : DN) (ρ : List Slot) (d : D) : Prop := N.nx (ρ.set i (ownS d))
theorem k_sSetO_q {i : Nat} {N : DN} {ρ : List Slot} {d : D} : k_sSetO i N ρ d = N.nx (ρ.set i (ownS d)) := rfl
theorem e_sSetO {i : Nat} {t : DE} {N : DN} {ρ : List Slot} : sSetO i t N ρ = t ρ (k_sSetO i N ρ) := rfl
def k_sRetO (N : DN) (d : D) : Prop := if d.noLst = true then N.rt d else N.ro d
theorem k_sRetO_q {N : DN} {d : D} : k_sRetO N d = if d.noLst = true then N.rt d else N.ro d := rfl
theorem e_sRetO {t : DE} {N : DN} {ρ : List Slot} : sRetO t N ρ = t ρ (k_sRetO N) := rfl
def k_nl (Q : D → Prop) (d : D) : Prop := d.noLst = true ∧ Q d
theorem k_nl_q {Q : D → Prop} {d : D} : k_nl Q d = (d.noLst = true ∧ Q d) := rfl
def k_nls (Q : List D → Prop) (ds : List D) : Prop := D.noLsts ds = true ∧ Q ds
theorem k_nls_q {Q : List D → Prop} {ds : List D} : k_nls Q ds = (D.noLsts ds = true ∧ Q ds) := rfl
def k_nlc (Q : D → Prop) (d : D) : Prop := d.nlc = true ∧ Q d
theorem k_nlc_q {Q : D → Prop} {d : D} : k_nlc Q d = (d.nlc = true ∧ Q d) := rfl
theorem e_dBor {i : Nat} {t : DE} {ρ : List Slot} {Q : D → Prop} : dBor i t ρ Q = t (frz i ρ) (k_nl Q) := rfl
theorem e_dBorO {i : Nat} {t : DE} {ρ : List Slot} {Q : D → Prop} : dBorO i t ρ Q = t (frz i ρ) (k_nlc Q) := rfl
theorem e_dBorA {i : Nat} {t : DA} {ρ : List Slot} {Q : List D → Prop} : dBorA i t ρ Q = t (frz i ρ) (k_nls Q) := rfl
theorem e_dBorT {i : Nat} {t : DT} {ρ : List Slot} {Q : Bool → Prop} : dBorT i t ρ Q = t (frz i ρ) Q := rfl
theorem frz_0u {ρ : List Slot} : frz 0 (.un :: ρ) = .un :: ρ := rfl
theorem frz_0t {x : V} {d : D} {ρ : List Slot} : frz 0 (.tg x d :: ρ) = .tg x d :: ρ := rfl
def k_back (i : Nat) (vs : Nat → V) (d : D) (P : List Slot → Prop) (ρ ρ' : List Slot) : Prop := ρ'[i]? = some (.tg (vs i) d) ∧ ρ.length = ρ'.length ∧ P (backAll vs i 0 ρ ρ')
theorem k_back_q {i : Nat} {vs : Nat → V} {d : D} {P : List Slot → Prop} {ρ ρ' : List Slot} : k_back i vs d P ρ ρ' = (ρ'[i]? = some (.tg (vs i) d) ∧ ρ.length = ρ'.length ∧ P (backAll vs i 0 ρ ρ')) := rfl
def k_lend (i : Nat) (t : DS) (N : DN) (ρ : List Slot) (d : D) : Prop := ∀ vs : Nat → V, t ⟨k_back i vs d N.nx ρ, N.rt, k_back i vs d N.bk ρ, k_back i vs d N.ct ρ, N.ro⟩ (tagAll vs 0 (ρ.set i (.v d)))
theorem k_lend_q {i : Nat} {t : DS} {N : DN} {ρ : List Slot} {d : D} : k_lend i t N ρ d = ∀ vs : Nat → V, t ⟨k_back i vs d N.nx ρ, N.rt, k_back i vs d N.bk ρ, k_back i vs d N.ct ρ, N.ro⟩ (tagAll vs 0 (ρ.set i (.v d))) := rfl
theorem e_sLend {i : Nat} {t : DS} {N : DN} {ρ : List Slot} : sLend i t N ρ = ownD ρ[i]? (k_lend i t N ρ) := rfl
section
variable {vs : Nat → V} {i j : Nat} {ρ ρ' : List Slot} {d e : D} {ds : List D} {u w : V} {b : Bool} {s s' : Slot}
theorem tag_n : tagAll vs j [] = [] := rfl
theorem tag_c : tagAll vs j (s :: ρ) = tagS (vs j) s :: tagAll vs (j + 1) ρ := rfl
theorem tagS_v : tagS u (.v d) = .tg u d := rfl
theorem tagS_u : tagS u .un = .un := rfl
theorem tagS_o : tagS u (.own d) = .own d := rfl
theorem tagS_t : tagS u (.tg w d) = .tg w d := rfl
theorem back_n : backAll vs i j [] [] = [] := rfl
theorem back_c : backAll vs i j (s :: ρ) (s' :: ρ') = backS (decide (j = i)) (vs j) s s' :: backAll vs i (j + 1) ρ ρ' := rfl
theorem backS_vt : backS b u (.v d) (.tg u e) = .v d := if_pos rfl
theorem backS_tt : backS b u (.tg w d) (.tg w e) = .tg w d := if_pos rfl
theorem backS_ot : backS true u (.own d) (.tg u e) = .own d := if_pos ⟨rfl, rfl⟩
theorem backS_ut : backS b u .un (.tg w e) = .un := rfl
theorem backS_u : backS b u s .un = .un := by cases s <;> rfl
theorem backS_v : backS b u s (.v d) = if d.noLst = true then .v d else .un := by cases s <;> rfl
theorem backS_l : backS b u s (.own (.lst ds)) = if D.noLsts ds = true then .own (.lst ds) else .un := by cases s <;> rfl
theorem backS_d {kvs : List (D × D)} : backS b u s (.own (.dic kvs)) = if D.noLsts (kvs.map (·.2)) = true then .own (.dic kvs) else .un := by cases s <;> rfl
theorem ownS_l : ownS (.lst ds) = .own (.lst ds) := rfl
theorem ownS_d {kvs : List (D × D)} : ownS (.dic kvs) = .own (.dic kvs) := rfl
theorem ownS_t : ownS (.tup ds) = .v (.tup ds) := rfl
theorem ownS_i {i : Int} : ownS (.int i) = .v (.int i) := rfl
theorem ownS_n : ownS .non = .v .non := rfl
theorem noLst_l : (D.lst ds).noLst = false := rfl
theorem noLst_i {i : Int} : (D.int i).noLst = true := rfl
theorem noLst_b {i : Bool} : (D.bl i).noLst = true := rfl
theorem noLst_s {i : Str} : (D.str i).noLst = true := rfl
theorem noLst_n : D.non.noLst = true := rfl
theorem noLst_d {kvs : List (D × D)} : (D.dic kvs).noLst = false := rfl
theorem noLst_t : (D.tup ds).noLst = D.noLsts ds := by simp only [D.noLst]
theorem noLsts_n : D.noLsts [] = true := by simp only [D.noLsts]
theorem noLsts_c : D.noLsts (d :: ds) = (d.noLst && D.noLsts ds) := by simp only [D.noLsts]
theorem nlc_l : (D.lst ds).nlc = D.noLsts ds := rfl
theorem nlc_d {kvs : List (D × D)} : (D.dic kvs).nlc = D.noLsts (kvs.map (·.2)) := rfl
theorem nlc_i {i : Int} : (D.int i).nlc = true := rfl
theorem nlc_b {i : Bool} : (D.bl i).nlc = true := rfl
theorem nlc_t : (D.tup ds).nlc = D.noLsts ds := noLst_t
end
def ownK (s : Option Slot) (P : List (D × D) → Prop) : Prop := match s with
  | some (.own (.dic ds)) => P ds
  | _ => False
theorem ownK_o {ds : List (D × D)} {P : List (D × D) → Prop} : ownK (some (.own (.dic ds))) P = P ds := rfl
def k_put2 (i : Nat) (N : DN) (ρ : List Slot) (kvs : List (D × D)) (v k : D) : Prop := keyFor kvs k ∧ kvs.length < sizeLine ∧ N.nx (ρ.set i (.own (.dic (dputD kvs k v))))
theorem k_put2_q {i : Nat} {N : DN} {ρ : List Slot} {kvs : List (D × D)} {v k : D} : k_put2 i N ρ kvs v k = (keyFor kvs k ∧ kvs.length < sizeLine ∧ N.nx (ρ.set i (.own (.dic (dputD kvs k v))))) := rfl
def k_put1 (i : Nat) (tk : DE) (N : DN) (ρ : List Slot) (kvs : List (D × D)) (v : D) : Prop := tk ρ (k_put2 i N ρ kvs v)
theorem k_put1_q {i : Nat} {tk : DE} {N : DN} {ρ : List Slot} {kvs : List (D × D)} {v : D} : k_put1 i tk N ρ kvs v = tk ρ (k_put2 i N ρ kvs v) := rfl
def k_put (i : Nat) (tk tv : DE) (N : DN) (ρ : List Slot) (kvs : List (D × D)) : Prop := tv ρ (k_put1 i tk N ρ kvs)
theorem k_put_q {i : Nat} {tk tv : DE} {N : DN} {ρ : List Slot} {kvs : List (D × D)} : k_put i tk tv N ρ kvs = tv ρ (k_put1 i tk N ρ kvs) := rfl
theorem e_sPutD {i : Nat} {tk tv : DE} {N : DN} {ρ : List Slot} : sPutD i tk tv N ρ = ownK ρ[i]? (k_put i tk tv N ρ) := rfl
theorem e_dD0 {ρ : List Slot} {Q : D → Prop} : dD0 ρ Q = Q (.dic []) := rfl
theorem inKD_d {x : D} {kvs : List (D × D)} {Q : D → Prop} : inKD x (.dic kvs) Q = (keyFor kvs x ∧ Q (.bl (dgetD kvs x).isSome)) := rfl
theorem notInKD_d {x : D} {kvs : List (D × D)} {Q : D → Prop} : notInKD x (.dic kvs) Q = (keyFor kvs x ∧ Q (.bl (!(dgetD kvs x).isSome))) := rfl
end DV

/-! ### sum of lists, from a list on -/
namespace DV
open PySem PySem.Spec PyProof.Rows L2
section
variable {prog : Program} {w : World} {A : Around} {R : Result → Shared → Prop} {I : Addr} {fp wr : List Addr} {G : Array GenState → Array GenState → Prop} {n : Nat} {P : Nat → Value → Prop} {St : Nat → Shared → Prop}
end
section
variable {prog : Program} {w : World} {A : Around} {E : Value → Shared → Prop} {s : Shared}
end
section
variable {X : Cx} {K : PySem.W.Frag}
end
end DV

/-! ### slices with a step -/
namespace DV
open PySem PySem.Spec PyProof.Rows PyProof.V L2
def ixs (lo hi : Option Int) (c : Int) (n : Nat) : List Nat := (List.range (Builtin.Slice.slicePlaces (Builtin.Slice.sliceAdjust lo hi c n).1 (Builtin.Slice.sliceAdjust lo hi c n).2 c)).map fun (k : Nat) => ((Builtin.Slice.sliceAdjust lo hi c n).1 + (k : Int) * c).toNat
def ixsL (lo hi : Option Int) (c : Int) (n : Nat) : List Nat := sliceRange (sliceBounds lo hi (some c) n).1 (sliceBounds lo hi (some c) n).2.1 (sliceBounds lo hi (some c) n).2.2
def pick {α : Type} (xs : List α) (l : List Nat) : List α := l.filterMap (xs[·]?)
section
variable {prog : Program} {w : World} {A : Around} {E : Value → Shared → Prop} {s : Shared}
end
def sl3D (x : D) (lo hi st : Option Int) (Q : D → Prop) : Prop := match st with
  | none => False
  | some c => c ≠ 0 ∧ (match x with
    | .lst ds => Q (.lst (pick ds (ixsL lo hi c ds.length)))
    | .tup ds => c ≠ 1 ∧ (pick ds (ixs lo hi c ds.length)).length ≤ sizeLine ∧ Q (.tup (pick ds (ixs lo hi c ds.length)))
    | _ => False)
def dSl3 (t : DE) (l h c : DO) : DE := fun ρ Q => t ρ fun x => l ρ fun lo => h ρ fun hi => c ρ fun st => sl3D x lo hi st Q
end DV

namespace DV
open PySem PySem.Spec PyProof.Rows L2 PySem.SeqAt
open AutoSeq1 (wpAny_loadPart')
open MeetsSeq MeetsSeq2 MeetsSeq3 SeqRoads2

/-! ### the order of nested keys -/
abbrev Tk := Int ⊕ List Nat
abbrev lexT (a b : List Tk) : Bool := PyProof.Rows.lexLt itemOrd a b
theorem lexT_one (p q : Tk) : lexT [p] [q] = itemLt p q := W.lex_one p q
mutual
def tkN : NestedKey → List Tk
  | .none => [.inl 0]
  | .num i => [.inl i]
  | .text x => [.inr x.cps.toList]
  | .tup ks => tksN ks
def tksN : List NestedKey → List Tk
  | [] => [.inl 0]
  | k :: ks => .inl 1 :: (tkN k ++ tksN ks)
end
def ltN (x y : NestedKey) : Bool := lexT (tkN x) (tkN y)
mutual
/-- x < y may be asked -/
def LOk : NestedKey → NestedKey → Prop
  | .num _, .num _ => True
  | .text _, .text _ => True
  | .tup a, .tup b => LOks a b
  | _, _ => False
def LOks : List NestedKey → List NestedKey → Prop
  | x :: xs, y :: ys => (x = y → LOks xs ys) ∧ (x ≠ y → LOk x y)
  | _, _ => True
end
theorem lexT_app {x y : Tk} (h : x ≠ y) (l m : List Tk) : lexT (x :: l) (y :: m) = lexT [x] [y] := W.lex_atom h l m
mutual
theorem ltN_app : ∀ (x y : NestedKey), LOk x y → x ≠ y → ∀ l m, lexT (tkN x ++ l) (tkN y ++ m) = lexT (tkN x) (tkN y)
  | .num i, .num j, _, n, l, m => by
    simp only [tkN, List.cons_append, List.nil_append]
    exact lexT_app (fun z => n (by injection z with z; rw [z])) _ _
  | .text a, .text b, _, n, l, m => by
    simp only [tkN, List.cons_append, List.nil_append]
    exact lexT_app (fun z => n (by injection z with z; rw [W.str_of_cps z])) _ _
  | .tup a, .tup b, h, n, l, m => by
    simp only [tkN]
    simp only [LOk] at h
    exact ltNs_app a b h (fun z => n (by rw [z])) l m
  | .none, _, h, _, _, _ => by simp [LOk] at h
  | .num _, .none, h, _, _, _ => by simp [LOk] at h
  | .num _, .text _, h, _, _, _ => by simp [LOk] at h
  | .num _, .tup _, h, _, _, _ => by simp [LOk] at h
  | .text _, .none, h, _, _, _ => by simp [LOk] at h
  | .text _, .num _, h, _, _, _ => by simp [LOk] at h
  | .text _, .tup _, h, _, _, _ => by simp [LOk] at h
  | .tup _, .none, h, _, _, _ => by simp [LOk] at h
  | .tup _, .num _, h, _, _, _ => by simp [LOk] at h
  | .tup _, .text _, h, _, _, _ => by simp [LOk] at h
theorem ltNs_app : ∀ (xs ys : List NestedKey), LOks xs ys → xs ≠ ys → ∀ l m, lexT (tksN xs ++ l) (tksN ys ++ m) = lexT (tksN xs) (tksN ys)
  | [], [], _, n, _, _ => absurd rfl n
  | [], y :: ys, _, _, l, m => by
    simp only [tksN, List.cons_append, List.nil_append]
    exact (lexT_app (fun z => by cases z) _ _).trans (lexT_app (fun z => by cases z) _ _).symm
  | x :: xs, [], _, _, l, m => by
    simp only [tksN, List.cons_append, List.nil_append]
    exact (lexT_app (fun z => by cases z) _ _).trans (lexT_app (fun z => by cases z) _ _).symm
  | x :: xs, y :: ys, h, n, l, m => by
    simp only [LOks] at h
    simp only [tksN, List.cons_append, List.append_assoc]
    by_cases e : x = y
    · subst e
      have e1 := W.lex_pre (Sum.inl 1 :: tkN x) (tksN xs ++ l) (tksN ys ++ m)
      have e2 := W.lex_pre (Sum.inl 1 :: tkN x) (tksN xs) (tksN ys)
      rw [List.cons_append] at e1 e2
      rw [List.cons_append] at e1 e2
      exact e1.trans ((ltNs_app xs ys (h.1 rfl) (fun z => n (by rw [z])) l m).trans e2.symm)
    · have k := h.2 e
      have e1 := W.lex_pre [Sum.inl 1] (tkN x ++ (tksN xs ++ l)) (tkN y ++ (tksN ys ++ m))
      have e2 := W.lex_pre [Sum.inl 1] (tkN x ++ tksN xs) (tkN y ++ tksN ys)
      simp only [List.cons_append, List.nil_append] at e1 e2
      exact e1.trans ((ltN_app x y k e _ _).trans ((ltN_app x y k e _ _).symm.trans e2.symm))
end
theorem ltNs_nc {y : NestedKey} {ys : List NestedKey} : lexT (tksN []) (tksN (y :: ys)) = true := by
  simp only [tksN]
  rw [lexT_app (fun z => by cases z)]
  rw [lexT_one]
  rfl
theorem ltNs_eq {x : NestedKey} {xs ys : List NestedKey} : lexT (tksN (x :: xs)) (tksN (x :: ys)) = lexT (tksN xs) (tksN ys) := by
  have e2 := W.lex_pre (Sum.inl 1 :: tkN x) (tksN xs) (tksN ys)
  rw [List.cons_append, List.cons_append] at e2
  simp only [tksN]
  exact e2
theorem ltNs_ne {x y : NestedKey} {xs ys : List NestedKey} (h : LOk x y) (n : x ≠ y) : lexT (tksN (x :: xs)) (tksN (y :: ys)) = ltN x y := by
  have e2 := W.lex_pre [Sum.inl 1] (tkN x ++ tksN xs) (tkN y ++ tksN ys)
  simp only [List.cons_append, List.nil_append] at e2
  simp only [tksN]
  exact e2.trans (ltN_app x y h n _ _)
theorem ltN_num {i j : Int} : ltN (.num i) (.num j) = decide (i < j) := by
  unfold ltN
  simp only [tkN]
  rw [lexT_one]; rfl
theorem ltN_text {x y : Str} : ltN (.text x) (.text y) = decide (x.cps.toList < y.cps.toList) := by
  have := W.dataLt_str x y
  unfold W.dataLt at this
  simp only [W.keyToks] at this
  unfold ltN
  simp only [tkN]
  exact this
theorem ltN_tup {xs ys : List NestedKey} : ltN (.tup xs) (.tup ys) = lexT (tksN xs) (tksN ys) := by
  unfold ltN
  simp only [tkN]

/-! values -/
mutual
inductive Sv (h : Heap) : NestedKey → Value → Prop
  | num (i t) : Sv h (.num i) (.int i t)
  | text (x t) : Sv h (.text x) (.str x t)
  | tup {a o vs n ks} : h.get? a = some o → o.cls = .type "tuple" → o.data = .seq vs n → Svs h ks vs.toList → Sv h (.tup ks) (.ref a)
inductive Svs (h : Heap) : List NestedKey → List Value → Prop
  | nil : Svs h [] []
  | cons {k v ks vs} : Sv h k v → Svs h ks vs → Svs h (k :: ks) (v :: vs)
end
mutual
theorem Sv.nested {h : Heap} : ∀ {k : NestedKey} {v : Value}, Sv h k v → NestedIs h k v
  | _, _, .num i t => .int i t
  | _, _, .text x t => .text x t
  | _, _, .tup h1 h2 h3 h4 => .tup h1 h2 h3 (Svs.nested h4)
theorem Svs.nested {h : Heap} : ∀ {k : List NestedKey} {v : List Value}, Svs h k v → NestedAll h k v
  | _, _, .nil => .nil
  | _, _, .cons a b => .cons (Sv.nested a) (Svs.nested b)
end
end DV

namespace DV
open PySem PySem.Spec PyProof.Rows L2 PySem.SeqAt

/-! ### < on values -/
section
variable {prog : Program} {w : World} {A : Around} {E : Value → Shared → Prop} {s : Shared}
end

/-! ### sorting -/
/-- what may be sorted: one kind of things, each two comparable -/
def kindN : NestedKey → Option Nat
  | .num _ => some 0
  | .text _ => some 1
  | .tup (.num _ :: _) => some 2
  | .tup (.text _ :: _) => some 3
  | .tup (.tup _ :: _) => some 4
  | _ => none
structure SrtN (ks : List NestedKey) : Prop where
  kind : ∃ n, ∀ k ∈ ks, kindN k = some n
  ok : ∀ k ∈ ks, ∀ j ∈ ks, LOk k j
  deep : ∀ k ∈ ks, k.depth ≤ 8
section
variable {prog : Program} {w : World} {A : Around} {E : Value → Shared → Prop} {s : Shared}
end
end DV

namespace DV
open PySem PySem.Spec PyProof.Rows L2 PySem.SeqAt

/-! ### sorted(..) on data -/
mutual
def D.nt : D → NestedKey
  | .int i => .num i
  | .str x => .text x
  | .tup ds => .tup (D.nts ds)
  | _ => .none
def D.nts : List D → List NestedKey
  | [] => []
  | d :: ds => D.nt d :: D.nts ds
end
mutual
def D.srt : D → Bool
  | .int _ => true
  | .str _ => true
  | .tup ds => D.srts ds
  | _ => false
def D.srts : List D → Bool
  | [] => true
  | d :: ds => D.srt d && D.srts ds
end
structure SrtD (ds : List D) : Prop where
  ok : SrtN (ds.map D.nt)
  all : ∀ d ∈ ds, d.srt = true
section
variable {X : Cx} {pins : List (Addr × Obj)} {σ : L2.St} {F H : Hp} {s : Shared}
/-- the sorted row, as data -/
def SortTo (ds ys : List D) : Prop := ys.Perm ds ∧ ys.Pairwise fun a b => ltN b.nt a.nt = false
def sortedC : DF := fun ds Q => match ds with
  | [.lst xs] => SrtD xs ∧ ∀ ys, SortTo xs ys → Q (.lst ys)
  | [.dic kvs] => SrtD (kvs.map (·.1)) ∧ ∀ ys, SortTo (kvs.map (·.1)) ys → Q (.lst ys)
  | [.tup xs] => xs.length ≤ sizeLine ∧ SrtD xs ∧ ∀ ys, SortTo xs ys → Q (.lst ys)
  | _ => False
end
end DV

namespace DV
open PySem PySem.Spec PyProof.Rows L2
/-! ### loops over enumerate(xs), zip(xs, ys) -/
def enumD : Nat → List D → List D
  | _, [] => []
  | n, d :: ds => .tup [.int (n : Int), d] :: enumD (n + 1) ds
def zipD : List D → List D → List D
  | d :: ds, e :: es => .tup [d, e] :: zipD ds es
  | _, _ => []
def iEnumD (t : DA) : DI := fun ρ Q => t ρ fun ds => match ds with
  | [.lst xs] => Q (enumD 0 xs)
  | _ => False
def iZipD (t : DA) : DI := fun ρ Q => t ρ fun ds => match ds with
  | [.lst xs, .lst ys] => Q (zipD xs ys)
  | _ => False
section
variable {X : Cx} {e e2 : Expr} {tr : DA}
end
/-! ### the truth of things -/
def truD (x : D) (Q : Bool → Prop) : Prop := match x with
  | .bl b => Q b
  | .non => Q false
  | .int i => Q (decide (i ≠ 0))
  | .lst ds => Q (!ds.isEmpty)
  | .tup ds => Q (!ds.isEmpty)
  | _ => False
def dTru (t : DE) : DT := fun ρ Q => t ρ fun x => truD x Q
end DV

namespace DV
open PySem PySem.Spec PyProof.Rows L2
/-! ### list(zip(xs, ys)) -/
section
variable {prog : Program} {w : World} {A : Around} {E : Value → Shared → Prop} {s : Shared}
structure ZAt (z TI TO i1 i2 l1 l2 S : Addr) (xs ys : Array Value) (i : Nat) (h : Heap) : Prop where
  ti : IsPair h TI (.ref i1) (.ref i2)
  it1 : h.IsListIter i1 l1 i
  it2 : h.IsListIter i2 l2 i
  ls1 : h.IsList l1 xs
  ls2 : h.IsList l2 ys
  zp : (IsZip h z TI TO .none ∧ ∃ a b, IsPair h TO a b) ∨ ∃ T f oT, IsZipHeld h z TI TO T f ∧ h.get? T = some oT ∧ T ≠ z ∧ T ≠ i1 ∧ T ≠ i2 ∧ T ≠ S
structure ZOff (z TI TO i1 i2 l1 l2 S : Addr) : Prop where
  z : z ≠ S
  TI : TI ≠ S
  TO : TO ≠ S
  i1 : i1 ≠ S
  i2 : i2 ≠ S
  l1 : l1 ≠ S
  l2 : l2 ≠ S
variable {z TI TO i1 i2 l1 l2 S : Addr} {xs ys : Array Value}
theorem ZAt.keep {i : Nat} {h h' : Heap} (D : ZOff z TI TO i1 i2 l1 l2 S) (x : ZAt z TI TO i1 i2 l1 l2 S xs ys i h) (hk : ∀ b o, b ≠ S → h.get? b = some o → h'.get? b = some o) : ZAt z TI TO i1 i2 l1 l2 S xs ys i h' :=
  ⟨hk _ _ D.TI x.ti, x.it1.at fun o e => hk _ o D.i1 e, x.it2.at fun o e => hk _ o D.i2 e, x.ls1.at fun o e => hk _ o D.l1 e, x.ls2.at fun o e => hk _ o D.l2 e,
    x.zp.imp (fun ⟨a, b, c, d⟩ => ⟨hk _ _ D.z a, b, c, hk _ _ D.TO d⟩) fun ⟨T, f, oT, a, b, r1, r2, r3, r4⟩ => ⟨T, f, oT, hk _ _ D.z a, hk _ _ r4 b, r1, r2, r3, r4⟩⟩
/-- the next pair: a new object -/
theorem ZAt.next {i : Nat} {Q : Option Value → Shared → Prop} (D : ZipApart z TI TO i1 i2 l1 l2) (hS : S < s.heap.objs.size) (st : ZAt z TI TO i1 i2 l1 l2 S xs ys i s.heap) (h1 : i < xs.size) (h2 : i < ys.size)
    (hQ : ∀ h', ZAt z TI TO i1 i2 l1 l2 S xs ys (i + 1) h' → IsPair h' s.heap.objs.size xs[i] ys[i] → (∀ c o, c ≠ z → c ≠ TO → c ≠ i1 → c ≠ i2 → s.heap.get? c = some o → h'.get? c = some o) → Q (some (.ref s.heap.objs.size)) { s with heap := h' }) :
    wpAny (model prog w) A (pyNext (.ref z)) Q E s := by
  have ex := Array.getElem?_eq_getElem h1
  have ey := Array.getElem?_eq_getElem h2
  have lt : ∀ {c o}, s.heap.get? c = some o → s.heap.objs.size ≠ c := fun e => Nat.ne_of_gt (Heap.lt_size e)
  have n1 : s.heap.objs.size ≠ i1 := let ⟨_, e, _⟩ := st.it1; lt e
  have n2 : s.heap.objs.size ≠ i2 := let ⟨_, e, _⟩ := st.it2; lt e
  rcases st.zp with ⟨hz, a, b, hTO⟩ | ⟨T, f, oT, hz, hT, r1, r2, r3, r4⟩
  · refine wpAny_pyNext_zip_item D hz st.ti hTO st.it1 st.it2 st.ls1 st.ls2 ex ey fun h' a1 a2 a3 a4 a5 a6 hk => ?_
    exact hQ h' ⟨hk _ _ D.TIz D.TITO D.TIi1 D.TIi2 st.ti, a3, a4, st.ls1.at fun o e => hk _ o D.l1z D.l1TO D.l1i1 D.l1i2 e, st.ls2.at fun o e => hk _ o D.l2z D.l2TO D.l2i1 D.l2i2 e,
      .inr ⟨s.heap.objs.size, false, _, a1, a5, lt hz, n1, n2, Nat.ne_of_gt hS⟩⟩ a5 hk
  · refine wpAny_pyNext_zip_item_held D hz hT st.ti st.it1 st.it2 st.ls1 st.ls2 ex ey fun h' a1 a3 a4 a5 a6 hk => ?_
    exact hQ h' ⟨hk _ _ D.TIz D.TIi1 D.TIi2 st.ti, a3, a4, st.ls1.at fun o e => hk _ o D.l1z D.l1i1 D.l1i2 e, st.ls2.at fun o e => hk _ o D.l2z D.l2i1 D.l2i2 e,
      .inr ⟨T, true, oT, a1, hk _ _ r1 r2 r3 hT, r1, r2, r3, r4⟩⟩ a5 fun c o c1 _ c3 c4 e => hk c o c1 c3 c4 e
theorem ZAt.done {i : Nat} {Q : Option Value → Shared → Prop} (hh : A.handled = none) (D : ZipApart z TI TO i1 i2 l1 l2) (st : ZAt z TI TO i1 i2 l1 l2 S xs ys i s.heap) (hend : xs.size ≤ i ∨ ys.size ≤ i)
    (hQ : ∀ h', (∀ c o, c ≠ z → c ≠ TO → c ≠ i1 → c ≠ i2 → s.heap.get? c = some o → h'.get? c = some o) → Q none { s with heap := h' }) : wpAny (model prog w) A (pyNext (.ref z)) Q E s := by
  have hend' : xs[i]? = none ∨ ys[i]? = none := hend.imp (fun h => Array.getElem?_eq_none h) fun h => Array.getElem?_eq_none h
  rcases st.zp with ⟨hz, a, b, hTO⟩ | ⟨T, f, oT, hz, hT, r1, r2, r3, r4⟩
  · exact wpAny_pyNext_zip_end hh D hz st.ti hTO st.it1 st.it2 st.ls1 st.ls2 hend' fun h' hk => hQ h' hk
  · exact wpAny_pyNext_zip_end_held hh D hz hT st.ti st.it1 st.it2 st.ls1 st.ls2 hend' fun h' hk => hQ h' fun c o c1 _ c3 c4 e => hk c o c1 c3 c4 e
end
/-- list(zip(xs, ys)) -/
def dZipL (tr : DA) : DE := fun ρ Q => tr ρ fun ds => match ds with
  | [.lst xs, .lst ys] => Q (.lst (zipD xs ys))
  | _ => False
end DV

namespace DV
open PySem PySem.Spec PyProof.Rows L2
/-! ### walks over dicts whose keys are texts and numbers -/
def iKeysD (t : DE) : DI := fun ρ Q => t ρ fun d => match d with
  | .dic kvs => (∀ q ∈ kvs, q.1.flt = true) ∧ Q (kvs.map (·.1))
  | _ => False
def iValsD (t : DE) : DI := fun ρ Q => t ρ fun d => match d with
  | .dic kvs => (∀ q ∈ kvs, q.1.flt = true) ∧ Q (kvs.map (·.2))
  | _ => False
def iItemsD (t : DE) : DI := fun ρ Q => t ρ fun d => match d with
  | .dic kvs => (∀ q ∈ kvs, q.1.flt = true) ∧ Q (kvs.map tup2)
  | _ => False
section
variable {X : Cx} {tg e : Expr} {t : DE} {apos cpos : Pos}
/-- dict(d): a copy -/
def dictK : DF := fun ds Q => match ds with
  | [.dic kvs] => (∀ q ∈ kvs, q.1.flt = true) ∧ Q (.dic kvs)
  | _ => False
/-! ### x in a tuple -/
def inTD : D2 := fun x y Q => match y with
  | .tup ds => x.lay = true ∧ (D.tup ds).lay = true ∧ Q (.bl (ds.any fun z => D.eqb z x))
  | _ => False
end
end DV

namespace DV
open PySem PySem.Spec PyProof.Rows L2
/-! ### comprehensions with two for parts -/
def Slot.fg : Slot → Slot
  | .own _ => .un
  | s => s
def fgs (ρ : List Slot) : List Slot := ρ.map Slot.fg
def lcA (g : DG) (tt : DT) (te : DE) (ρ : List Slot) : List D → List D → (List D → Prop) → Prop
  | [], acc, Q => Q acc
  | d :: ds, acc, Q => g d ρ fun ρ2 => tt ρ2 fun b => if b = true then te ρ2 fun y => acc.length < sizeLine ∧ lcA g tt te ρ ds (acc ++ [y]) Q else lcA g tt te ρ ds acc Q
def lc2D (g : DG) (tt : DT) (it1 : DI) (g1 : DG) (tt1 : DT) (te : DE) (vs1 : List Nat) (ρ : List Slot) : List D → List D → (D → Prop) → Prop
  | [], acc, Q => Q (.lst acc)
  | d :: ds, acc, Q => g d ρ fun ρ2 => tt ρ2 fun b => if b = true then it1 ρ2 fun ds1 => lcA g1 tt1 te (wipeD (fgs ρ2) vs1) ds1 acc fun acc' => lc2D g tt it1 g1 tt1 te vs1 ρ ds acc' Q else lc2D g tt it1 g1 tt1 te vs1 ρ ds acc Q
def dLc2 (it : DI) (g : DG) (tt : DT) (it1 : DI) (g1 : DG) (tt1 : DT) (te : DE) (vs vs1 : List Nat) : DE := fun ρ Q => it ρ fun ds => lc2D g tt it1 g1 tt1 te vs1 (wipeD ρ vs) ds [] Q
section
variable {X : Cx} {elt tg iter tg1 iter1 : Expr} {ifs ifs1 : List Expr} {scope : Scope} {own : List (Str × Nat)} {vs1 : List Nat} {pos : Pos} {it it1 : DI} {g g1 : TG} {g' g1' : DG} {tt tt1 : DT} {te : DE}
end
end DV

namespace DV
open PySem PySem.Spec PyProof.Rows L2
/-! ### own lists: turned about, emptied, handed from name to name -/
theorem RpA.reverse {K : PySem.W.Frag} {F : Hp} : ∀ {vs : List V} {ds : List D}, RpA K F vs ds → RpA K F vs.reverse ds.reverse
  | _, _, .nil => .nil
  | _, _, .cons h r => by
    rw [List.reverse_cons, List.reverse_cons]
    exact (RpA.reverse r).append (.cons h .nil)
def sRev (i : Nat) : DS := fun N ρ => match ρ[i]? with
  | some (.own (.lst ds)) => N.nx (ρ.set i (.own (.lst ds.reverse)))
  | _ => False
def sClr (i : Nat) : DS := fun N ρ => match ρ[i]? with
  | some (.own (.lst ds)) => N.nx (ρ.set i (.own (.lst [])))
  | _ => False
def sIns (i : Nat) (ti tv : DE) : DS := fun N ρ => match ρ[i]? with
  | some (.own (.lst ds)) => ti ρ fun k => match k with
    | .int j => tv ρ fun d => (0 ≤ j ∧ j < 2 ^ 63 ∧ ds.length < sizeLine) ∧ N.nx (ρ.set i (.own (.lst (ds.take j.toNat ++ [d] ++ ds.drop j.toNat))))
    | _ => False
  | _ => False
def sMove (i j : Nat) : DS := fun N ρ => match ρ[j]? with
  | some (.own d) => i ≠ j ∧ N.nx ((ρ.set j .un).set i (.own d))
  | _ => False
section
variable {X : Cx} {o e e2 : Expr} {t ti tv : DE} {apos cpos pos : Pos}
end
def notBD : D2 := fun x y Q => match x, y with
  | .bl a, .bl b => Q (.bl (!decide (a = b)))
  | _, _ => False
end DV

namespace DV
open PySem PySem.Spec PyProof.Rows L2

/-! ### own classes of exceptions: what the text must say -/
/-- the class at C: an exception over ValueError with a dict -/
def oexB (K : PySem.W.Frag) (C : Addr) : Bool :=
  (match K.lookup C with
    | some ⟨.type z, _, .cls cd, sl⟩ => decide (z = "type") && (match cd.mro with
      | .ref B :: bm => decide (B = C) && (PySem.HandSPX.refsVE bm && (cd.hasDict && (!cd.hasDel && (match sl.toList with
        | [_, _, _, _, some (.builtin n), _] => decide (n = "ValueError.__new__")
        | _ => false))))
      | _ => false)
    | _ => false) &&
  (decide (PySem.W.findIn K (.ref C) "__setattr__" = some (some (.builtin "object.__setattr__"))) && (decide (PySem.W.subIn K (.ref C) (.type "BaseException") = some true) &&
    (decide (PySem.W.typeIn K (.ref C) = some (.type "type")) && PySem.W.keepIn K (.ref C))))
theorem oexB_ok {K : PySem.W.Frag} {C : Addr} (h : oexB K C = true) : OexC K C := by
  obtain ⟨h1, h⟩ := He.ba h
  obtain ⟨h2, h⟩ := He.ba h
  obtain ⟨h3, h⟩ := He.ba h
  obtain ⟨h4, h5⟩ := He.ba h
  refine ⟨?_, of_decide_eq_true h2, of_decide_eq_true h3, of_decide_eq_true h4, h5⟩
  cases q : K.lookup C with
  | none =>
    rw [q] at h1; cases h1
  | some o =>
    rw [q] at h1
    obtain ⟨oc, od, dt, sl⟩ := o
    cases oc with
    | type z =>
      cases dt with
      | cls cd =>
        obtain ⟨hz, g1⟩ := He.ba h1
        clear h1
        have ez := of_decide_eq_true hz
        subst ez
        obtain ⟨nm, bs, mro, ns, qn, hd, sn, sub, ab, col, dl⟩ := cd
        cases mro with
        | nil => cases g1
        | cons m bm =>
          cases m with
          | ref B =>
            obtain ⟨hB, g2⟩ := He.ba g1
            clear g1
            have eB := of_decide_eq_true hB
            subst eB
            obtain ⟨hr, g3⟩ := He.ba g2
            obtain ⟨hh, g4⟩ := He.ba g3
            obtain ⟨hl, g5⟩ := He.ba g4
            clear g2 g3 g4
            have hh' : hd = true := hh
            subst hh'
            have hl' : dl = false := by simpa using hl
            subst hl'
            obtain ⟨l⟩ := sl
            rcases l with _ | ⟨k0, _ | ⟨k1, _ | ⟨k2, _ | ⟨k3, _ | ⟨k4, _ | ⟨k5, _ | ⟨k6, l⟩⟩⟩⟩⟩⟩⟩ <;> first | (cases g5; done) | skip
            · cases k4 with
              | none => cases g5
              | some v => cases v <;> cases g5
            · cases k4 with
              | none => cases g5
              | some v =>
                cases v with
                | builtin n =>
                  have hn : n = "ValueError.__new__" := of_decide_eq_true g5
                  subst hn
                  exact ⟨nm, qn, ns, bs, bm, sn, sub, ab, col, od, k0, k1, k2, k3, k5, rfl, hr⟩
                | _ => cases g5
            · cases k4 with
              | none => cases g5
              | some v => cases v <;> cases g5
          | _ => cases g1
      | _ => cases h1
    | _ => cases h1
/-- the class at C: what isinstance and the fields of a caught one want -/
def excB (K : PySem.W.Frag) (C : Addr) : Bool := xfB K C && (decide (PySem.W.findIn K (.ref C) "__class__" = some (some (.builtin "object.__class__"))) &&
  (decide (PySem.W.specialIn K (.builtin "object.__class__") "__get__" = some (some (.builtin "getset_descriptor.__get__"))) && (decide (PySem.W.takesIn K (.builtin "object.__class__") = some true) && decide (PySem.W.mroIn K C (.type "object") = some true))))
theorem excB_ok {K : PySem.W.Frag} {C : Addr} (h : excB K C = true) : XfC K C ∧ ExcC K C := by
  obtain ⟨h1, h⟩ := He.ba h
  obtain ⟨h2, h⟩ := He.ba h
  obtain ⟨h3, h⟩ := He.ba h
  obtain ⟨h4, h5⟩ := He.ba h
  have x := xfB_ok h1
  exact ⟨x, ⟨x.ga, x.gg, x.exC, x.hdC, of_decide_eq_true h2, of_decide_eq_true h3, of_decide_eq_true h4, of_decide_eq_true h5⟩⟩
/-- its __init__ read off the class -/
def iniB (K : PySem.W.Frag) (C f : Addr) : Bool := PySem.W.readsIn K C (.type "type") && (decide (PySem.W.specialIn K (.ref C) "__getattribute__" = some (some (.builtin "type.__getattribute__"))) &&
  (decide (PySem.W.findIn K (.type "type") "__init__" = some (some (.builtin "type.__init__"))) && (decide (PySem.W.specialIn K (.builtin "type.__init__") "__get__" = some (some (.builtin "wrapper_descriptor.__get__"))) &&
    (decide (PySem.W.takesIn K (.builtin "type.__init__") = some false) && (decide (PySem.W.findIn K (.ref C) "__init__" = some (some (.ref f))) && (decide (PySem.W.typeIn K (.ref f) = some (.type "function")) && PySem.W.keepIn K (.ref f)))))))
structure IniC (K : PySem.W.Frag) (C f : Addr) : Prop where
  rd : PySem.W.readsIn K C (.type "type") = true
  ga : PySem.W.specialIn K (.ref C) "__getattribute__" = some (some (.builtin "type.__getattribute__"))
  at_ : PySem.W.findIn K (.ref C) "__init__" = some (some (.ref f))
  ty : PySem.W.typeIn K (.ref f) = some (.type "function")
  kp : PySem.W.keepIn K (.ref f) = true
  fc : PySem.W.findCls K (.ref C) (.type "type") "__init__" = some (.val (.ref f))
theorem iniB_ok {K : PySem.W.Frag} {C f : Addr} (h : iniB K C f = true) : IniC K C f := by
  obtain ⟨h1, h⟩ := He.ba h
  obtain ⟨h2, h⟩ := He.ba h
  obtain ⟨h3, h⟩ := He.ba h
  obtain ⟨h4, h⟩ := He.ba h
  obtain ⟨h5, h⟩ := He.ba h
  obtain ⟨h6, h⟩ := He.ba h
  obtain ⟨h7, h8⟩ := He.ba h
  have h3 := of_decide_eq_true h3
  have h4 := of_decide_eq_true h4
  have h5 := of_decide_eq_true h5
  have h6 := of_decide_eq_true h6
  have h7 := of_decide_eq_true h7
  refine ⟨h1, of_decide_eq_true h2, h6, h7, h8, ?_⟩
  have hn : Builtin.heldUnderItsOwnName ("__init__" : Str) (.ref f) = false := by first | rfl | decide +kernel
  have hb : PySem.W.bareKinds.contains (.type "function") = true := by decide +kernel
  unfold PySem.W.findCls
  simp only [h3, h4, h5, h6, h7, hn, hb, Option.bind_some, Bool.false_eq_true, if_false, if_true]
/-- D.__init__(e, ..) -/
theorem pe_bini {X : Cx} {CX : CXT} {D f : Addr} {k : Nat} {fd : FuncData} {ps : List Str} {sp : Sp} {E : XK} {x : Str} {e : Expr} {es : List Expr} {t : TA} {p1 p2 pos : Pos} {pl : Sem Bool} (hg : Gl X x) (hm : X.mg x = some (.ref D)) (N : IniC X.K D f)
    (F : FnOk X.prog X.w X.K X.mg X.base CX k f fd ps sp) (hr : Room k X.A) (hb : Binds X.K fd ps []) (hx : Passes CX X E) (ha : PA X (e :: es) t) (hdb : (x == ("__debug__" : Str)) = false := by decide)
    (he : starEach (e :: es) X.env = (false, eval e X.env) :: starEach es X.env := by rfl) (hpl : (backTo pos (starEach es X.env)).any (·.1) = false := by rfl)
    (hc : eval (.Call (.Attribute (.Name x p1) "__init__" p2) (e :: es) [] pos) X.env = (do
      let ov ← eval (.Name x p1) X.env
      standAt p2.atName
      let (f, first) ← holding [ov] (getMethod ov "__init__" pl)
      callWith pos f first (backTo pos (starEach (e :: es) X.env)) (backToKw pos (keywordEach [] X.env))) := by rfl) :
    PE X (.Call (.Attribute (.Name x p1) "__init__" p2) (e :: es) [] pos) (tCall sp [] E t) := by
  refine ⟨fun pins s σ H Q I h => ?_⟩
  refine PySem.W.methodCall_KW (pl := pl) (ld_glob I hg hm ?_ hdb) hc
  refine PySem.W.method_cls I.kIn N.ga (PySem.W.cls_value I.kIn N.rd N.fc rfl ?_)
  refine PySem.W.callWith_K (first := []) (h₀ := X.base) I.ok.mod.kin N.kp (thn (ha.run pos pins _ σ H _ (I.tok _) h) fun us s1 hh => ?_) he hpl
  obtain ⟨vs, H1, I1, r, q⟩ := hh
  exact ⟨I1.kIn, run_fn F hr hb .nil hx I1 r q⟩

/-! ### what the __init__ of such classes promise -/
/-- of the class over ValueError: self, word -/
def spI1 (K : PySem.W.Frag) : Sp := fun vs H Q _ => ∃ (a C : Addr) (y : V), vs = [.ref a, y] ∧ OexC K C ∧ H a = some (exo a C none) ∧ PySem.W.findIn K (.ref C) "word" = some none ∧
  ∀ dx, H dx = none → dx ≠ a → Q .non (upd (upd H dx (exd dx [("word", y)])) a (exo a C (some dx)))
/-- .. self and what its field g keeps -/
def spI3 (K : PySem.W.Frag) (z g : Str) : Sp := fun vs H Q _ => ∃ (a C : Addr) (y : V), vs = [.ref a, y] ∧ OexC K C ∧ H a = some (exo a C none) ∧ PySem.W.findIn K (.ref C) "word" = some none ∧ PySem.W.findIn K (.ref C) g = some none ∧
  ∀ dx, H dx = none → dx ≠ a → Q .non (upd (upd (upd H dx (exd dx [("word", .str z)])) a (exo a C (some dx))) dx (exd dx [(g, y), ("word", .str z)]))
section
variable {P : Program} {w : World} {K : PySem.W.Frag} {mg : Str → Option Value} {base : Heap} {a : Addr} {fd : FuncData} {x qual : Str} {params : Arguments} {scope : Scope} {body : List Stmt}
theorem mk_I1 (F : FunD K x qual params body scope [] [] a fd) (S : FnScope ["self", "word"] ["self", "word"] scope)
    (hb : ∀ (cdv : Value) (A : Around) (outer : List Env) (s : Shared) (H : Hp) (E : XK), PSs (cxOf CX0 P w K mg base ["self", "word"] qual scope a cdv A outer s H E) body
      (tSeq (tDrop (tVeI K (tCons (tVar 0) (tCons (tVar 1) tNil)))) (tOst K "word" (tVar 0) (tVar 1)))) : FnOk P w K mg base CX0 1 a fd ["self", "word"] (spI1 K) := by
  refine F.ok S (fun vs H Q E h => ?_) (fun cdv A outer s H vs Q E hr h => ⟨_, hb cdv A outer s H E, ?_⟩)
  · obtain ⟨a, C, y, rfl, _⟩ := h
    rfl
  · obtain ⟨e, C, y, rfl, T, he, hno, q⟩ := h
    refine ⟨_, rfl, _, rfl, e, C, [y], rfl, by simp, T, he, ?_⟩
    exact ⟨_, rfl, _, rfl, e, C, rfl, T, hno, .inl ⟨he, q⟩⟩
theorem mk_I3 {k : Nat} {z g : Str} (F : FunD K x qual params body scope [] [] a fd) (S : FnScope ["self", g] ["self", g] scope)
    (hb : ∀ (cdv : Value) (A : Around) (outer : List Env) (s : Shared) (H : Hp) (E : XK), Room k (A.deeper (envOfC qual scope s.heap.objs.size a cdv)) → PSs (cxOf CX0 P w K mg base ["self", g] qual scope a cdv A outer s H E) body
      (tSeq (tDrop (tCall (spI1 K) [] E0 (tCons (tVar 0) (tCons (tC (.str z)) tNil)))) (tOst K g (tVar 0) (tVar 1)))) : FnOk P w K mg base CX0 (k + 1) a fd ["self", g] (spI3 K z g) := by
  refine F.ok S (fun vs H Q E h => ?_) (fun cdv A outer s H vs Q E hr h => ⟨_, hb cdv A outer s H E hr, ?_⟩)
  · obtain ⟨a, C, y, rfl, _⟩ := h
    rfl
  · obtain ⟨e, C, y, rfl, T, he, hno, hno2, q⟩ := h
    refine ⟨_, rfl, e, C, .str z, rfl, T, he, hno, fun dx hn hne => ?_⟩
    refine ⟨_, rfl, _, rfl, e, C, rfl, T, hno2, .inr ⟨dx, _, upd_same, ?_, ?_, q dx hn hne⟩⟩
    · rw [upd_ne hne]; exact upd_same
    · simp
end
end DV

namespace DV
open PySem PySem.Spec PyProof.Rows L2

/-! ### exceptions over data: the class's name, the fields by their names (the last one set first) -/
abbrev Flds := List (Str × D)
/-- what is wished of an exception behind a def; .. within one, at the slots -/
abbrev DX := Str → Flds → Prop
abbrev DXS := List Slot → Str → Flds → Prop
/-- a def that may raise -/
abbrev DSpX := List D → (D → Prop) → DX → Prop
abbrev DSX := DXS → DS
def XAt (K : PySem.W.Frag) (F H : Hp) (cls : Value) (d : Option Addr) (n : Str) (fs : Flds) : Prop :=
  cls = .ref (He.ga K n) ∧ ∃ (dd : Addr) (vs : List (Str × V)), d = some dd ∧ F dd = none ∧ H dd = some (.xd vs) ∧ vs.map (·.1) = fs.map (·.1) ∧ RpA K F (vs.map (·.2)) (fs.map (·.2))
theorem XAt.step {K : PySem.W.Frag} {F H F1 H1 : Hp} {cls : Value} {d : Option Addr} {n : Str} {fs : Flds} (x : XAt K F H cls d n fs) (e : Ext F H F1 H1) : XAt K F1 H1 cls d n fs := by
  obtain ⟨h1, dd, vs, h2, h3, h4, h5, h6⟩ := x
  obtain ⟨k1, k2⟩ := e.keep dd _ h3 h4
  exact ⟨h1, dd, vs, h2, k2, k1, h5, h6.mono e.mono⟩
/-- the promise of a def that may raise -/
def spDX (K : PySem.W.Frag) (f : DSpX) : Sp := fun vs H Q E => ∃ F ds Q0 W0, Sub F H ∧ RpA K F vs ds ∧ f ds Q0 W0 ∧ (∀ v H' F' d, Ext F H F' H' → Rp K F' v d → Q0 d → Q v H') ∧
  ∀ H' F' cls d n fs, Ext F H F' H' → XAt K F' H' cls d n fs → W0 n fs → E cls d H'
def XOk (K : PySem.W.Frag) (F0 H0 G : Hp) (w : DXS) (W : WX) : Prop := ∀ σ H F ρ cls d n fs, Sta K F0 H0 G F σ H ρ → XAt K F H cls d n fs → w ρ n fs → W cls d σ H
/-- a statement that may raise; W: what its surroundings take -/
def lfX (K : PySem.W.Frag) (t : DSX) (W : WX) : TS := fun Dn σ H => ∃ F0 H0 G ρ N w, StOk K F0 H0 G σ H ρ ∧ t w N ρ ∧ EndsOk K F0 H0 G N Dn ∧ XOk K F0 H0 G w W
abbrev PDX (X : Cx) (W : WX) (st : Stmt) (t : DSX) : Prop := PS X st (lfX X.K t W)
abbrev PDXs (X : Cx) (W : WX) (st : List Stmt) (t : DSX) : Prop := PSs X st (lfX X.K t W)
section
variable {X : Cx} {W : WX} {e a b c : Expr} {es : List Expr} {st : Stmt} {sts as bs : List Stmt} {t ta : DE} {tr : DA} {tA : DT} {u v : DSX} {s0 : DS} {pos p : Pos}
/-- one that raises nothing -/
def xL (t : DS) : DSX := fun _ => t
theorem pdxs_of (h : PDSs X sts s0) : PDXs X W sts (xL s0) := h.impD fun N σ H ⟨F0, H0, G, ρ, M, w, so, ht, k, _⟩ => ⟨F0, H0, G, ρ, M, so, ht, k⟩
def xSeq (t u : DSX) : DSX := fun w N ρ => t w { N with nx := u w N } ρ
theorem pdx_cons (h1 : PDX X W st u) (h2 : PDXs X W sts v) : PDXs X W (st :: sts) (xSeq u v) := (pss_cons h1 h2).impD fun N σ H ⟨F0, H0, G, ρ, M, w, so, ht, k, x⟩ =>
  ⟨F0, H0, G, ρ, _, w, so, ht, ⟨fun σ' H' ρ' so' q => ⟨F0, H0, G, ρ', M, w, so', q, k, x⟩, k.rt, k.ro, k.bk, k.ct⟩, x⟩
theorem pdx_one (h1 : PDX X W st u) : PDXs X W [st] u := pss_one h1
def xIf (c : DT) (t u : DSX) : DSX := fun w N ρ => c ρ fun b => if b = true then t w N ρ else u w N ρ
theorem pdx_if (hc : PDT X c tA) (ha : PDXs X W as u) (hb : PDXs X W bs v) : PDX X W (.If c as bs pos) (xIf tA u v) := (ps_if hc ha hb).impD fun N σ H ⟨F0, H0, G, ρ, M, w, ⟨F, so⟩, ht, k, x⟩ =>
  so.lfT ht fun b H' F' so' q => by
    cases b with
    | true => exact iteT ⟨F0, H0, G, ρ, M, w, ⟨F', so'⟩, q, k, x⟩
    | false => exact iteF ⟨F0, H0, G, ρ, M, w, ⟨F', so'⟩, q, k, x⟩
end

/-! ### raise C() and raise C(e) -/
def xRaise1 (n g : Str) (t : DE) : DSX := fun w _ ρ => t ρ fun d => w ρ n [(g, d), ("word", .str n)]
/-- what a class must say to be raised -/
structure ExD (K : PySem.W.Frag) (mg : Str → Option Value) (n : Str) (fI : Addr) : Prop where
  gl : mg n = some (.ref (He.ga K n))
  ox : OexC K (He.ga K n)
  ini : IniC K (He.ga K n) fI
  nw : PySem.W.findIn K (.ref (He.ga K n)) "word" = some none
theorem upd_back {H G : Hp} {a d : Addr} {u : HO} (ha : H a = none) (hne : d ≠ a) (h : ∀ b, b ≠ a → b ≠ d → G b = H b) : upd (del G a) d u = upd H d u := by
  funext b
  by_cases hb : b = d
  · rw [hb, upd_same, upd_same]
  · rw [upd_ne hb, upd_ne hb]
    by_cases hc : b = a
    · rw [hc, del_same, ha]
    · rw [del_ne hc, h b hc hb]
/-- the dict of a made exception -/
theorem Sta.made {K : PySem.W.Frag} {F0 H0 G F H : Hp} {σ : St} {ρ : List Slot} (s : Sta K F0 H0 G F σ H ρ) {dx : Addr} {vs : List (Str × V)} {n : Str} {fs : Flds} (hn : H dx = none) (e : vs.map (·.1) = fs.map (·.1)) (r : RpA K F (vs.map (·.2)) (fs.map (·.2))) :
    Sta K F0 H0 G F σ (upd H dx (.xd vs)) ρ ∧ XAt K F (upd H dx (.xd vs)) (.ref (He.ga K n)) (some dx) n fs :=
  ⟨s.step (Ext.newO s.ext.sub hn), rfl, dx, vs, rfl, s.ext.sub.none hn, upd_same, e, r⟩
section
variable {X : Cx} {W : WX} {e : Expr} {t : DE} {pos p : Pos} {k : Nat} {n g : Str} {fI : Addr} {fd : FuncData}
theorem pdx_raise1 {pp : Pos} (hc : X.calm = true) (tk : Takes X W) (T : ExD X.K X.mg n fI) (hno : PySem.W.findIn X.K (.ref (He.ga X.K n)) g = some none) (F1 : FnOk X.prog X.w X.K X.mg X.base CX0 k fI fd ["self", g] (spI3 X.K n g)) (hr : Room (k + 1) X.A)
    (hb : Binds X.K fd ["self", g] []) (he : PD X e t) (hg : Gl X n := by rfl) (hdb : (n == ("__debug__" : Str)) = false := by decide)
    (hs : starEach [e] X.env = (false, eval e X.env) :: starEach [] X.env := by rfl) (hpl : (backTo p (starEach [] X.env)).any (·.1) = false := by rfl) :
    PDX X W (.Raise (some (.Call (.Name n pos) [e] [] p)) none pp) (xRaise1 n g t) := by
  refine (ps_raise hc tk (pmk_oex (dvs := []) T.ox T.ini.at_ T.ini.ty F1 hr hb .nil (fun _ _ _ _ _ _ _ z => z.elim) hg T.gl (pa_cons he pa_nil hs) hdb hs hpl)).impD fun N σ H ⟨F0, H0, G, ρ, M, w, ⟨F, so⟩, ht, _, x⟩ => ?_
  refine so.lf ht fun v H1 F1 d so1 r q => ?_
  refine ⟨by simp, fun a ha => ⟨a, _, v, rfl, T.ox, upd_same, T.nw, hno, fun dx hn hne => ⟨rfl, dx, [(g, v), ("word", .str n)], ?_, upd_same, ?_, ?_⟩⟩⟩
  · rw [upd_ne (Ne.symm hne)]; exact upd_same
  · rw [upd_ne hne] at hn; exact hn
  · rw [upd_ne hne] at hn
    have na := ha
    rw [upd_back (H := H1) na hne fun b h1 h2 => by rw [upd_ne h2, upd_ne h1, upd_ne h2, upd_ne h1]]
    obtain ⟨s2, xa⟩ := so1.made (n := n) (vs := [(g, v), ("word", .str n)]) (fs := [(g, d), ("word", .str n)]) hn rfl (.cons r (.cons (.str n) .nil))
    exact x _ _ _ _ _ _ _ _ s2 xa q
end
section
variable {X : Cx} {W : WX} {pos p : Pos} {k : Nat} {n : Str} {fI : Addr} {fd : FuncData}
end
end DV

namespace DV
open PySem PySem.Spec PyProof.Rows L2

/-! ### several clauses with names -/
/-- one clause: its class, the slot of its name, its suite -/
structure Cl where
  c : Value
  i : Nat
  ts : Addr → Value → Option Addr → TS
def behindCl (D : Ends) (i : Nat) : Ends := { nx := fun σ H => D.nx (σ.set i none) H, rt := D.rt, bk := fun σ H => D.bk (σ.set i none) H, ct := fun σ H => D.ct (σ.set i none) H }
def wCls (K : PySem.W.Frag) (Wo : WX) (D : Ends) : List Cl → WX
  | [] => Wo
  | q :: l => fun cls d σ H => ∃ b, PySem.W.exmOne K cls q.c = some b ∧
    (b = true → ∀ a, H a = none → q.ts a cls d (behindCl D q.i) (σ.set q.i (some (.ref a))) H) ∧ (b = false → wCls K Wo D l cls d σ H)
inductive ClsOk (X : Cx) : List ExceptHandler → List Cl → Prop
  | nil : ClsOk X [] []
  | cons {x n : Str} {q : Cl} {st : Stmt} {sts : List Stmt} {np pp : Pos} {hs : List ExceptHandler} {l : List Cl} (hi : X.N[q.i]? = some n) (hln : X.env.kindOf n = some .local) (hc : Names X x q.c)
      (su : ∀ (a : Addr) (o : Obj) (cls : Value) (d : Option Addr) (pn : List (Addr × Obj)), Zc cls d o → (∃ vs, o.data = .fields vs) → PSs (X.suite a ((a, o) :: pn)) (st :: sts) (q.ts a cls d)) (r : ClsOk X hs l) :
      ClsOk X (.ExceptHandler (some (.Name x np)) (some n) (st :: sts) pp :: hs) (q :: l)
section
variable {X : Cx} {pins : List (Addr × Obj)} {σ : St} {H : Hp} {s : Shared}
theorem names_eval {x : Str} {np : Pos} {c : Value} {a : Addr} {pn pn' : List (Addr × Obj)} {Q : Value → Shared → Prop} {E : Value → Shared → Prop} (I : Inv (X.suite a pn) pn' σ H s) (hc : Names X x c) (q : Q c s) :
    wpAny (model X.prog X.w) (X.A.mark (some (.ref a))) (eval (.Name x np) X.env) Q E s := by
  obtain ⟨hg, hd, h | ⟨h1, h2, h3⟩⟩ := hc
  · exact ld_glob (X := X.suite a pn) I hg h q hd
  · exact ld_blt (X := X.suite a pn) I hg h1 h2 q h3 hd
/-- the suite has run; its name goes -/
theorem suite_end {a : Addr} {q : Addr × Obj} {D : Ends} {i : Nat} {n : Str} {pp : Pos} {f : Flow} {s6 : Shared} (ok : X.Ok) (hN : X.N.Nodup) (hi : X.N[i]? = some n) (hln : X.env.kindOf n = some .local) (h : SP (X.suite a (q :: (X.pn ++ pins))) [] (behindCl D i) f s6) :
    wpAny (model X.prog X.w) X.A (do bindName X.env n .none; unbindBehindTheSuite X.env n pp) (fun _ s7 => SP X pins D f s7) X.xe s6 := by
  cases f with
  | ret u =>
    obtain ⟨v, z1, z2, S, r, z⟩ := h
    exact gone_ok (S.unsuite ok) hN hi hln fun s7 J => ⟨v, _, _, J, r, z⟩
  | next =>
    obtain ⟨z1, z2, S, z⟩ := h
    exact gone_ok (S.unsuite ok) hN hi hln fun s7 J => ⟨_, _, J, z⟩
  | brk =>
    obtain ⟨z1, z2, S, z⟩ := h
    exact gone_ok (S.unsuite ok) hN hi hln fun s7 J => ⟨_, _, J, z⟩
  | cont =>
    obtain ⟨z1, z2, S, z⟩ := h
    exact gone_ok (S.unsuite ok) hN hi hln fun s7 J => ⟨_, _, J, z⟩
/-- an exception on the ground, the clauses asked one after the other -/
theorem clauses {B : Heap} {a : Addr} {cls : Value} {d : Option Addr} {D : Ends} {Wo : WX} {sI s' : Shared} {hs : List ExceptHandler} {l : List Cl} (ok : X.Ok) (hst : X.stack = X.env :: X.outer) (hf : X.env.frame = some X.env.locals) (hN : X.N.Nodup)
    (tk : Takes X Wo) (J : Inv X pins σ H sI) (nb : ∀ b o, sI.heap.get? b = some o → b ∉ frs X.stack → B.get? b = some o) (up : sI.heap.UpToSlots s'.heap) (na : H a = none) (os : s'.os = sI.os) (ag : AllBare s'.gens)
    (fl : HandSPX.FlyingZ B (X.env :: X.outer) a (Zc cls d) s'.heap) (ch : ClsOk X hs l) (w : wCls X.K Wo D l cls d σ H) : wpAny (model X.prog X.w) X.A (handleBy (.ref a) X.env hs) (SP X pins D) X.xe s' := by
  have J3 : Inv X pins σ H s' := J.landed nb fl.1 up os ag
  have stand : ∀ {h : Heap}, HandSPX.FlyingZ B (X.env :: X.outer) a (Zc cls d) h → ∃ o vs, h.get? a = some o ∧ Zc cls d o ∧ o.data = .fields vs ∧ a ≠ X.env.locals ∧ a ∉ X.fs := fun {h} z => by
    obtain ⟨o, vs, e1, e2, e3⟩ := z.there
    have away : a ∉ frs (X.env :: X.outer) := fun hm => by
      obtain ⟨_, o2, e4, e5⟩ := z.2.2.1.mem hm
      exact e5 vs (by rw [e1] at e4; cases e4; exact e3)
    refine ⟨o, vs, e1, e2, e3, fun z => away ?_, fun hm => away ?_⟩
    · exact List.mem_filterMap.mpr ⟨X.env, List.mem_cons_self, by rw [hf, z]⟩
    · obtain ⟨e, h1, h2⟩ := List.mem_filterMap.mp hm
      exact List.mem_filterMap.mpr ⟨e, List.mem_cons_of_mem _ h1, h2⟩
  induction ch with
  | nil =>
    refine wpAny_handleBy_nil ?_
    have fl2 := fl
    obtain ⟨_, _, _, oe, vs, T, _, _, he, _, hd, h1, _⟩ := fl2
    unfold PySem.passOn
    refine wpAny_bind (wpAny_field he hd h1 ?_)
    have nn : ¬ ((Value.ref T == Value.none) = true) := by simp
    rw [if_neg nn]
    have out : wpAny (model X.prog X.w) X.A (setFlight (.ref a) (some X.env.locals)) (fun _ s4 => wpAny (model X.prog X.w) X.A (throw (.ref a) : Sem Flow) (SP X pins D) X.xe s4) X.xe s' :=
      HandSPX.setFlight_upZ fl fun h4 g4 up4 => wpAny_throw (tk _ _ ⟨a, B, sI, pins, σ, H, cls, d, rfl, J, nb, up.trans up4, .inr (.inr (by rw [hst]; exact g4)), na, os, ag, w⟩)
    rw [← hf] at out
    first
      | exact wpAny_bind (wpAny_pure (wpAny_bind out))
      | exact wpAny_bind out
  | @cons x n q st sts np pp hs l hi hln hc su r ih =>
    obtain ⟨b, hb, yes, no⟩ := w
    obtain ⟨o3, vs3, he3, hz3, hd3, nL, nF⟩ := stand fl
    have S3 := J3.suite he3 hd3 na nL nF
    refine wpAny_handleBy_cons (codeAny_handlers_test ?_) (by intro z; cases z)
    have LT : PySem.W.Looks (model X.prog X.w) s'.heap (typeOf (.ref a)) cls := fun _ _ _ _ k z =>
      wpAny_typeOf_ref (k _ _ he3) (by rw [hz3.1]; exact z)
    refine names_eval S3 hc ((PySem.W.exm_one (M := model X.prog X.w) J3.kIn LT hb).here ?_)
    cases b with
    | false => exact ih (no rfl)
    | true =>
      refine codeAny_handlers_suite_as (HandSPX.lands_againZ fl fun h4 fl4 up4 => ?_)
      obtain ⟨o4, vs4, he4, hz4, hd4, _, _⟩ := stand fl4
      have J4 : Inv X pins σ H { s' with heap := h4 } := J.landed nb fl4.1 (up.trans up4) os ag
      have S4 := J4.suite he4 hd4 na nL nF
      refine store_ok (X := X.suite a ((a, o4) :: (X.pn ++ pins))) (v := .ref a) S4 hN hi (.inl hln) rfl (fun s5 S5 => ?_) (.inr hln)
      refine wpAny_mono ((su a o4 cls d (X.pn ++ pins) hz4 ⟨_, hd4⟩).run [] s5 _ H (behindCl D q.i) S5 (yes rfl a na)) (fun f s6 z => ?_) (fun _ _ z => z.elim)
      have z2 := suite_end (pp := pp) ok hN hi hln z
      cases f <;> exact z2
/-- try: body; except x as n: ..; except y as m: .. -/
theorem ps_try_cls {body : List Stmt} {hs : List ExceptHandler} {h0 : ExceptHandler} {l : List Cl} {tb : WX → TS} {Wo : WX} {pos : Pos} (hst : X.stack = X.env :: X.outer) (hf : X.env.frame = some X.env.locals) (hN : X.N.Nodup) (tk : Takes X Wo)
    (hb : ∀ (W : WX) (pn : List (Addr × Obj)) (xe : Value → Shared → Prop), Takes (X.tr pn xe) W → PassesOwn (model X.prog X.w) X.A X.env xe → PSs (X.tr pn xe) body (tb W)) (ch : ClsOk X (h0 :: hs) l) :
    PS X (.Try body (h0 :: hs) [] [] pos) (fun D σ H => tb (wCls X.K Wo D l) D σ H) := by
  refine ⟨fun pins s σ H D I h => ?_⟩
  have ok := I.ok
  have hfr : X.A.frames = some (X.env :: X.outer) := by rw [ok.frames, hst]
  let xe : Value → Shared → Prop := fun e s1 => wpAny (model X.prog X.w) X.A (noteFrame e X.env) (fun _ s2 => wpAny (model X.prog X.w) X.A (setFlight e none)
    (fun _ s3 => wpAny (model X.prog X.w) X.A (handleBy e X.env (h0 :: hs)) (SP X pins D) X.xe s3) X.xe s2) X.xe s1
  have T : Takes (X.tr (X.pn ++ pins) xe) (wCls X.K Wo D l) := fun u s' z => by
    obtain ⟨a, B, sI, pins', σ', H', cls, d, rfl, J', nb, up, sky, na, os, ag, w⟩ := z
    have sky2 : Sky B (X.env :: X.outer) a (Zc cls d) X.env.locals s'.heap := by
      rw [← hst]
      exact sky
    exact Sky.land Zc.steady hfr hf sky2 fun h3 fl3 up3 => clauses (s' := { s' with heap := h3 }) ok hst hf hN tk (J'.ofTry ok) nb (up.trans up3) na os ag fl3 ch w
  refine wpAny_Try_except (wpAny_mono ((hb _ (X.pn ++ pins) xe T PassesOwn.looking).run [] s σ H D (I.toTry _) h) (fun f s1 z => ?_) fun _ _ z => z)
  cases f with
  | ret u =>
    obtain ⟨v, z1, z2, J, z3⟩ := z
    exact ⟨v, z1, z2, J.ofTry ok, z3⟩
  | next =>
    obtain ⟨z1, z2, J, z3⟩ := z
    exact wpAny_execs_nil ⟨z1, z2, J.ofTry ok, z3⟩
  | brk =>
    obtain ⟨z1, z2, J, z3⟩ := z
    exact ⟨z1, z2, J.ofTry ok, z3⟩
  | cont =>
    obtain ⟨z1, z2, J, z3⟩ := z
    exact ⟨z1, z2, J.ofTry ok, z3⟩
end
end DV

namespace DV
open PySem PySem.Spec PyProof.Rows L2

/-! ### defs that may raise -/
def fnX (n m : Nat) (t : DSX) : DSpX := fun ds Q w => ds.length = m ∧ t (fun _ => w) ⟨fun _ => Q .non, Q, fun _ => False, fun _ => False, roL Q⟩ (ds.map Slot.v ++ List.replicate (n - m) Slot.un)
section
variable {P : Program} {w : World} {K : PySem.W.Frag} {mg : Str → Option Value} {base : Heap}
theorem fn_okX {x qual : Str} {params : Arguments} {body : List Stmt} {scope : Scope} {dvs : List V} {kws : List (Str × V)} {f : Addr} {fd : FuncData} {N ps : List Str} {k : Nat} {t : DSX}
    (F : FunD K x qual params body scope dvs kws f fd) (S : FnScope N ps scope)
    (hb : ∀ (cdv : Value) (A : Around) (outer : List Env) (s : Shared) (H : Hp) (E : XK), Room k (A.deeper (envOfC qual scope s.heap.objs.size f cdv)) → Takes (cxOf (L2.CX P w) P w K mg base N qual scope f cdv A outer s H E) (fun cls d _ H => E cls d H) →
      PDXs (cxOf (L2.CX P w) P w K mg base N qual scope f cdv A outer s H E) (fun cls d _ H => E cls d H) body t) :
    FnOk P w K mg base (L2.CX P w) (k + 1) f fd ps (spDX K (fnX N.length ps.length t)) := by
  refine F.ok S (fun vs H Q E h => ?_) (fun cdv A outer s H vs Q E hr h => ⟨_, hb cdv A outer s H E hr (takes_of rfl rfl rfl rfl), ?_⟩)
  · obtain ⟨F, ds, Q0, W0, _, r, h, _⟩ := h
    rw [r.length]; exact h.1
  · obtain ⟨F, ds, Q0, W0, sb, r, h, q, qx⟩ := h
    have en : EnvOk K F H (L2.start N vs) (ds.map Slot.v ++ List.replicate (N.length - ds.length) Slot.un) := env_start r
    rw [h.1] at en
    refine ⟨F, H, F, _, _, fun _ => W0, ⟨F, ⟨sb, Same.refl F, .refl sb, en, fun i p d h1 h2 => ?_⟩⟩, h.2, ⟨fun σ' H' ρ' ⟨F', s'⟩ z => q .non H' F' .non s'.ext .non z, fun v H' F' d x r z => q v H' F' d x r z, fun p d H' F' x h0 hF o z => (by
      cases d <;> first | (simp [roL, isLst] at z; done) | skip
      obtain ⟨xs, hp, r⟩ := o
      exact q (.ref p) H' (upd F' p (.lst xs)) _ (x.adopt h0 hF hp) (.lst upd_same (r.mono fun b o e => by rw [upd_ne (ne_of_none e hF)]; exact e)) z.2), fun _ _ _ _ z => z.elim, fun _ _ _ _ z => z.elim⟩, fun σ' H' F' ρ' cls d n fs s' x z => qx H' F' cls d n fs s'.ext x z⟩
    have hm := List.mem_of_getElem? h2
    rcases List.mem_append.mp hm with z | z
    · obtain ⟨d', _, z⟩ := List.mem_map.mp z
      cases z
    · cases (List.mem_replicate.mp z).2
end
/-- such a def as its callers see it -/
def GdX (P : Program) (w : World) (K : PySem.W.Frag) (mg : Str → Option Value) (base : Heap) (nm : Str) (k : Nat) (dd : List D) (f : DSpX) : Prop :=
  ∃ (a : Addr) (fd : FuncData) (ps : List Str) (ds : List Value) (dvs : List V), mg nm = some (.ref a) ∧ PySem.W.keepIn K (.ref a) = true ∧ FnOk P w K mg base (L2.CX P w) k a fd ps (spDX K f) ∧ Binds K fd ps ds ∧ Vals dvs ds ∧ ∀ F, RpA K F dvs dd
section
variable {X : Cx} {W : WX} {e : Expr} {es : List Expr} {tr : DA} {pos p p2 : Pos} {nm : Str} {k : Nat} {dd : List D} {f : DSpX}
/-- f(..) as a whole statement | what is stored | what is handed back -/
def xDrop (f : DSpX) (dd : List D) (tr : DA) : DSX := fun w N ρ => tr ρ fun ds => f (ds ++ dd) (fun _ => N.nx ρ) (w ρ)
theorem Sta.callX {K : PySem.W.Frag} {F0 H0 G F H : Hp} {σ : St} {ρ : List Slot} (s : Sta K F0 H0 G F σ H ρ) {dvs : List V} {Q0 : D → Prop} {W0 : DX} {Q : VK} {W : WX} (hdd : ∀ F, RpA K F dvs dd) (ht : tr ρ fun ds => f (ds ++ dd) Q0 W0)
    (kQ : ∀ v H' F' d, Sta K F0 H0 G F' σ H' ρ → Rp K F' v d → Q0 d → Q v H') (kW : ∀ H' F' cls d n fs, Sta K F0 H0 G F' σ H' ρ → XAt K F' H' cls d n fs → W0 n fs → W cls d σ H') :
    tCallSD (spDX K f) dvs (WE W) (DV.lfA K tr) σ H Q :=
  s.lfA ht fun vs H1 F1 ds s1 r q => ⟨F1, _, Q0, W0, s1.ext.sub, r.append (hdd F1), q, fun v H' F' d x r' q' => kQ v H' F' d (s1.step x) r' q', fun H' F' cls d n fs x xa q' => kW H' F' cls d n fs (s1.step x) xa q'⟩
theorem pe_gdx {a : Addr} {fd : FuncData} {ps : List Str} {ds : List Value} {dvs : List V} (F : FnOk X.prog X.w X.K X.mg X.base (L2.CX X.prog X.w) k a fd ps (spDX X.K f)) (hm : X.mg nm = some (.ref a)) (hk : PySem.W.keepIn X.K (.ref a) = true) (hb : Binds X.K fd ps ds) (hd : Vals dvs ds)
    (tk : Takes X W) (hr : Room k X.A) (ha : PDA X (e :: es) tr) (hg : Gl X nm) (hdb : (nm == ("__debug__" : Str)) = false) (he : starEach (e :: es) X.env = (false, eval e X.env) :: starEach es X.env) (hpl : (backTo pos (starEach es X.env)).any (·.1) = false) :
    PE X (.Call (.Name nm p) (e :: es) [] pos) (tCallSD (spDX X.K f) dvs (WE W) (lfA X.K tr)) := pe_callSD F hr hg hm hk hb hd (fun σ => passAt tk σ) ha hdb he hpl
theorem pdx_drop (tk : Takes X W) (G : GdX X.prog X.w X.K X.mg X.base nm k dd f) (hr : Room k X.A) (ha : PDA X (e :: es) tr) (hg : Gl X nm := by rfl) (hdb : (nm == ("__debug__" : Str)) = false := by decide)
    (he : starEach (e :: es) X.env = (false, eval e X.env) :: starEach es X.env := by rfl) (hpl : (backTo pos (starEach es X.env)).any (·.1) = false := by rfl) (hs : swapsWith (.Call (.Name nm p) (e :: es) [] pos) none p2.line X.env = pure false := by rfl) :
    PDX X W (.Expr (.Call (.Name nm p) (e :: es) [] pos) p2) (xDrop f dd tr) := by
  obtain ⟨a, fd, ps, ds, dvs, hm, hk, F, hb, hd, hdd⟩ := G
  refine (ps_expr (pe_gdx F hm hk hb hd tk hr ha hg hdb he hpl) hs).impD fun N σ H ⟨F0, H0, G, ρ, M, w, ⟨F, so⟩, ht, k, x⟩ => ?_
  exact so.callX hdd ht (fun v H' F' d s1 _ q => k.nx σ H' ρ ⟨F', s1⟩ q) fun H' F' cls d n fs s1 xa q => x σ H' F' ρ cls d n fs s1 xa q
end

/-! ### what stands in an except suite: the exception's fields, its class -/
abbrev DEF := Flds → DE
abbrev DAF := Flds → DA
/-- a the exception, i its name's slot, n its class -/
structure InS (K : PySem.W.Frag) (i : Nat) (a : Addr) (d : Option Addr) (n : Str) (fs : Flds) (σ : St) (F H : Hp) : Prop where
  at_ : σ[i]? = some (some (.ref a))
  x : XAt K F H (.ref (He.ga K n)) d n fs
theorem InS.step {K : PySem.W.Frag} {i : Nat} {a : Addr} {d : Option Addr} {n : Str} {fs : Flds} {σ : St} {F H F1 H1 : Hp} (s : InS K i a d n fs σ F H) (e : Ext F H F1 H1) : InS K i a d n fs σ F1 H1 := ⟨s.at_, s.x.step e⟩
def lfEF (K : PySem.W.Frag) (i : Nat) (a : Addr) (d : Option Addr) (n : Str) (t : DEF) : TE := fun σ H Q => ∃ ρ F Q0 fs, Sub F H ∧ EnvOk K F H σ ρ ∧ InS K i a d n fs σ F H ∧ t fs ρ Q0 ∧ ∀ v H' F' d, Ext F H F' H' → Rp K F' v d → Q0 d → Q v H'
def lfAF (K : PySem.W.Frag) (i : Nat) (a : Addr) (d : Option Addr) (n : Str) (t : DAF) : TA := fun σ H Q => ∃ ρ F Q0 fs, Sub F H ∧ EnvOk K F H σ ρ ∧ InS K i a d n fs σ F H ∧ t fs ρ Q0 ∧ ∀ v H' F' d, Ext F H F' H' → RpA K F' v d → Q0 d → Q v H'
section
variable {X : Cx} {i : Nat} {a : Addr} {d : Option Addr} {n g : Str} {e o : Expr} {es : List Expr} {t : DEF} {tr : DAF} {pos p p2 : Pos} {oe : Obj} {pn : List (Addr × Obj)}
/-- e.g -/
def fFld (g : Str) : DEF := fun fs _ Q => match fs.lookup g with
  | some d => Q d
  | none => False
def fNil : DAF := fun _ _ Q => Q []
def fCons (t : DEF) (u : DAF) : DAF := fun fs ρ Q => t fs ρ fun d => u fs ρ fun ds => Q (d :: ds)
def fTup (u : DAF) : DEF := fun fs ρ Q => u fs ρ fun ds => ds ≠ [] ∧ ds.length ≤ sizeLine ∧ Q (.tup ds)
theorem look_cons {α : Type} (f g : Str) (y : α) (l : List (Str × α)) : ((f, y) :: l).lookup g = if g = f then some y else l.lookup g := by
  by_cases h : g = f
  · subst h
    simp [List.lookup]
  · have e : (g == f) = false := by simpa using h
    rw [if_neg h]
    simp [List.lookup, e]
theorem look_rel {K : PySem.W.Frag} {F : Hp} {g : Str} {x : D} : ∀ {vs : List (Str × V)} {fs : Flds}, vs.map (·.1) = fs.map (·.1) → RpA K F (vs.map (·.2)) (fs.map (·.2)) → fs.lookup g = some x → ∃ v, vs.lookup g = some v ∧ Rp K F v x
  | [], [], _, _, h => by cases h
  | [], _ :: _, h, _, _ => by cases h
  | _ :: _, [], h, _, _ => by cases h
  | (a, v) :: vs, (b, y) :: fs, h, r, q => by
    simp only [List.map_cons, List.cons.injEq] at h
    obtain ⟨h1, h2⟩ := h
    subst h1
    cases r with
    | cons r1 r2 =>
      rw [look_cons] at q ⊢
      by_cases e : g = a
      · rw [if_pos e] at q ⊢
        cases q
        exact ⟨v, rfl, r1⟩
      · rw [if_neg e] at q ⊢
        exact look_rel h2 r2 q
theorem pef_fld (T : XfC X.K (He.ga X.K n)) (hno : PySem.W.findIn X.K (.ref (He.ga X.K n)) g = some none) (hz : Zc (.ref (He.ga X.K n)) d oe) (hf : ∃ vs, oe.data = .fields vs) (ho : PE (X.suite a ((a, oe) :: pn)) o (tVar i))
    (hb : attributeBase o g X.env (eval o X.env) = eval o X.env := by rfl) : PE (X.suite a ((a, oe) :: pn)) (.Attribute o g pos) (lfEF X.K i a d n (fFld g)) := by
  refine (pe_xf T hno hz hf ho hb).impD fun σ H Q ⟨ρ, F, Q0, fs, s, en, z, ht, k⟩ => ?_
  obtain ⟨_, dd, vs, e1, e2, e3, e4, e5⟩ := z.x
  unfold fFld at ht
  cases hl : fs.lookup g with
  | none => rw [hl] at ht; exact ht.elim
  | some x =>
    rw [hl] at ht
    obtain ⟨v, l, r⟩ := look_rel e4 e5 hl
    exact ⟨_, z.at_, rfl, rfl, dd, vs, v, e1, e3, l, k v H F x (.refl s) r ht⟩
theorem paf_nil : PA (X.suite a ((a, oe) :: pn)) [] (lfAF X.K i a d n fNil) := pa_nil.impD fun σ H Q ⟨ρ, F, Q0, fs, s, en, z, ht, k⟩ => k [] H F [] (.refl s) .nil ht
theorem paf_cons (h1 : PE (X.suite a ((a, oe) :: pn)) e (lfEF X.K i a d n t)) (h2 : PA (X.suite a ((a, oe) :: pn)) es (lfAF X.K i a d n tr)) (hs : starEach (e :: es) X.env = (false, eval e X.env) :: starEach es X.env := by rfl) :
    PA (X.suite a ((a, oe) :: pn)) (e :: es) (lfAF X.K i a d n (fCons t tr)) := (pa_cons h1 h2 hs).impD fun σ H Q ⟨ρ, F, Q0, fs, s, en, z, ht, k⟩ =>
  ⟨ρ, F, _, fs, s, en, z, ht, fun v H1 F1 x x1 r q => ⟨ρ, F1, _, fs, x1.sub, en.mono x1, z.step x1, q, fun vs H2 F2 xs x2 r2 q2 => k (v :: vs) H2 F2 _ (x1.trans x2) (.cons (r.mono x2.mono) r2) q2⟩⟩
theorem pef_tup {x1} (h : PA (X.suite a ((a, oe) :: pn)) (e :: es) (lfAF X.K i a d n tr)) : PE (X.suite a ((a, oe) :: pn)) (.Tuple (e :: es) x1 pos) (lfEF X.K i a d n (fTup tr)) := (pe_tup h).impD fun σ H Q ⟨ρ, F, Q0, fs, s, en, z, ht, k⟩ =>
  ⟨ρ, F, _, fs, s, en, z, ht, fun vs H1 F1 ds x1 r q => ⟨by rw [r.length]; exact q.2.1, fun q' hp => k _ _ _ _ (x1.trans (Ext.newT x1.sub hp)) (.tup (.inl (.inl upd_same)) (r.mono (Ext.newT x1.sub hp).mono)) q.2.2⟩⟩
end
/-! ### the suite, the whole try -/
abbrev DSF := Flds → DS
def lfSF (K : PySem.W.Frag) (i : Nat) (a : Addr) (d : Option Addr) (n : Str) (t : DSF) : TS := fun Dn σ H => ∃ F0 H0 G F ρ N fs, Sta K F0 H0 G F σ H ρ ∧ InS K i a d n fs σ F H ∧ t fs N ρ ∧ EndsOk K F0 H0 G N Dn
section
variable {X : Cx} {i : Nat} {a : Addr} {d : Option Addr} {n g : Str} {e o : Expr} {es : List Expr} {t : DEF} {tr : DAF} {pos p p2 : Pos} {oe : Obj} {pn : List (Addr × Obj)}
def fSet (j : Nat) (t : DEF) : DSF := fun fs N ρ => t fs ρ fun d => N.nx (ρ.set j (.v d))
theorem psf_set {j : Nat} {x : Str} {pos' : Pos} (hN : X.N.Nodup) (hi : X.N[j]? = some x) (hx : Loc X.env.scope x) (he : PE (X.suite a ((a, oe) :: pn)) e (lfEF X.K i a d n t)) (hs : swapsWith e (some (.Name x pos')) pos.line X.env = pure false := by rfl)
    (hf : X.fn x = true ∨ X.env.scope.names.lookup x = some .local := by first | exact .inl rfl | exact .inr rfl | assumption) : PSs (X.suite a ((a, oe) :: pn)) [.Assign [.Name x pos'] e pos] (lfSF X.K i a d n (fSet j t)) :=
  pss_one ((ps_set (X := X.suite a ((a, oe) :: pn)) hN hi hx he hs hf).impD fun N σ H ⟨F0, H0, G, F, ρ, M, fs, so, z, ht, k⟩ =>
    ⟨ρ, F, _, fs, so.ext.sub, so.env, z, ht, fun v H1 F1 x x1 r q => k.nx _ H1 _ ⟨F1, (so.step x1).set j r⟩ q⟩)
end
/-- a slot of which nothing is known -/
theorem Sta.setUn {K : PySem.W.Frag} {F0 H0 G F H : Hp} {σ : St} {ρ : List Slot} (s : Sta K F0 H0 G F σ H ρ) (i : Nat) (o : Option V) : Sta K F0 H0 G F (σ.set i o) H (ρ.set i .un) := by
  have key : ∀ {j : Nat} {d : D}, (ρ.set i Slot.un)[j]? = some (.own d) → j ≠ i ∧ ρ[j]? = some (.own d) := fun {j d} h => by
    by_cases hj : j = i
    · subst hj
      have hl : j < ρ.length := by
        have := (List.getElem?_eq_some_iff.mp h).1
        simpa using this
      rw [List.getElem?_set_self hl] at h
      cases h
    · rw [List.getElem?_set_ne (Ne.symm hj)] at h
      exact ⟨hj, h⟩
  refine ⟨s.bse, s.pin, s.ext, ⟨by simp [s.env.len], fun j sl e => ?_, fun a b p d e hab h1 h2 h3 h4 => ?_⟩, fun j p d h1 h2 => ?_⟩
  · by_cases hj : j = i
    · subst hj
      have hl : j < ρ.length := by
        have := (List.getElem?_eq_some_iff.mp e).1
        simpa using this
      rw [List.getElem?_set_self hl] at e
      cases e
      exact ⟨o, by rw [List.getElem?_set_self (by rw [s.env.len]; exact hl)], trivial⟩
    · rw [List.getElem?_set_ne (Ne.symm hj)] at e ⊢
      exact s.env.at_ j sl e
  · obtain ⟨na, z2⟩ := key h2
    obtain ⟨nb, z4⟩ := key h4
    rw [List.getElem?_set_ne (Ne.symm na)] at h1
    rw [List.getElem?_set_ne (Ne.symm nb)] at h3
    exact s.env.sep a b p d e hab h1 z2 h3 z4
  · obtain ⟨nj, z2⟩ := key h2
    rw [List.getElem?_set_ne (Ne.symm nj)] at h1
    exact s.own j p d h1 z2
/-- one clause over data: the class that it catches, others that it lets by, its name's slot, its suite -/
structure Hd where
  y : Str
  no : List Str
  i : Nat
  ts : DSF
def hdW (N : DN) : List Hd → DXS
  | [] => fun _ _ _ => False
  | h :: r => fun ρ n fs => if n = h.y then h.ts fs { N with nx := fun ρ' => N.nx (ρ'.set h.i .un), bk := fun ρ' => N.bk (ρ'.set h.i .un), ct := fun ρ' => N.ct (ρ'.set h.i .un) } (ρ.set h.i .un) else n ∈ h.no ∧ hdW N r ρ n fs
def Hd.cl (K : PySem.W.Frag) (h : Hd) : Cl := ⟨.ref (He.ga K h.y), h.i, fun a cls d => fun Dn σ H => cls = .ref (He.ga K h.y) ∧ (h.i < σ.length → lfSF K h.i a d h.y h.ts Dn σ H)⟩
section
variable {X : Cx}
inductive HdsD (X : Cx) : List ExceptHandler → List Hd → Prop
  | nil : HdsD X [] []
  | cons {n : Str} {h : Hd} {st : Stmt} {sts : List Stmt} {np pp : Pos} {hs : List ExceptHandler} {l : List Hd} (hi : X.N[h.i]? = some n) (hln : X.env.kindOf n = some .local) (hc : Names X h.y (.ref (He.ga X.K h.y)))
      (yes : PySem.W.exmOne X.K (.ref (He.ga X.K h.y)) (.ref (He.ga X.K h.y)) = some true) (no : ∀ m ∈ h.no, PySem.W.exmOne X.K (.ref (He.ga X.K m)) (.ref (He.ga X.K h.y)) = some false)
      (su : ∀ (a : Addr) (oe : Obj) (d : Option Addr) (pn : List (Addr × Obj)), Zc (.ref (He.ga X.K h.y)) d oe → (∃ vs, oe.data = .fields vs) → PSs (X.suite a ((a, oe) :: pn)) (st :: sts) (lfSF X.K h.i a d h.y h.ts)) (r : HdsD X hs l) :
      HdsD X (.ExceptHandler (some (.Name h.y np)) (some n) (st :: sts) pp :: hs) (h :: l)
theorem HdsD.cls {hs : List ExceptHandler} {l : List Hd} (h : HdsD X hs l) : ClsOk X hs (l.map (Hd.cl X.K)) := by
  induction h with
  | nil => exact .nil
  | @cons n h st sts np pp hs l hi hln hc yes no su r ih =>
    refine ClsOk.cons (q := h.cl X.K) hi hln hc (fun a o cls d pn hz hf => ?_) ih
    by_cases e : cls = .ref (He.ga X.K h.y)
    · subst e
      exact ⟨fun pins s σ H D I q => (su a o d pn hz hf).run pins s σ H D I (q.2 (by
        have h1 := I.len
        have h2 := (List.getElem?_eq_some_iff.mp hi).1
        have h3 : σ.length = X.N.length := h1
        omega))⟩
    · exact ⟨fun pins s σ H D I q => (e q.1).elim⟩
/-- what the clauses do with what the body lets out -/
theorem hdW_ok {K : PySem.W.Frag} {F0 H0 G : Hp} {N : DN} {Dn : Ends} (k : EndsOk K F0 H0 G N Dn) : ∀ {hs : List ExceptHandler} {l : List Hd}, X.K = K → HdsD X hs l → XOk K F0 H0 G (hdW N l) (wCls K (fun _ _ _ _ => False) Dn (l.map (Hd.cl K)))
  | [], [], _, _ => fun _ _ _ _ _ _ _ _ _ _ z => z.elim
  | _ :: _, h :: l, eK, .cons hi hln hc yes no su r => fun σ H F ρ cls d n fs s x w => by
    subst eK
    have hx := x
    obtain ⟨e1, _⟩ := hx
    subst e1
    have w' : (if n = h.y then _ else _) := w
    by_cases e : n = h.y
    · rw [if_pos e] at w'
      subst e
      refine ⟨true, yes, (fun _ a ha => ⟨rfl, fun hl => ?_⟩), (fun z => by cases z)⟩
      have ha : (σ.set h.i (some (V.ref a)))[h.i]? = some (some (.ref a)) := List.getElem?_set_self (by simpa using hl)
      exact ⟨F0, H0, G, F, ρ.set h.i .un, _, fs, s.setUn h.i _, ⟨ha, x⟩, w', ⟨fun σ' H' ρ' ⟨F', s'⟩ q => k.nx _ _ _ ⟨F', s'.setUn h.i none⟩ q, k.rt, k.ro, fun σ' H' ρ' ⟨F', s'⟩ q => k.bk _ _ _ ⟨F', s'.setUn h.i none⟩ q, fun σ' H' ρ' ⟨F', s'⟩ q => k.ct _ _ _ ⟨F', s'.setUn h.i none⟩ q⟩⟩
    · rw [if_neg e] at w'
      exact ⟨false, no n w'.1, (fun z => by cases z), fun _ => hdW_ok k rfl r _ _ _ _ _ _ _ _ s x w'.2⟩
end

/-! ### what the classes must say, by one Bool -/
def allB (l : List Bool) : Bool := l.all id
theorem allB_at {l : List Bool} (h : allB l = true) (i : Nat) {b : Bool} (e : l[i]? = some b := by rfl) : b = true := List.all_eq_true.mp h b (List.mem_of_getElem? e)
/-- ValueError.__init__ read off the class -/
def vveB (K : PySem.W.Frag) : Bool := allB [decide (PySem.W.findIn K (.type "type") "__init__" = some (some (.builtin "type.__init__"))), decide (PySem.W.specialIn K (.builtin "type.__init__") "__get__" = some (some (.builtin "wrapper_descriptor.__get__"))),
  decide (PySem.W.takesIn K (.builtin "type.__init__") = some false), decide (PySem.W.findIn K (.type "ValueError") "__init__" = some (some (.builtin "ValueError.__init__"))), decide (PySem.W.typeIn K (.builtin "ValueError.__init__") = some (.type "wrapper_descriptor"))]
theorem vveB_ok {K : PySem.W.Frag} (h : vveB K = true) : PySem.W.findCls K (.type "ValueError") (.type "type") "__init__" = some (.val (.builtin "ValueError.__init__")) := by
  have h1 := of_decide_eq_true (allB_at h 0)
  have h2 := of_decide_eq_true (allB_at h 1)
  have h3 := of_decide_eq_true (allB_at h 2)
  have h4 := of_decide_eq_true (allB_at h 3)
  have h5 := of_decide_eq_true (allB_at h 4)
  have hn : Builtin.heldUnderItsOwnName ("__init__" : Str) (.builtin "ValueError.__init__") = false := by decide +kernel
  have hb : PySem.W.bareKinds.contains (.type "wrapper_descriptor") = true := by decide +kernel
  unfold PySem.W.findCls
  simp only [h1, h2, h3, h4, h5, hn, hb, Option.bind_some, Bool.false_eq_true, if_false, if_true]
def clsB (K : PySem.W.Frag) (n : Str) (gs : List Str) : Bool := oexB K (He.ga K n) && (excB K (He.ga K n) && (iniB K (He.ga K n) (He.ma K (He.ga K n) "__init__") && gs.all fun g => decide (PySem.W.findIn K (.ref (He.ga K n)) g = some none)))
structure ClsD (K : PySem.W.Frag) (n : Str) (gs : List Str) : Prop where
  ox : OexC K (He.ga K n)
  xf : XfC K (He.ga K n)
  is : ExcC K (He.ga K n)
  ini : IniC K (He.ga K n) (He.ma K (He.ga K n) "__init__")
  no : ∀ g ∈ gs, PySem.W.findIn K (.ref (He.ga K n)) g = some none
theorem clsB_ok {K : PySem.W.Frag} {n : Str} {gs : List Str} (h : clsB K n gs = true) : ClsD K n gs := by
  obtain ⟨h1, h⟩ := He.ba h
  obtain ⟨h2, h⟩ := He.ba h
  obtain ⟨h3, h4⟩ := He.ba h
  obtain ⟨k1, k2⟩ := excB_ok h2
  exact ⟨oexB_ok h1, k1, k2, iniB_ok h3, fun g hg => of_decide_eq_true (List.all_eq_true.mp h4 g hg)⟩
def exmB (K : PySem.W.Frag) (y z : Str) (b : Bool) : Bool := decide (PySem.W.exmOne K (.ref (He.ga K y)) (.ref (He.ga K z)) = some b)
theorem exmB_ok {K : PySem.W.Frag} {y z : Str} {b : Bool} (h : exmB K y z b = true) : PySem.W.exmOne K (.ref (He.ga K y)) (.ref (He.ga K z)) = some b := of_decide_eq_true h
def Rs1 (P : Program) (w : World) (K : PySem.W.Frag) (mg : Str → Option Value) (base : Heap) (n g : Str) : Prop := ∃ (fI : Addr) (fd : FuncData), ExD K mg n fI ∧ PySem.W.findIn K (.ref (He.ga K n)) g = some none ∧ FnOk P w K mg base CX0 2 fI fd ["self", g] (spI3 K n g) ∧ Binds K fd ["self", g] []
section
variable {X : Cx} {W : WX} {e : Expr} {t : DE} {pos p : Pos} {n g : Str}
theorem pdx_rs1 {pp : Pos} (T : Rs1 X.prog X.w X.K X.mg X.base n g) (tk : Takes X W) (hr : Room 3 X.A) (he : PD X e t) (hc : X.calm = true := by rfl) (hg : Gl X n := by rfl) (hdb : (n == ("__debug__" : Str)) = false := by decide)
    (hs : starEach [e] X.env = (false, eval e X.env) :: starEach [] X.env := by rfl) (hpl : (backTo p (starEach [] X.env)).any (·.1) = false := by rfl) : PDX X W (.Raise (some (.Call (.Name n pos) [e] [] p)) none pp) (xRaise1 n g t) := by
  obtain ⟨fI, fd, T, hno, F, hb⟩ := T
  exact pdx_raise1 hc tk T hno F hr hb he hg hdb hs hpl
/-- a def that may raise, where it does not -/
def noX (f : DSpX) : DSp := fun ds Q => f ds Q fun _ _ => False
theorem pdxs_nil : PDXs X W [] (xL sNext) := pdxs_of pds_nil
end
theorem mkGdX {P : Program} {w : World} {K : PySem.W.Frag} {mg : Str → Option Value} {base : Heap} {nm : Str} {k : Nat} {dd : List D} {f : DSpX} {a : Addr} {fd : FuncData} {ps : List Str} (hm : mg nm = some (.ref a)) (hk : PySem.W.keepIn K (.ref a) = true)
    (F : FnOk P w K mg base (L2.CX P w) k a fd ps (spDX K f)) {dvs : List V} (b : ∃ ds, Vals dvs ds ∧ Binds K fd ps ds) (r : ∀ F, RpA K F dvs dd) : GdX P w K mg base nm k dd f := by
  obtain ⟨ds, h1, h2⟩ := b
  exact ⟨a, fd, ps, ds, dvs, hm, hk, F, h2, h1, r⟩
/-! ### the Hook: facts by names, one more Bool, the interpreter's statics -/
abbrev AlY : Type := He.AlD × Bool
end DV

namespace DV
open PySem PySem.Spec PyProof.Rows L2

/-! ### d != e, d == e where they are equal (keys texts or numbers) -/
section
variable {X : Cx} {pins : List (Addr × Obj)} {σ : St} {H : Hp} {s : Shared}
end
end DV

namespace DV
open PySem PySem.Spec PyProof.Rows L2 PySem.SeqAt

/-! ### sorted({.. for .. in ..}), the members tuples of whole numbers -/
section
variable {X : Cx} {pins : List (Addr × Obj)} {σ : L2.St} {H : Hp} {s : Shared}
end
section
variable {X : Cx} {elt tg iter : Expr} {ifs : List Expr} {scope : Scope} {own : List (Str × Nat)} {pos : Pos}
end
end DV

namespace DV
open PySem PySem.Spec PyProof.Rows L2 PySem.SeqAt

/-- a tuple of whole numbers, as data -/
def ikD (k : List Int) : D := .tup (k.map .int)
/-! ### sorted of such a set -/
section
variable {X : Cx}
end
/-! ### as data -/
section
variable {X : Cx} {elt tg iter : Expr} {ifs : List Expr} {scope : Scope} {own : List (Str × Nat)} {pos pos' p : Pos} {it : DI} {g : TG} {g' : DG} {tt : DT} {te : DE}
end
end DV

namespace DV
open PySem PySem.Spec PyProof.Rows L2

/-! ### sum of whole numbers -/
end DV

namespace DV
open PySem PySem.Spec PyProof.Rows L2 PySem.SeqAt

/-! ### a lambda of one parameter -/
structure LamP (sc scope : Scope) (a : Str) : Prop where
  kind : scope.kind = .function
  co : scope.isCoroutine = false
  gen : scope.isGenerator = false
  cel : ∀ y ∈ scope.names, y.2 ≠ .cell
  own : ∀ y ∈ scope.names, y.2 = .local → y.1 = a
  par : scope.names.lookup a = some .local
  free : ∀ y ∈ scope.names, y.2 = .free → sc.names.lookup y.1 = some .cell ∨ sc.names.lookup y.1 = some .free
section
variable {X : Cx} {pins : List (Addr × Obj)} {σ : L2.St} {F H : Hp} {s : Shared}
theorem LamP.has {scope : Scope} {a : Str} (L : LamP X.env.scope scope a) (ok : X.Ok) : ∀ y ∈ scope.names, y.2 = .free → ∃ c, X.env.cells.lookup y.1 = some c := fun y hy e =>
  (L.free y hy e).elim (fun k => ok.has _ (.inl k)) fun k => ok.has _ (.inr k)
/-- the lambda is made -/
theorem lam_makeF {c P : Addr} {params : Arguments} {body : Expr} {scope : Scope} {pos : Pos} {E : Value → Shared → Prop} {Q : Value → Shared → Prop} (sb : Sub F H) (I : Inv X pins σ H s) (TB : LamX.TabB X.base X.mg c P) (hcode : X.env.code = .ref c)
    (hF : F P = some (Mark3 (X.env.qual ++ "<lambda>"))) (hdef : defaultsOf params X.env = ([], [])) (hfree : ∀ y ∈ scope.names, y.2 = .free → ∃ c, X.env.cells.lookup y.1 = some c)
    (h : ∀ (f c' : Addr) (pm ctv : Value) (F1 H1 : Hp) (s' : Shared), Inv X pins σ H1 s' → Ext F H F1 H1 →
      s'.heap.get? f = some (PySem.W.kla_obj "<lambda>" (X.env.qual ++ "<lambda>") params body scope (cloFrom X.env.cells scope.names []) pm c' ctv) → H1 f = none → f ∉ frs X.stack → F1 c' = some (LamX.CodeO c' (X.env.qual ++ "<lambda>")) → Q (.ref f) s') :
    wpAny (model X.prog X.w) X.A (eval (.Lambda params body scope pos) X.env) Q E s := by
  obtain ⟨ps, hP, ht, ha⟩ := (sb P _ hF).tabQ
  refine PySem.W.kla_eval hdef ?_
  have bP : s.heap.BuiltinsAt X.mg P := TB.bm.keeps I.bk
  have hP' : s.heap.get? P = some { cls := .none, data := .fields ps } := I.hok P _ hP
  have nofr : ∀ f, s.heap.objs.size ≤ f → f ∉ frs X.stack := fun f hf z => by
    rcases List.mem_cons.mp (I.stkSub _ z) with e | e
    · have h1 := I.lt
      rw [← e] at h1
      exact Nat.lt_irrefl _ (Nat.lt_of_lt_of_le h1 hf)
    · exact I.nofs hf e
  cases hc : codeAmong pos ps.toList with
  | some cv =>
    obtain ⟨c', rfl, hco⟩ := ha pos cv hc
    refine PySem.W.kla_makeFunctionHit (mg := X.mg) (c := c) (P := P) (ps := ps) (closure_ok hfree) I.ok.glob (I.mod.glob.keeps I.bk) hcode (TB.code.keeps I.bk) hP' ht hc bP fun ctv h' tk hx hsz => ?_
    exact h h'.objs.size c' ((X.mg "__name__").getD .none) ctv F H _ (I.kept (t' := tk) fun b o e => Heap.get?_push_of_some _ (hx b o e)) (.refl sb) (Heap.get?_push_size _ rfl) (I.hok.fresh hsz) (nofr _ hsz) hco
  | none =>
    refine PySem.W.kla_makeFunction (mg := X.mg) (c := c) (P := P) (ps := ps) (closure_ok hfree) I.ok.glob (I.mod.glob.keeps I.bk) hcode (TB.code.keeps I.bk) hP' ht hc TB.gP bP fun c' ctv h' tk hx hge hlt hrec htb => ?_
    obtain ⟨c2, oc, vs, t, e2, hoc, hd, hv⟩ := hrec
    cases e2
    have hsz : s.heap.objs.size ≤ h'.objs.size := by omega
    have nC : H c' = none := I.hok.fresh hge
    have fC : F c' = none := sb.none nC
    have nPc : P ≠ c' := ne_of_none hP nC
    have I1 := LamX.inv_table (t' := tk) (q := X.env.qual ++ "<lambda>") (more := #[rawInt pos.line, rawInt pos.col, .ref c']) (h' := h'.push (PySem.W.kla_obj "<lambda>" (X.env.qual ++ "<lambda>") params body scope (cloFrom X.env.cells scope.names []) ((X.mg "__name__").getD .none) c' ctv)) I hP
      (fun b o hb e => Heap.get?_push_of_some _ (hx b o hb e)) (Heap.get?_push_of_some _ htb) hge ⟨oc, vs, t, Heap.get?_push_of_some _ hoc, hd, hv⟩
    have n1 : h'.objs.size ≠ c' := by omega
    have n2 : h'.objs.size ≠ P := Nat.ne_of_gt (Nat.lt_of_lt_of_le (Heap.lt_size hP') hsz)
    refine h h'.objs.size c' ((X.mg "__name__").getD .none) ctv (upd F c' (LamX.CodeO c' (X.env.qual ++ "<lambda>"))) _ _ I1 ?_ (Heap.get?_push_size _ rfl) ?_ (nofr _ hsz) upd_same
    · have hm : Same F (upd F c' (LamX.CodeO c' (X.env.qual ++ "<lambda>"))) := fun b o e => by rw [upd_ne (ne_of_none e fC)]; exact e
      refine ⟨hm, fun b o e q => ?_, fun b o e => ?_⟩
      · have nb : b ≠ c' := ne_of_none q nC
        have nP : b ≠ P := fun z => by rw [z, hF] at e; cases e
        rw [upd_ne nb, upd_ne nP, upd_ne nb]
        exact ⟨q, e⟩
      · by_cases hb : b = c'
        · subst hb
          rw [upd_same] at e
          cases e
          show upd _ _ _ _ = some _
          exact upd_same
        · rw [upd_ne hb] at e
          by_cases hp : b = P
          · subst hp
            rw [hF] at e
            cases e
            refine Stands.ofTabQ ⟨ps ++ #[rawInt pos.line, rawInt pos.col, .ref c'], by rw [upd_ne hb, upd_same], ?_, fun p' cv hcv => ?_⟩
            · rw [show (ps ++ #[rawInt pos.line, rawInt pos.col, .ref c']).toList = ps.toList ++ [rawInt pos.line, rawInt pos.col, .ref c'] by simp]
              exact PySem.TriplesOk_snoc _ _ _ _ ht
            · rw [show (ps ++ #[rawInt pos.line, rawInt pos.col, .ref c']).toList = ps.toList ++ [rawInt pos.line, rawInt pos.col, .ref c'] by simp] at hcv
              rcases LamX.among_app _ ht hcv with z | z
              · obtain ⟨c0, e1, e3⟩ := ha p' cv z
                exact ⟨c0, e1, hm _ _ e3⟩
              · exact ⟨c', z, upd_same⟩
          · exact (sb b o e).mono hm fun u q => by rw [upd_ne hb, upd_ne hp]; exact q
    · rw [upd_ne n1, upd_ne n2]
      exact I.hok.fresh hsz
end
end DV

namespace DV
open PySem PySem.Spec PyProof.Rows L2 PySem.SeqAt

/-! ### sorted(xs, key=lambda ..) -/
structure KeysOk (ks : List D) : Prop where
  flat : ∀ k ∈ ks, k.flatOk = true
  al : PySem.W.AllAlike (ks.map D.toP)
  so : PySem.W.Sortable (ks.map D.toP)
  dp : ∀ k ∈ ks, k.toP.depth ≤ 8
def leK (a b : D × D) : Bool := !PySem.W.dataLt b.2.toP a.2.toP
/-- by their keys, stably -/
def sortBy (ds ks : List D) : List D := ((ds.zip ks).mergeSort leK).map (·.1)
def keysL (te : DE) (i : Nat) (ρ : List Slot) : List D → List D → (List D → Prop) → Prop
  | [], acc, Q => Q acc
  | d :: ds, acc, Q => te (ρ.set i (.v d)) fun y => keysL te i ρ ds (acc ++ [y]) Q
def dSortK (t te : DE) (i j : Nat) (T : List (Addr × Str)) : DE := fun ρ Q => t ρ fun x => match x with
  | .lst ds => ρ[j]? = some (.tb T) ∧ keysL te i ρ ds [] fun ks => KeysOk ks ∧ Q (.lst (sortBy ds ks))
  | _ => False
section
variable {X : Cx} {pins : List (Addr × Obj)} {σ : L2.St} {F H : Hp} {s : Shared}
end
section
variable {X : Cx} {e body : Expr} {t te : DE} {params : Arguments} {scope : Scope} {T : List (Addr × Str)} {P c : Addr} {i j k : Nat} {a : Str} {p lpos kp pos : Pos}
end
end DV

namespace DV
open PySem PySem.Spec PyProof.Rows L2

/-! ### {key: value for .. in ..}, keys texts or whole numbers -/
def dcD (g : DG) (tt : DT) (tk tv : DE) (ρ : List Slot) : List D → List (D × D) → (D → Prop) → Prop
  | [], acc, Q => Q (.dic acc)
  | d :: ds, acc, Q => g d ρ fun ρ2 => tt ρ2 fun b => if b = true then tk ρ2 fun k => tv ρ2 fun v => k.flt = true ∧ acc.length < sizeLine ∧ dcD g tt tk tv ρ ds (dputD acc k v) Q else dcD g tt tk tv ρ ds acc Q
def dDc (it : DI) (g : DG) (tt : DT) (tk tv : DE) (vs : List Nat) : DE := fun ρ Q => it ρ fun ds => dcD g tt tk tv (wipeD ρ vs) ds [] Q
section
variable {X : Cx} {kx vx tg iter : Expr} {ifs : List Expr} {scope : Scope} {own : List (Str × Nat)} {pos : Pos} {it : DI} {g : TG} {g' : DG} {tt : DT} {tk tv : DE}
end
/-! ### defs that make lambdas, or call such -/
def spT (K : PySem.W.Frag) (T : List (Addr × Str)) (f : DSp) : Sp := fun vs H Q _ => ∃ F ds Q0, Sub F H ∧ TabF T F ∧ RpA K F vs ds ∧ f ds Q0 ∧ ∀ v H' F' d, Ext F H F' H' → Rp K F' v d → Q0 d → Q v H'
/-- the last slot holds the tables -/
def fnT (T : List (Addr × Str)) (n m : Nat) (t : DS) : DSp := fun ds Q => ds.length = m ∧ t ⟨fun _ => Q .non, Q, fun _ => False, fun _ => False, roL Q⟩ (ds.map Slot.v ++ List.replicate (n - 1 - m) Slot.un ++ [.tb T])
theorem env_startT {K : PySem.W.Frag} {F H : Hp} {N : List Str} {vs : List V} {ds : List D} {T : List (Addr × Str)} (r : RpA K F vs ds) (hl : ds.length < N.length) (tb : TabF T F) :
    EnvOk K F H (L2.start N vs) (ds.map Slot.v ++ List.replicate (N.length - 1 - ds.length) Slot.un ++ [.tb T]) := by
  have en : EnvOk K F H (L2.start N vs) (ds.map Slot.v ++ List.replicate (N.length - ds.length) Slot.un) := env_start r
  have e : (ds.map Slot.v ++ List.replicate (N.length - ds.length) Slot.un) = (ds.map Slot.v ++ List.replicate (N.length - 1 - ds.length) Slot.un) ++ [Slot.un] := by
    rw [List.append_assoc]
    congr 1
    rw [show N.length - ds.length = (N.length - 1 - ds.length) + 1 by omega, List.replicate_succ']
  rw [e] at en
  generalize ds.map Slot.v ++ List.replicate (N.length - 1 - ds.length) Slot.un = A at *
  have same : ∀ (i : Nat) d, (A ++ [Slot.tb T])[i]? = some (.own d) → (A ++ [Slot.un])[i]? = some (.own d) := fun i d h => by
    by_cases hi : i < A.length
    · rw [List.getElem?_append_left hi] at h ⊢
      exact h
    · rw [List.getElem?_append_right (by omega)] at h
      have := List.mem_of_getElem? h
      rw [List.mem_singleton] at this
      cases this
  refine ⟨by rw [en.len]; simp, fun i s h => ?_, fun i j p d e hij h1 h2 h3 h4 => en.sep i j p d e hij h1 (same i d h2) h3 (same j e h4)⟩
  by_cases hi : i < A.length
  · rw [List.getElem?_append_left hi] at h
    exact en.at_ i s (by rw [List.getElem?_append_left hi]; exact h)
  · have hm := h
    rw [List.getElem?_append_right (by omega)] at h
    have e2 := List.mem_of_getElem? h
    rw [List.mem_singleton] at e2
    subst e2
    have hl : i < (A ++ [Slot.un]).length := by
      have := (List.getElem?_eq_some_iff.mp hm).1
      simpa using this
    obtain ⟨x, ex, _⟩ := en.at_ i _ (List.getElem?_eq_getElem hl)
    exact ⟨x, ex, tb⟩
section
variable {P : Program} {w : World} {K : PySem.W.Frag} {mg : Str → Option Value} {base : Heap}
theorem not_ownT {ds : List D} {n : Nat} {T : List (Addr × Str)} {i : Nat} {d : D} (h : (ds.map Slot.v ++ List.replicate n Slot.un ++ [.tb T])[i]? = some (.own d)) : False := by
  have hm := List.mem_of_getElem? h
  rcases List.mem_append.mp hm with z | z
  · rcases List.mem_append.mp z with z | z
    · obtain ⟨d', _, z⟩ := List.mem_map.mp z
      cases z
    · cases (List.mem_replicate.mp z).2
  · rw [List.mem_singleton] at z
    cases z
theorem fn_okT {x qual : Str} {params : Arguments} {body : List Stmt} {scope : Scope} {dvs : List V} {kws : List (Str × V)} {f : Addr} {fd : FuncData} {N ps : List Str} {k : Nat} {t : DS} {T : List (Addr × Str)}
    (F : FunD K x qual params body scope dvs kws f fd) (S : FnScope N ps scope) (hlt : ps.length < N.length)
    (hb : ∀ (cdv : Value) (A : Around) (outer : List Env) (s : Shared) (H : Hp) (E : XK), PySem.W.codeIn K cdv qual = true → (∃ oc od osl, K.lookup f = some ⟨oc, od, .func fd, osl⟩ ∧ fd.code = cdv) → Room k (A.deeper (envOfC qual scope s.heap.objs.size f cdv)) → PDSs (cxOf CX0 P w K mg base N qual scope f cdv A outer s H E).nox body t) :
    FnOk P w K mg base CX0 (k + 1) f fd ps (spT K T (fnT T N.length ps.length t)) := by
  obtain ⟨oc, od, dV, kV, doc, pm, an, cdv, ct, osl, rfl, lk, hcd, _, _⟩ := F.ex
  refine L2.fn_of lk hcd S (fun vs H Q E h => ?_) fun A outer s H vs Q E hr h => ⟨_, PSs.nox (hb cdv A outer s H E hcd ⟨oc, od, osl, lk, rfl⟩ hr), ?_⟩
  · obtain ⟨F, ds, Q0, _, _, r, h, _⟩ := h
    rw [r.length]; exact h.1
  · obtain ⟨F, ds, Q0, sb, tb, r, h, q⟩ := h
    have en := env_startT (H := H) (N := N) r (by rw [h.1]; exact hlt) tb
    rw [h.1] at en
    exact ⟨F, H, F, _, _, ⟨F, ⟨sb, Same.refl F, .refl sb, en, fun i p d h1 h2 => (not_ownT h2).elim⟩⟩, h.2, ⟨fun σ' H' ρ' ⟨F', s'⟩ z => q .non H' F' .non s'.ext .non z, fun v H' F' d x r z => q v H' F' d x r z, fun p d H' F' x h0 hF o z => (by
      cases d <;> first | (simp [roL, isLst] at z; done) | skip
      obtain ⟨xs, hp, r⟩ := o
      exact q (.ref p) H' (upd F' p (.lst xs)) _ (x.adopt h0 hF hp) (.lst upd_same (r.mono fun b o e => by rw [upd_ne (ne_of_none e hF)]; exact e)) z.2), fun _ _ _ _ z => z.elim, fun _ _ _ _ z => z.elim⟩⟩
end
section
variable {X : Cx} {e : Expr} {es : List Expr} {tr : DA} {pos p : Pos} {nm : Str} {k : Nat} {dd : List D} {f : DSp} {T : List (Addr × Str)}
/-- the tables are held in slot j -/
def dCallT (j : Nat) (T : List (Addr × Str)) (f : DSp) (dd : List D) (tr : DA) : DE := fun ρ Q => ρ[j]? = some (.tb T) ∧ tr ρ fun ds => f (ds ++ dd) Q
theorem EnvOk.tab {K : PySem.W.Frag} {F H : Hp} {σ : L2.St} {ρ : List Slot} (en : EnvOk K F H σ ρ) {j : Nat} {T : List (Addr × Str)} (h : ρ[j]? = some (.tb T)) : TabF T F := let ⟨_, _, tb⟩ := en.at_ j _ h; tb
end
end DV

namespace DV
open PySem PySem.Spec PyProof.Rows L2

/-! ### x not in a tuple; tuples of texts of the module -/
section
variable {X : Cx}
def notInTD : D2 := fun x y Q => match y with
  | .tup ds => x.lay = true ∧ (D.tup ds).lay = true ∧ Q (.bl (!ds.any fun z => D.eqb z x))
  | _ => False
end
section
variable {X : Cx} {e : Expr} {es : List Expr} {t : DE} {tr tk : DA} {pos p : Pos} {nm : Str} {k : Nat} {f : DSp} {T : List (Addr × Str)} {kws : List Keyword} {ks : List Str} {kpos : Pos} {kn : Option Str}
/-! ### calls with keywords -/
theorem _root_.L2.PK.impD {X : Cx} {kws : List Keyword} {t t' : TA} (h : PK X kws t) (i : ∀ σ H Q, t' σ H Q → t σ H Q) : PK X kws t' := ⟨fun pos p s σ H Q I q => h.run pos p s σ H Q I (i _ _ _ q)⟩
def dCallTK (j : Nat) (T : List (Addr × Str)) (n m : Nat) (f : DSp) (tr tk : DA) : DE := fun ρ Q => ρ[j]? = some (.tb T) ∧ tr ρ fun ds => tk ρ fun zs => ds.length = n ∧ zs.length = m ∧ f (ds ++ zs) Q
end
/-! ### the Hook: facts by names, one more Bool, the interpreter's statics, tables -/
def frZ (n : Nat) (g : Addr → Option Obj) : PySem.W.Frag := He.frT g (He.asD g n ++ [PySem.cStatics])
def obsZ (n : Nat) (fa : List He.Fa) (fn : List He.DefD) (tf : List He.Defn) (ex : PySem.W.Frag → Bool) (g : Addr → Option Obj) : AlY := (He.obsD fa fn (frZ n g), ex (frZ n g) && He.tabsB g tf (frZ n g))
structure SaysZ (fa : List He.Fa) (fn : List He.DefD) (tf : List He.Defn) (ex : PySem.W.Frag → Bool) (h : Heap) (K : PySem.W.Frag) : Prop where
  c : He.SaysD fa fn K
  x : ex K = true
  hd : ∀ p ∈ tf, PySem.W.codeHdIn K (He.cT K p).1 (He.cT K p).2 = true
  out : ∀ p ∈ tf, K.lookup (He.cT K p).2 = none
  empty : ∀ p ∈ tf, h.get? (He.cT K p).2 = some { cls := .none, data := .fields #[] }
theorem saysZ_of {n : Nat} {fa : List He.Fa} {fn : List He.DefD} {tf : List He.Defn} {ex : PySem.W.Frag → Bool} {h : Heap} (e : obsZ n fa fn tf ex h.get? = (He.valD fn, true)) : SaysZ fa fn tf ex h (frZ n h.get?) := by
  have e1 : He.obsD fa fn (frZ n h.get?) = He.valD fn := congrArg (fun z : AlY => z.1) e
  have e2 : (ex (frZ n h.get?) && He.tabsB h.get? tf (frZ n h.get?)) = true := congrArg (fun z : AlY => z.2) e
  obtain ⟨h1, h2⟩ := He.ba e2
  have key : ∀ p ∈ tf, PySem.W.codeHdIn (frZ n h.get?) (He.cT (frZ n h.get?) p).1 (He.cT (frZ n h.get?) p).2 = true ∧ ∃ o, h.get? (He.cT (frZ n h.get?) p).2 = some o ∧ He.emptyTab o = true := fun p hp => by
    obtain ⟨h3, h4⟩ := He.ba (List.all_eq_true.mp h2 p hp)
    refine ⟨h3, ?_⟩
    cases q : h.get? (He.cT (frZ n h.get?) p).2 with
    | none =>
      rw [q] at h4
      cases h4
    | some o =>
      rw [q] at h4
      exact ⟨o, rfl, h4⟩
  refine ⟨e1, h1, fun p hp => (key p hp).1, fun p hp => ?_, fun p hp => ?_⟩
  · obtain ⟨_, o, q, z⟩ := key p hp
    exact He.frT_none q z
  · obtain ⟨_, o, q, z⟩ := key p hp
    rw [q, He.emptyTab_eq z]
def hookZ (n : Nat) (fa : List He.Fa) (fn : List He.DefD) (tf : List He.Defn) (ex : PySem.W.Frag → Bool) : PySem.W.Hook where
  α := AlY
  obs := fun s => obsZ n fa fn tf ex s.heap.get?
  val := fun _ => (He.valD fn, true)
  says := fun _ h => ∃ K : PySem.W.Frag, K.In h ∧ SaysZ fa fn tf ex h K
  of := fun _ s e => ⟨frZ n s.heap.get?, He.frT_in, saysZ_of e⟩
  keeps := fun _ _ _ z k => z.elim fun K q => ⟨K, PySem.W.Frag.In.keeps q.1 k, ⟨q.2.c, q.2.x, q.2.hd, q.2.out, fun p hp => k _ _ (q.2.empty p hp)⟩⟩
theorem obsZ_eq {n : Nat} {fa : List He.Fa} {fn : List He.DefD} {tf : List He.Defn} {ex : PySem.W.Frag → Bool} {g : Addr → Option Obj} {s : Shared} (h : ∀ a, g a = s.heap.get? a) : obsZ n fa fn tf ex g = (hookZ n fa fn tf ex).obs s := by
  obtain rfl : g = s.heap.get? := funext h
  rfl
/-! ### the end -/
def tabsT (K : PySem.W.Frag) (tf : List (He.Defn × Str)) : List (Addr × Str) := tf.map fun p => ((He.cT K p.1).2, p.2)
def marksT (T : List (Addr × Str)) : Hp := fun b => (T.find? fun p => decide (p.1 = b)).map fun p => Mark3 p.2
theorem law_spT {K : PySem.W.Frag} {T : List (Addr × Str)} {f : DSp} (h : f [.scr] fun d => d = .bl true) {H : Hp} {a : Addr} {ns : List Int} (hl : ns.length ≤ 63) (hT : ∀ p ∈ T, H p.1 = some (.tbl #[])) (hu : ∀ p ∈ T, ∀ q ∈ T, p.1 = q.1 → p.2 = q.2) (hS : SqL K H a (ns.map V.int)) :
    spT K T f [.ref a] H (fun v _ => v = .bl true) fun _ _ _ => False := by
  have at_ : ∀ {b : Addr} {o : HO}, marksT T b = some o → ∃ p ∈ T, p.1 = b ∧ o = Mark3 p.2 := fun {b o} e => by
    unfold marksT at e
    obtain ⟨q, e1, e2⟩ := Option.map_eq_some_iff.mp e
    have := List.find?_some e1
    exact ⟨q, List.mem_of_find?_eq_some e1, by simpa using this, e2.symm⟩
  have tab : ∀ p ∈ T, marksT T p.1 = some (Mark3 p.2) := fun p hp => by
    unfold marksT
    cases e : T.find? (fun q => decide (q.1 = p.1)) with
    | none =>
      have := List.find?_eq_none.mp e p hp
      simp at this
    | some q =>
      have h1 := List.find?_some e
      have h2 : q.1 = p.1 := by simpa using h1
      show some (Mark3 q.2) = _
      rw [hu q (List.mem_of_find?_eq_some e) p hp h2]
  have std : ∀ (F : Hp) (p : Addr × Str), p ∈ T → Stands F H p.1 (Mark3 p.2) := fun F p hp => Stands.ofTabQ ⟨#[], hT p hp, True.intro, fun pos cv hc => by
    have z : codeAmong pos [] = some cv := hc
    simp [codeAmong] at z⟩
  rcases hS with hS | hS
  · have na : ∀ p ∈ T, p.1 ≠ a := fun p hp e => by
      have := hT p hp
      rw [e] at this
      rcases hS with z | ⟨o', z⟩ <;> rw [z] at this <;> cases this
    refine ⟨fun b => if b = a then H b else marksT T b, [.scr], _, fun b o e => ?_, fun p hp => ?_, .cons (.scr (ns := ns) (.inl ?_) hl) .nil, h, fun v H' F' d _ r q => ?_⟩
    · by_cases hb : b = a
      · subst hb
        have e : H b = some o := by simpa using e
        rcases hS with z | ⟨o', z⟩ <;> rw [z] at e <;> cases e <;> exact z
      · have e : marksT T b = some o := by simpa [hb] using e
        obtain ⟨p, hp, rfl, rfl⟩ := at_ e
        exact std _ p hp
    · show (if p.1 = a then H p.1 else marksT T p.1) = _
      rw [if_neg (na p hp)]
      exact tab p hp
    · rcases hS with z | ⟨o', z⟩
      · exact .inl ((if_pos rfl).trans z)
      · exact .inr ⟨o', (if_pos rfl).trans z⟩
    · subst q; cases r; rfl
  · refine ⟨marksT T, [.scr], _, fun b o e => ?_, tab, .cons (.scr (ns := ns) (.inr hS) hl) .nil, h, fun v H' F' d _ r q => ?_⟩
    · obtain ⟨p, hp, rfl, rfl⟩ := at_ e
      exact std _ p hp
    · subst q; cases r; rfl
/-- the def at a makes a lambda: its code object's table is the one at P, of the name q -/
def LamH (K : PySem.W.Frag) (mg : Str → Option Value) (base : Heap) (a : Addr) (T : List (Addr × Str)) (q : Str) : Prop :=
  ∃ c P, (∀ oc od fd osl, K.lookup a = some ⟨oc, od, .func fd, osl⟩ → fd.code = .ref c) ∧ LamX.TabB base mg c P ∧ (P, q) ∈ T
theorem lamH_of {K : PySem.W.Frag} {mg : Str → Option Value} {base : Heap} {p : He.Defn} {q : Str} {tf : List (He.Defn × Str)} {x qual : Str} {params : Arguments} {body : List Stmt} {scope : Scope} {dvs : List V} {kws : List (Str × V)} {fd : FuncData}
    (F : FunD K x qual params body scope dvs kws (He.fAd K p) fd) (hp : (p, q) ∈ tf) (TB : ∀ r ∈ tf.map (fun r => He.cT K r.1), LamX.TabB base mg r.1 r.2) : LamH K mg base (He.fAd K p) (tabsT K tf) q := by
  obtain ⟨oc, od, dV, kV, doc, pm, an, cdv, ct, osl, rfl, lk, hcd, _, _⟩ := F.ex
  obtain ⟨c, e⟩ := He.codeIn_ref hcd
  have ec : He.codeOf K p = c := He.codeOf_eq lk e
  refine ⟨c, (He.cT K p).2, fun oc' od' fd' osl' lk' => ?_, ?_, List.mem_map.mpr ⟨_, hp, rfl⟩⟩
  · rw [lk] at lk'
    cases lk'
    exact e
  · have := TB (He.cT K p) (List.mem_map.mpr ⟨_, hp, rfl⟩)
    have e2 : (He.cT K p).1 = c := ec
    rw [e2] at this
    exact this
theorem walk_ofTE {l : PySem.W.OpenLaw} {n k : Nat} {q : Program} {loose : List Str} {XP : (Str → Option Value) → Heap → Prop} {YP : World → Heap → Prop} {d : DefRec} {CX : CXT} {x : Str}
    (hn : l.most = some n) (hn2 : n ≤ sizeLine) (hdf : d.params.defaults = []) (hr : Room k callerA)
    (F : ∀ (w : World) (mg : Str → Option Value) (fa : Addr) (h : Heap), YP w h → h.Ns mainGlobals mg → mg d.name = some (.ref fa) → ∃ K : PySem.W.Frag, K.In h ∧ LamX.LawAtS l w K CX k n x mg fa h)
    (hCX : ∀ (H : Hp) (s : Shared) (e : Value) (s' : Shared), CX [] H s (fun _ _ _ => False) e s' → False) :
    PySem.W.WalkO q loose XP YP l.row.toRowW d [] (fun f vs => PySem.call f vs) := by
  refine Att.attach_callB hn hdf fun w s₀ s₁ mg mb fa o pm cd doc a vs ns G Y ho hd hcd hmg hobj hints hlen hbits hg => ?_
  obtain ⟨K, KX, fd, cs, sp, hT, nT, C, hb, hsp, hF⟩ := F w mg fa _ Y G.T.g hmg
  exact LamX.law_callTs KX G.T.g G.T.b G.T.builtins G.T.nolimit hg hT nT C G.T.bmain hobj hints (Nat.le_trans hlen hn2) hr hF hb
    (fun H hH hS => hsp H a ns hlen hbits hH hS) fun H e s' => hCX H s₁ e s'
theorem lawAt_of {l : PySem.W.OpenLaw} {w : World} {K : PySem.W.Frag} {CX : CXT} {k : Nat} {x : Str} {mg : Str → Option Value} {fa : Addr} {h : Heap} {fl : List He.Fa} {fn : List He.DefD} {tf : List (He.Defn × Str)} {ex : PySem.W.Frag → Bool} {fd : FuncData} {f : DSp}
    (KX : K.In h) (c : SaysZ fl fn (tf.map (·.1)) ex h K) (hu : ∀ p ∈ tabsT K tf, ∀ q ∈ tabsT K tf, p.1 = q.1 → p.2 = q.2) (hb : ∀ (s : Shared) (u : Value), BindsTo s fd ⟨[u], []⟩ [(x, u)]) (pl : f [.scr] fun d => d = .bl true)
    (hF : ∀ base : Heap, K.In base → base.Ns mainGlobals mg → (∀ p ∈ tf.map (fun r => He.cT K r.1), LamX.TabB base mg p.1 p.2) → FnOk l.prog w K mg base CX k fa fd [x] (spT K (tabsT K tf) f)) : LamX.LawAtS l w K CX k 63 x mg fa h := by
  have mem : ∀ p ∈ tf.map (fun r => He.cT K r.1), ∃ d ∈ tf.map (·.1), p = He.cT K d := fun p hp => by
    obtain ⟨r, hr, rfl⟩ := List.mem_map.mp hp
    exact ⟨r.1, List.mem_map.mpr ⟨r, hr, rfl⟩, rfl⟩
  refine ⟨fd, tf.map (fun r => He.cT K r.1), spT K (tabsT K tf) f, fun p hp => ?_, fun p hp => ?_, fun p hp => ?_, hb, fun H a ns hl _ hH hS => law_spT pl hl (fun p hp => ?_) hu hS, hF⟩
  · obtain ⟨d, hd, rfl⟩ := mem p hp
    exact c.empty d hd
  · obtain ⟨d, hd, rfl⟩ := mem p hp
    exact c.out d hd
  · obtain ⟨d, hd, rfl⟩ := mem p hp
    exact PySem.W.codeHd_of_K KX (c.hd d hd)
  · obtain ⟨r, hr, rfl⟩ := List.mem_map.mp hp
    exact hH (He.cT K r.1) (List.mem_map.mpr ⟨r, hr, rfl⟩)
end DV

namespace DV
open PySem PySem.Spec PyProof.Rows L2

/-! ### d == e, d != e where the dicts agree (keys texts or numbers, in any order) -/
section
variable {X : Cx} {pins : List (Addr × Obj)} {σ : St} {H : Hp} {s : Shared}
end
end DV

namespace DV
open PySem PySem.Spec PyProof.Rows L2
/-! the readings of the defs, by canon.json -/
def c_greatest : DSp := fnD 2 2
  (sSeq (sPar 0 1 (dCons (dB absD (dCons (dVar 0) dNil)) (dCons (dB absD (dCons (dVar 1) dNil)) dNil))) (sSeq (sWhile (dTest (dOp gtA (dVar 1) (dC (.int 0)))) (sPar 0 1 (dCons (dVar 1) (dCons (dOp modD (dVar 0) (dVar 1)) dNil)))) (sRet (dVar 0))))
def c_lowest : DSp := fnD 3 2
  (sSeq (sIf (dTest (dOp eqD (dVar 1) (dC (.int 0)))) sNever sNext) (sSeq (sSet 2 (dCall c_greatest [] (dCons (dVar 0) (dCons (dVar 1) dNil)))) (sSeq (sIf (dTest (dOp ltA (dVar 1) (dC (.int 0)))) (sSet 2 (dUn negD (dVar 2))) sNext) (sRet (dTup (dCons (dOp fdivD (dVar 0) (dVar 2)) (dCons (dOp fdivD (dVar 1) (dVar 2)) dNil)))))))
def c_plus : DSp := fnD 2 2
  (sRet (dCall c_lowest [] (dCons (dOp addD (dOp mulD (dOp ixD (dVar 0) (dC (.int 0))) (dOp ixD (dVar 1) (dC (.int 1)))) (dOp mulD (dOp ixD (dVar 1) (dC (.int 0))) (dOp ixD (dVar 0) (dC (.int 1))))) (dCons (dOp mulD (dOp ixD (dVar 0) (dC (.int 1))) (dOp ixD (dVar 1) (dC (.int 1)))) dNil))))
def c_below : DSp := fnD 2 2
  (sRet (dOp ltA (dOp mulD (dOp ixD (dVar 0) (dC (.int 0))) (dOp ixD (dVar 1) (dC (.int 1)))) (dOp mulD (dOp ixD (dVar 1) (dC (.int 0))) (dOp ixD (dVar 0) (dC (.int 1))))))
def c_law_of : DSp := fnD 2 2
  (sRet (dOp ixD (dVar 1) (dCall pullD [] (dCons (dVar 0) (dCons (dB lenD (dCons (dVar 1) dNil)) dNil)))))
def t_law_like (self : DSp) : DS :=
  (sSeq (sIf (dTest (dIsi "dict" (dVar 1))) sNever sNext) (sSeq (sIf (dOr (dTest (dOp neD (dIsi "tuple" (dVar 1)) (dIsi "tuple" (dVar 0)))) (dTest (dOp neD (dIsi "list" (dVar 1)) (dIsi "list" (dVar 0))))) (sRet (dC (.bl false))) sNext) (sSeq (sIf (dNot (dTest (dIsi2 "tuple" "list" (dVar 1)))) (sRet (dAndV (dOp eqD (dIsi "bool" (dVar 0)) (dIsi "bool" (dVar 1))) (dOp eqD (dVar 0) (dVar 1)))) sNext) (sRet (dAndV (dOp eqD (dB lenD (dCons (dVar 0) dNil)) (dB lenD (dCons (dVar 1) dNil))) (dB allD (dCons (dLc (iRng1D (dCons (dB lenD (dCons (dVar 1) dNil)) dNil)) (gN 2) dYes (dCall self [] (dCons (dOp ixD (dVar 0) (dVar 2)) (dCons (dOp ixD (dVar 1) (dVar 2)) dNil))) [2]) dNil)))))))
def c_law_like : Nat → DSp
  | 0 => fun _ _ => False
  | n + 1 => fnD 3 2 (t_law_like (c_law_like n))
def c_law_low : DSp := fnD 3 2
  (sSeq (sSet 2 (dCall c_greatest [] (dCons (dVar 0) (dCons (dVar 1) dNil)))) (sSeq (sIf (dTest (dOp ltA (dVar 1) (dC (.int 0)))) (sSet 2 (dOp subD (dC (.int 0)) (dVar 2))) sNext) (sRet (dTup (dCons (dOp fdivD (dVar 0) (dVar 2)) (dCons (dOp fdivD (dVar 1) (dVar 2)) dNil))))))
def c_nearest : DSp := fnD 1 1
  (sRet (dOp fdivD (dOp addD (dOp mulD (dC (.int 2)) (dOp ixD (dVar 0) (dC (.int 0)))) (dOp ixD (dVar 0) (dC (.int 1)))) (dOp mulD (dC (.int 2)) (dOp ixD (dVar 0) (dC (.int 1))))))
def c_square_of : DSp := fnD 1 1
  (sRet (dTup (dCons (dCall c_nearest [] (dCons (dOp ixD (dVar 0) (dC (.int 0))) dNil)) (dCons (dCall c_nearest [] (dCons (dOp ixD (dVar 0) (dC (.int 1))) dNil)) dNil))))
def c_is_spot : DSp := fnD 1 1
  (sRet (dAndV (dChain leA leA (dUn negD (dC (.int 40))) (dOp ixD (dVar 0) (dC (.int 0))) (dC (.int 40))) (dChain leA leA (dUn negD (dC (.int 40))) (dOp ixD (dVar 0) (dC (.int 1))) (dC (.int 40)))))
def c_cross : DSp := fnD 3 3
  (sRet (dOp subD (dOp mulD (dOp subD (dOp ixD (dVar 1) (dC (.int 0))) (dOp ixD (dVar 0) (dC (.int 0)))) (dOp subD (dOp ixD (dVar 2) (dC (.int 1))) (dOp ixD (dVar 0) (dC (.int 1))))) (dOp mulD (dOp subD (dOp ixD (dVar 1) (dC (.int 1))) (dOp ixD (dVar 0) (dC (.int 1)))) (dOp subD (dOp ixD (dVar 2) (dC (.int 0))) (dOp ixD (dVar 0) (dC (.int 0)))))))
def c_common : DSp := fnD 4 2
  (sSeq (sSet 2 (dB max2A (dCons (dB min2A (dCons (dSl (dVar 0) dNo (dPart (dC (.int 2)))) (dCons (dSl (dVar 0) (dPart (dC (.int 2))) dNo) dNil))) (dCons (dB min2A (dCons (dSl (dVar 1) dNo (dPart (dC (.int 2)))) (dCons (dSl (dVar 1) (dPart (dC (.int 2))) dNo) dNil))) dNil)))) (sSeq (sSet 3 (dB min2A (dCons (dB max2A (dCons (dSl (dVar 0) dNo (dPart (dC (.int 2)))) (dCons (dSl (dVar 0) (dPart (dC (.int 2))) dNo) dNil))) (dCons (dB max2A (dCons (dSl (dVar 1) dNo (dPart (dC (.int 2)))) (dCons (dSl (dVar 1) (dPart (dC (.int 2))) dNo) dNil))) dNil)))) (sSeq (sIf (dTest (dOp gtA (dVar 2) (dVar 3))) (sRet (dC .non)) sNext) (sSeq (sIf (dTest (dOp eqD (dVar 2) (dVar 3))) (sRet (dTup (dCons (dC (.str "at")) (dCons (dTup (dCons (dTup (dCons (dOp ixD (dVar 2) (dC (.int 0))) (dCons (dC (.int 1)) dNil))) (dCons (dTup (dCons (dOp ixD (dVar 2) (dC (.int 1))) (dCons (dC (.int 1)) dNil))) dNil))) dNil)))) sNext) (sRet (dTup (dCons (dC (.str "along")) (dCons (dVar 2) (dCons (dVar 3) dNil)))))))))
def c_meet : DSp := fnD 12 2
  (sSeq (sPar 6 7 (dCons (dOp subD (dOp ixD (dVar 0) (dC (.int 2))) (dOp ixD (dVar 0) (dC (.int 0)))) (dCons (dOp subD (dOp ixD (dVar 0) (dC (.int 3))) (dOp ixD (dVar 0) (dC (.int 1)))) dNil))) (sSeq (sPar 8 9 (dCons (dOp subD (dOp ixD (dVar 1) (dC (.int 2))) (dOp ixD (dVar 1) (dC (.int 0)))) (dCons (dOp subD (dOp ixD (dVar 1) (dC (.int 3))) (dOp ixD (dVar 1) (dC (.int 1)))) dNil))) (sSeq (sPar 10 11 (dCons (dOp subD (dOp ixD (dVar 1) (dC (.int 0))) (dOp ixD (dVar 0) (dC (.int 0)))) (dCons (dOp subD (dOp ixD (dVar 1) (dC (.int 1))) (dOp ixD (dVar 0) (dC (.int 1)))) dNil))) (sSeq (sSet 2 (dOp subD (dOp mulD (dVar 6) (dVar 9)) (dOp mulD (dVar 7) (dVar 8)))) (sSeq (sIf (dTest (dOp eqD (dVar 2) (dC (.int 0)))) (sRet (dIf (dTest (dOp eqD (dOp subD (dOp mulD (dVar 10) (dVar 7)) (dOp mulD (dVar 11) (dVar 6))) (dC (.int 0)))) (dCall c_common [] (dCons (dVar 0) (dCons (dVar 1) dNil))) (dC .non))) sNext) (sSeq (sSet 3 (dCall c_lowest [] (dCons (dOp subD (dOp mulD (dVar 10) (dVar 9)) (dOp mulD (dVar 11) (dVar 8))) (dCons (dVar 2) dNil)))) (sSeq (sSet 4 (dCall c_lowest [] (dCons (dOp subD (dOp mulD (dVar 10) (dVar 7)) (dOp mulD (dVar 11) (dVar 6))) (dCons (dVar 2) dNil)))) (sSeq (sIf (dOr (dTest (dCall c_below [] (dCons (dVar 3) (dCons (dTup (dCons (dC (.int 0)) (dCons (dC (.int 1)) dNil))) dNil)))) (dOr (dTest (dCall c_below [] (dCons (dTup (dCons (dC (.int 1)) (dCons (dC (.int 1)) dNil))) (dCons (dVar 3) dNil)))) (dOr (dTest (dCall c_below [] (dCons (dVar 4) (dCons (dTup (dCons (dC (.int 0)) (dCons (dC (.int 1)) dNil))) dNil)))) (dTest (dCall c_below [] (dCons (dTup (dCons (dC (.int 1)) (dCons (dC (.int 1)) dNil))) (dCons (dVar 4) dNil))))))) (sRet (dC .non)) sNext) (sSeq (sSet 5 (dCall c_plus [] (dCons (dTup (dCons (dOp ixD (dVar 0) (dC (.int 0))) (dCons (dC (.int 1)) dNil))) (dCons (dCall c_lowest [] (dCons (dOp mulD (dOp ixD (dVar 3) (dC (.int 0))) (dVar 6)) (dCons (dOp ixD (dVar 3) (dC (.int 1))) dNil))) dNil)))) (sRet (dTup (dCons (dC (.str "at")) (dCons (dTup (dCons (dVar 5) (dCons (dCall c_plus [] (dCons (dTup (dCons (dOp ixD (dVar 0) (dC (.int 1))) (dCons (dC (.int 1)) dNil))) (dCons (dCall c_lowest [] (dCons (dOp mulD (dOp ixD (dVar 3) (dC (.int 0))) (dVar 7)) (dCons (dOp ixD (dVar 3) (dC (.int 1))) dNil))) dNil))) dNil))) dNil)))))))))))))
def c_law_meet : DSp := fnD 9 2
  (sSeq (sSet 2 (dLst (dCons (dSl (dVar 0) dNo (dPart (dC (.int 2)))) (dCons (dSl (dVar 0) (dPart (dC (.int 2))) dNo) (dCons (dSl (dVar 1) dNo (dPart (dC (.int 2)))) (dCons (dSl (dVar 1) (dPart (dC (.int 2))) dNo) dNil)))))) (sSeq (sSet 3 (dLst (dCons (dCall c_cross [] (dCons (dOp ixD (dVar 2) (dC (.int 0))) (dCons (dOp ixD (dVar 2) (dC (.int 1))) (dCons (dOp ixD (dVar 2) (dC (.int 2))) dNil)))) (dCons (dCall c_cross [] (dCons (dOp ixD (dVar 2) (dC (.int 0))) (dCons (dOp ixD (dVar 2) (dC (.int 1))) (dCons (dOp ixD (dVar 2) (dC (.int 3))) dNil)))) dNil)))) (sSeq (sSet 4 (dLst (dCons (dCall c_cross [] (dCons (dOp ixD (dVar 2) (dC (.int 2))) (dCons (dOp ixD (dVar 2) (dC (.int 3))) (dCons (dOp ixD (dVar 2) (dC (.int 0))) dNil)))) (dCons (dCall c_cross [] (dCons (dOp ixD (dVar 2) (dC (.int 2))) (dCons (dOp ixD (dVar 2) (dC (.int 3))) (dCons (dOp ixD (dVar 2) (dC (.int 1))) dNil)))) dNil)))) (sSeq (sIf (dTest (dOp eqD (dVar 3) (dLst (dCons (dC (.int 0)) (dCons (dC (.int 0)) dNil))))) (sSeq (sSet 7 (dB max2A (dCons (dB min2A (dCons (dOp ixD (dVar 2) (dC (.int 0))) (dCons (dOp ixD (dVar 2) (dC (.int 1))) dNil))) (dCons (dB min2A (dCons (dOp ixD (dVar 2) (dC (.int 2))) (dCons (dOp ixD (dVar 2) (dC (.int 3))) dNil))) dNil)))) (sSeq (sSet 8 (dB min2A (dCons (dB max2A (dCons (dOp ixD (dVar 2) (dC (.int 0))) (dCons (dOp ixD (dVar 2) (dC (.int 1))) dNil))) (dCons (dB max2A (dCons (dOp ixD (dVar 2) (dC (.int 2))) (dCons (dOp ixD (dVar 2) (dC (.int 3))) dNil))) dNil)))) (sSeq (sIf (dTest (dOp ltA (dVar 7) (dVar 8))) (sRet (dTup (dCons (dC (.str "along")) (dCons (dVar 7) (dCons (dVar 8) dNil))))) sNext) (sRet (dIf (dTest (dOp eqD (dVar 7) (dVar 8))) (dTup (dCons (dC (.str "at")) (dCons (dTup (dCons (dTup (dCons (dOp ixD (dVar 7) (dC (.int 0))) (dCons (dC (.int 1)) dNil))) (dCons (dTup (dCons (dOp ixD (dVar 7) (dC (.int 1))) (dCons (dC (.int 1)) dNil))) dNil))) dNil))) (dC .non)))))) sNext) (sSeq (sIf (dOr (dTest (dOp gtA (dOp mulD (dOp ixD (dVar 3) (dC (.int 0))) (dOp ixD (dVar 3) (dC (.int 1)))) (dC (.int 0)))) (dTest (dOp gtA (dOp mulD (dOp ixD (dVar 4) (dC (.int 0))) (dOp ixD (dVar 4) (dC (.int 1)))) (dC (.int 0))))) (sRet (dC .non)) sNext) (sSeq (sSet 5 (dOp subD (dOp ixD (dVar 3) (dC (.int 0))) (dOp ixD (dVar 3) (dC (.int 1))))) (sSeq (sSet 6 (dCall c_law_low [] (dCons (dOp addD (dOp mulD (dOp ixD (dVar 1) (dC (.int 0))) (dVar 5)) (dOp mulD (dOp subD (dOp ixD (dVar 1) (dC (.int 2))) (dOp ixD (dVar 1) (dC (.int 0)))) (dOp ixD (dVar 3) (dC (.int 0))))) (dCons (dVar 5) dNil)))) (sRet (dTup (dCons (dC (.str "at")) (dCons (dTup (dCons (dVar 6) (dCons (dCall c_law_low [] (dCons (dOp addD (dOp mulD (dOp ixD (dVar 1) (dC (.int 1))) (dVar 5)) (dOp mulD (dOp subD (dOp ixD (dVar 1) (dC (.int 3))) (dOp ixD (dVar 1) (dC (.int 1)))) (dOp ixD (dVar 3) (dC (.int 0))))) (dCons (dVar 5) dNil))) dNil))) dNil)))))))))))
def c_span : DSp := fnD 5 3
  (sSeq (sIf (dTest (dOp eqD (dVar 1) (dC (.int 0)))) (sRet (dIf (dTest (dOp eqD (dVar 2) (dVar 0))) (dTup (dCons (dTup (dCons (dC (.int 0)) (dCons (dC (.int 1)) dNil))) (dCons (dC (.bl true)) (dCons (dTup (dCons (dC (.int 1)) (dCons (dC (.int 1)) dNil))) (dCons (dC (.bl true)) dNil))))) (dC .non))) sNext) (sSeq (sSet 3 (dCall c_lowest [] (dCons (dOp subD (dOp mulD (dC (.int 2)) (dOp subD (dVar 2) (dVar 0))) (dC (.int 1))) (dCons (dOp mulD (dC (.int 2)) (dVar 1)) dNil)))) (sSeq (sSet 4 (dCall c_lowest [] (dCons (dOp addD (dOp mulD (dC (.int 2)) (dOp subD (dVar 2) (dVar 0))) (dC (.int 1))) (dCons (dOp mulD (dC (.int 2)) (dVar 1)) dNil)))) (sRet (dIf (dTest (dOp gtA (dVar 1) (dC (.int 0)))) (dTup (dCons (dVar 3) (dCons (dC (.bl true)) (dCons (dVar 4) (dCons (dC (.bl false)) dNil))))) (dTup (dCons (dVar 4) (dCons (dC (.bl false)) (dCons (dVar 3) (dCons (dC (.bl true)) dNil))))))))))
def c_law_clip : DSp := fnD 4 4
  (sSeq (sIf (dTest (dOp eqD (dVar 1) (dC (.int 0)))) (sRet (dIf (dTest (dChain leA leA (dVar 2) (dVar 0) (dVar 3))) (dLst (dCons (dTup (dCons (dC (.int 0)) (dCons (dC (.int 1)) dNil))) (dCons (dTup (dCons (dC (.int 1)) (dCons (dC (.int 1)) dNil))) dNil))) (dLst dNil))) sNext) (sSeq (sIf (dTest (dOp ltA (dVar 1) (dC (.int 0)))) (sRet (dLst (dCons (dTup (dCons (dOp subD (dVar 0) (dVar 3)) (dCons (dOp subD (dC (.int 0)) (dVar 1)) dNil))) (dCons (dTup (dCons (dOp subD (dVar 0) (dVar 2)) (dCons (dOp subD (dC (.int 0)) (dVar 1)) dNil))) dNil)))) sNext) (sRet (dLst (dCons (dTup (dCons (dOp subD (dVar 2) (dVar 0)) (dCons (dVar 1) dNil))) (dCons (dTup (dCons (dOp subD (dVar 3) (dVar 0)) (dCons (dVar 1) dNil))) dNil))))))
def c_law_later : DSp := fnD 2 2
  (sRet (dIf (dTest (dOp gtA (dOp mulD (dOp ixD (dVar 0) (dC (.int 0))) (dOp ixD (dVar 1) (dC (.int 1)))) (dOp mulD (dOp ixD (dVar 1) (dC (.int 0))) (dOp ixD (dVar 0) (dC (.int 1)))))) (dVar 0) (dVar 1)))
def c_law_sooner : DSp := fnD 2 2
  (sRet (dIf (dTest (dOp ltA (dOp mulD (dOp ixD (dVar 0) (dC (.int 0))) (dOp ixD (dVar 1) (dC (.int 1)))) (dOp mulD (dOp ixD (dVar 1) (dC (.int 0))) (dOp ixD (dVar 0) (dC (.int 1)))))) (dVar 0) (dVar 1)))
def c_law_inside : DSp := fnD 8 3
  (sSeq (sAsg (dVar 1) (gT 2 (gsCons (gN 6) (gsCons (gN 7) gsNil)))) (sSeq (sSet 3 (dOp addD (dOp mulD (dOp mulD (dC (.int 2)) (dOp ixD (dVar 0) (dC (.int 0)))) (dVar 7)) (dOp mulD (dOp mulD (dC (.int 2)) (dOp subD (dOp ixD (dVar 0) (dC (.int 2))) (dOp ixD (dVar 0) (dC (.int 0))))) (dVar 6)))) (sSeq (sSet 4 (dOp addD (dOp mulD (dOp mulD (dC (.int 2)) (dOp ixD (dVar 0) (dC (.int 1)))) (dVar 7)) (dOp mulD (dOp mulD (dC (.int 2)) (dOp subD (dOp ixD (dVar 0) (dC (.int 3))) (dOp ixD (dVar 0) (dC (.int 1))))) (dVar 6)))) (sSeq (sSet 5 (dChain leA ltA (dOp mulD (dOp subD (dOp mulD (dC (.int 2)) (dOp ixD (dVar 2) (dC (.int 0)))) (dC (.int 1))) (dVar 7)) (dVar 3) (dOp mulD (dOp addD (dOp mulD (dC (.int 2)) (dOp ixD (dVar 2) (dC (.int 0)))) (dC (.int 1))) (dVar 7)))) (sRet (dAndV (dVar 5) (dChain leA ltA (dOp mulD (dOp subD (dOp mulD (dC (.int 2)) (dOp ixD (dVar 2) (dC (.int 1)))) (dC (.int 1))) (dVar 7)) (dVar 4) (dOp mulD (dOp addD (dOp mulD (dC (.int 2)) (dOp ixD (dVar 2) (dC (.int 1)))) (dC (.int 1))) (dVar 7)))))))))
def c_law_goes : DSp := fnD 8 2
  (sSeq (sSet 2 (dCall c_law_clip [] (dCons (dOp mulD (dC (.int 2)) (dOp ixD (dVar 0) (dC (.int 0)))) (dCons (dOp mulD (dC (.int 2)) (dOp subD (dOp ixD (dVar 0) (dC (.int 2))) (dOp ixD (dVar 0) (dC (.int 0))))) (dCons (dOp subD (dOp mulD (dC (.int 2)) (dOp ixD (dVar 1) (dC (.int 0)))) (dC (.int 1))) (dCons (dOp addD (dOp mulD (dC (.int 2)) (dOp ixD (dVar 1) (dC (.int 0)))) (dC (.int 1))) dNil)))))) (sSeq (sSet 3 (dCall c_law_clip [] (dCons (dOp mulD (dC (.int 2)) (dOp ixD (dVar 0) (dC (.int 1)))) (dCons (dOp mulD (dC (.int 2)) (dOp subD (dOp ixD (dVar 0) (dC (.int 3))) (dOp ixD (dVar 0) (dC (.int 1))))) (dCons (dOp subD (dOp mulD (dC (.int 2)) (dOp ixD (dVar 1) (dC (.int 1)))) (dC (.int 1))) (dCons (dOp addD (dOp mulD (dC (.int 2)) (dOp ixD (dVar 1) (dC (.int 1)))) (dC (.int 1))) dNil)))))) (sSeq (sIf (dOr (dTest (dOp eqD (dVar 2) (dLst dNil))) (dTest (dOp eqD (dVar 3) (dLst dNil)))) (sRet (dC (.bl false))) sNext) (sSeq (sSet 4 (dCall c_law_later [] (dCons (dTup (dCons (dC (.int 0)) (dCons (dC (.int 1)) dNil))) (dCons (dCall c_law_later [] (dCons (dOp ixD (dVar 2) (dC (.int 0))) (dCons (dOp ixD (dVar 3) (dC (.int 0))) dNil))) dNil)))) (sSeq (sSet 5 (dCall c_law_sooner [] (dCons (dTup (dCons (dC (.int 1)) (dCons (dC (.int 1)) dNil))) (dCons (dCall c_law_sooner [] (dCons (dOp ixD (dVar 2) (dC (.int 1))) (dCons (dOp ixD (dVar 3) (dC (.int 1))) dNil))) dNil)))) (sSeq (sIf (dTest (dOp ltA (dOp mulD (dOp ixD (dVar 5) (dC (.int 0))) (dOp ixD (dVar 4) (dC (.int 1)))) (dOp mulD (dOp ixD (dVar 4) (dC (.int 0))) (dOp ixD (dVar 5) (dC (.int 1)))))) (sRet (dC (.bl false))) sNext) (sSeq (sSet 6 (dTup (dCons (dOp addD (dOp mulD (dOp ixD (dVar 4) (dC (.int 0))) (dOp ixD (dVar 5) (dC (.int 1)))) (dOp mulD (dOp ixD (dVar 5) (dC (.int 0))) (dOp ixD (dVar 4) (dC (.int 1))))) (dCons (dOp mulD (dOp mulD (dC (.int 2)) (dOp ixD (dVar 4) (dC (.int 1)))) (dOp ixD (dVar 5) (dC (.int 1)))) dNil)))) (sRet (dB anyD (dCons (dLc (iSeq (dLst (dCons (dVar 4) (dCons (dVar 5) (dCons (dVar 6) dNil))))) (gN 7) dYes (dCall c_law_inside [] (dCons (dVar 0) (dCons (dVar 7) (dCons (dVar 1) dNil)))) [7]) dNil))))))))))
def c_goes : DSp := fnD 14 2
  (sSeq (sAsg (dVar 0) (gT 4 (gsCons (gN 4) (gsCons (gN 5) (gsCons (gN 6) (gsCons (gN 7) gsNil)))))) (sSeq (sAsg (dTup (dCons (dTup (dCons (dC (.int 0)) (dCons (dC (.int 1)) dNil))) (dCons (dTup (dCons (dC (.int 1)) (dCons (dC (.int 1)) dNil))) dNil))) (gT 2 (gsCons (gN 8) (gsCons (gN 9) gsNil)))) (sSeq (sAsg2 2 3 (dC (.bl true))) (sSeq (sFor (iSeq (dTup (dCons (dTup (dCons (dVar 4) (dCons (dOp subD (dVar 6) (dVar 4)) (dCons (dOp ixD (dVar 1) (dC (.int 0))) dNil)))) (dCons (dTup (dCons (dVar 5) (dCons (dOp subD (dVar 7) (dVar 5)) (dCons (dOp ixD (dVar 1) (dC (.int 1))) dNil)))) dNil)))) (gT 3 (gsCons (gN 10) (gsCons (gN 11) (gsCons (gN 12) gsNil)))) (sSeq (sSet 13 (dCall c_span [] (dCons (dVar 10) (dCons (dVar 11) (dCons (dVar 12) dNil))))) (sSeq (sIf (dTest (dOp isNonD (dVar 13) (dC .non))) (sRet (dC (.bl false))) sNext) (sSeq (sIf (dOr (dTest (dCall c_below [] (dCons (dVar 8) (dCons (dOp ixD (dVar 13) (dC (.int 0))) dNil)))) (dAnd (dTest (dOp eqD (dVar 8) (dOp ixD (dVar 13) (dC (.int 0))))) (dNot (dTest (dOp ixD (dVar 13) (dC (.int 1))))))) (sPar 8 2 (dCons (dOp ixD (dVar 13) (dC (.int 0))) (dCons (dOp ixD (dVar 13) (dC (.int 1))) dNil))) sNext) (sIf (dOr (dTest (dCall c_below [] (dCons (dOp ixD (dVar 13) (dC (.int 2))) (dCons (dVar 9) dNil)))) (dAnd (dTest (dOp eqD (dVar 9) (dOp ixD (dVar 13) (dC (.int 2))))) (dNot (dTest (dOp ixD (dVar 13) (dC (.int 3))))))) (sPar 9 3 (dCons (dOp ixD (dVar 13) (dC (.int 2))) (dCons (dOp ixD (dVar 13) (dC (.int 3))) dNil))) sNext))))) (sRet (dOrV (dCall c_below [] (dCons (dVar 8) (dCons (dVar 9) dNil))) (dAndV (dOp eqD (dVar 8) (dVar 9)) (dAndV (dVar 2) (dVar 3)))))))))
def c_met_in : DSp := fnD 4 3
  (sSeq (sSet 3 (dCall c_meet [] (dCons (dVar 0) (dCons (dVar 1) dNil)))) (sRet (dAndV (dOp notNonD (dVar 3) (dC .non)) (dAndV (dOp eqD (dOp ixD (dVar 3) (dC (.int 0))) (dC (.str "at"))) (dOp eqD (dCall c_square_of [] (dCons (dOp ixD (dVar 3) (dC (.int 1))) dNil)) (dVar 2))))))
def c_goers : DSp := fnD 3 2
  (sRet (dB tupleD (dCons (dLc (iSeq (dB sortedC (dCons (dVar 0) dNil))) (gN 2) (dTest (dCall c_goes [] (dCons (dOp ixKD (dVar 0) (dVar 2)) (dCons (dVar 1) dNil)))) (dVar 2) [2]) dNil)))
def c_cold_right : DSp := fnD 6 3
  (sSeq (sIf (dTest (dOp neD (dVar 2) (dCall c_goers [] (dCons (dVar 0) (dCons (dVar 1) dNil))))) (sRet (dC (.bl false))) sNext) (sSeq (sIf (dTest (dB anyD (dCons (dLc (iSeq (dVar 2)) (gN 3) dYes (dOp inTD (dVar 1) (dTup (dCons (dSl (dOp ixKD (dVar 0) (dVar 3)) dNo (dPart (dC (.int 2)))) (dCons (dSl (dOp ixKD (dVar 0) (dVar 3)) (dPart (dC (.int 2))) dNo) dNil)))) [3]) dNil))) (sRet (dC (.bl false))) sNext) (sRet (dUn notD (dB anyD (dCons (dLc2 (iSeq (dVar 2)) (gN 4) dYes (iSeq (dVar 2)) (gN 5) (dTest (dOp ltA (dVar 4) (dVar 5))) (dCall c_met_in [] (dCons (dOp ixKD (dVar 0) (dVar 4)) (dCons (dOp ixKD (dVar 0) (dVar 5)) (dCons (dVar 1) dNil)))) [4, 5] [5]) dNil))))))
def c_judge_heat : DSp := fnD 3 3
  (sSeq (sIf (dTest (dOp eqD (dOp ixD (dVar 2) (dC (.int 0))) (dC (.str "cold")))) (sRet (dCall c_cold_right [] (dCons (dVar 0) (dCons (dVar 1) (dCons (dOp ixD (dVar 2) (dC (.int 1))) dNil))))) sNext) (sSeq (sIf (dTest (dOp notInKD (dOp ixD (dVar 2) (dC (.int 1))) (dVar 0))) (sRet (dC (.bl false))) sNext) (sSeq (sIf (dTest (dOp eqD (dOp ixD (dVar 2) (dC (.int 0))) (dC (.str "end")))) (sRet (dOp eqD (dVar 1) (dOp ixD (dTup (dCons (dSl (dOp ixKD (dVar 0) (dOp ixD (dVar 2) (dC (.int 1)))) dNo (dPart (dC (.int 2)))) (dCons (dSl (dOp ixKD (dVar 0) (dOp ixD (dVar 2) (dC (.int 1)))) (dPart (dC (.int 2))) dNo) dNil))) (dOp ixD (dVar 2) (dC (.int 2)))))) sNext) (sRet (dAndV (dOp inKD (dOp ixD (dVar 2) (dC (.int 2))) (dVar 0)) (dAndV (dOp ltA (dOp ixD (dVar 2) (dC (.int 1))) (dOp ixD (dVar 2) (dC (.int 2)))) (dCall c_met_in [] (dCons (dOp ixKD (dVar 0) (dOp ixD (dVar 2) (dC (.int 1)))) (dCons (dOp ixKD (dVar 0) (dOp ixD (dVar 2) (dC (.int 2)))) (dCons (dVar 1) dNil))))))))))
def c_law_causes : DSp := fnD 9 1
  (sSeq (sSet 1 (dB sortedC (dCons (dVar 0) dNil))) (sSeq (sOwn 2 dNil) (sSeq (sFor (iRng1D (dCons (dB lenD (dCons (dVar 1) dNil)) dNil)) (gN 3) (sSeq (sSet 4 (dOp ixKD (dVar 0) (dOp ixD (dVar 1) (dVar 3)))) (sSeq (sAppend 2 (dTup (dCons (dSl (dVar 4) dNo (dPart (dC (.int 2)))) (dCons (dTup (dCons (dC (.str "end")) (dCons (dOp ixD (dVar 1) (dVar 3)) (dCons (dC (.int 0)) dNil)))) dNil)))) (sSeq (sAppend 2 (dTup (dCons (dSl (dVar 4) (dPart (dC (.int 2))) dNo) (dCons (dTup (dCons (dC (.str "end")) (dCons (dOp ixD (dVar 1) (dVar 3)) (dCons (dC (.int 1)) dNil)))) dNil)))) (sFor (iSeq (dSl (dVar 1) dNo (dPart (dVar 3)))) (gN 5) (sSeq (sSet 6 (dCall c_law_meet [] (dCons (dOp ixKD (dVar 0) (dVar 5)) (dCons (dVar 4) dNil)))) (sIf (dAnd (dTest (dOp notNonD (dVar 6) (dC .non))) (dTest (dOp eqD (dOp ixD (dVar 6) (dC (.int 0))) (dC (.str "at"))))) (sSeq (sAsg (dOp ixD (dVar 6) (dC (.int 1))) (gT 2 (gsCons (gN 7) (gsCons (gN 8) gsNil)))) (sAppend 2 (dTup (dCons (dTup (dCons (dCall c_nearest [] (dCons (dVar 7) dNil)) (dCons (dCall c_nearest [] (dCons (dVar 8) dNil)) dNil))) (dCons (dTup (dCons (dC (.str "cross")) (dCons (dVar 5) (dCons (dOp ixD (dVar 1) (dVar 3)) dNil)))) dNil))))) sNext))))))) (sFrz 2 (sRet (dB sortedC (dCons (dVar 2) dNil)))))))
def c_law_hot : DSp := fnD 4 1
  (sSeq (sSetO 1 dD0) (sSeq (sFor (iSeq (dCall c_law_causes [] (dCons (dVar 0) dNil))) (gT 2 (gsCons (gN 2) (gsCons (gN 3) gsNil))) (sPutD 1 (dVar 2) (dC (.bl true)))) (sFrz 1 (sRet (dB sortedC (dCons (dVar 1) dNil))))))
def c_law_paper_right : DSp := fnD 5 3
  (sSeq (sIf (dTest (dOp eqD (dOp ixD (dVar 2) (dC (.int 0))) (dC (.str "cold")))) (sSeq (sSet 3 (dB tupleD (dCons (dLc (iSeq (dB sortedC (dCons (dVar 0) dNil))) (gN 4) (dTest (dCall c_law_goes [] (dCons (dOp ixKD (dVar 0) (dVar 4)) (dCons (dVar 1) dNil)))) (dVar 4) [4]) dNil))) (sRet (dAndV (dOp eqD (dOp ixD (dVar 2) (dC (.int 1))) (dVar 3)) (dOp notInD (dVar 1) (dCall c_law_hot [] (dCons (dVar 0) dNil)))))) sNext) (sRet (dOp inD (dTup (dCons (dVar 1) (dCons (dVar 2) dNil))) (dCall c_law_causes [] (dCons (dVar 0) dNil)))))
end DV

namespace DV
open PySem PySem.Spec PyProof.Rows L2

/-! ### list + list, the sum one's own -/
section
variable {X : Cx} {a b : Expr} {ta tb : DE} {pos : Pos}
end
end DV

namespace DV
open PySem PySem.Spec PyProof.Rows L2 PySem.SeqAt

/-! ### {e for ta in ia if .. for tb in ib if ..}: sets of tuples of numbers, two for parts -/
section
variable {P : Program} {w : World} {Z : Around} {R : Result → Shared → Prop} {s : Shared} {e ta ia tb ib : Expr} {ca cb : List Expr} {sc : Scope} {ps : Pos} {src S : Value} {en : Env}
abbrev tests (cs : List Expr) (en : Env) : Sem Bool := forIn cs true fun c r => if r = true then do let go ← isTrue c en (eval c en); pure (ForInStep.yield go) else pure (ForInStep.yield r)
end
section
variable {X : Cx} {elt tg iter tg1 iter1 : Expr} {ifs ifs1 : List Expr} {scope : Scope} {own : List (Str × Nat)} {vs1 : List Nat} {pos : Pos}
end
end DV

namespace DV
open PySem PySem.Spec PyProof.Rows L2 PySem.SeqAt

/-! ### sorted({e for a in x for b in y}) -/
/-- the set as it stands -/
structure SetAt (X : Cx) (F1 H1 : Hp) (S : Addr) (acc : List (List Int)) (F' H' : Hp) (L : List (Addr × List Int)) : Prop where
  x : Ext F1 H1 F' H'
  f : F' S = none
  h : H' S = some (SetTO X.prog X.w S L)
  rk : ∀ p ∈ L, Rp X.K F' (.ref p.1) (ikD p.2)
  ne : ∀ p ∈ L, p.2 ≠ []
  nd : (L.map (·.2)).Nodup
  mem : ∀ k, k ∈ L.map (·.2) ↔ k ∈ acc
  len : L.length ≤ acc.length
section
variable {X : Cx} {F1 H1 F' H' F2 H2 : Hp} {S : Addr} {acc : List (List Int)} {L : List (Addr × List Int)}
theorem SetAt.on (A : SetAt X F1 H1 S acc F' H' L) (y : Ext F' H' F2 H2) : SetAt X F1 H1 S acc F2 H2 L :=
  have k := y.keep S _ A.f A.h
  ⟨A.x.trans y, k.2, k.1, fun p hp => (A.rk p hp).mono y.mono, A.ne, A.nd, A.mem, A.len⟩
end
section
variable {X : Cx} {elt tg iter tg1 iter1 : Expr} {ifs ifs1 : List Expr} {scope : Scope} {own : List (Str × Nat)} {vs1 : List Nat} {pos pos' p : Pos} {it it1 : DI} {g g1 : TG} {g' g1' : DG} {tt tt1 : DT} {te : DE}
end
end DV

namespace DV
open PySem PySem.Spec PyProof.Rows L2

/-! ### xs.extend(ys), xs a list of one's own -/
section
variable {X : Cx} {e : Expr} {t : DE} {pos : Pos}
end
/-! ### d == e of dicts with the same keys in the same order (texts or numbers) -/
section
variable {X : Cx} {pins : List (Addr × Obj)} {σ : St} {H : Hp} {s : Shared}
end
end DV

namespace DV
open PySem PySem.Spec PyProof.Rows L2 LiI

/-! ### list(d.items()), d frozen -/
section
variable {X : Cx} {e : Expr} {te : TE} {t : DE} {p apos cpos pos : Pos}
end
end DV
namespace PySem.SeqAt
open AutoSeq1 (wpAny_loadPart')
open MeetsSeq MeetsSeq2 MeetsSeq3 SeqRoads2
section
variable {P : Program} {w : World} {A : Around} {s : Shared}
end
end PySem.SeqAt
namespace DV
open PySem PySem.Spec PyProof.Rows L2 PySem.SeqAt
/-! ### (d, n) != (e, m) where they are equal -/
/-! ### list(d): its keys -/
end DV

namespace DV
open PySem PySem.Spec PyProof.Rows L2 PySem.SeqAt

/-! ### sorted(xs, key=lambda ..), xs a list or a tuple -/
section
variable {P : Program} {w : World} {A : Around} {E : Value → Shared → Prop}
variable {s : Shared}
end
section
variable {X : Cx} {e body : Expr} {t te : DE} {params : Arguments} {scope : Scope} {T : List (Addr × Str)} {P c : Addr} {i j k : Nat} {a : Str} {p lpos kp pos : Pos}
end
end DV

namespace DV
open PySem PySem.Spec PyProof.Rows L2

/-! ### x, y = e, f, both values one's own -/
section
variable {X : Cx} {a b : Expr} {ta tb : DE} {pos : Pos}
end
end DV

/-! Sets of up to four thousand keys: the masks, the way of a search, tables. -/
namespace DV
open PySem PySem.Spec PyProof.Rows L2

/-- one round of the step i -> 5 i + 1, told by bits -/
def orbT (m : Nat) : Nat → Nat → Nat → Bool
  | 0, acc, x => acc == 2 ^ (m + 1) - 1 && x == 0
  | n + 1, acc, x => bif Nat.ble acc (2 ^ (m + 1)) && Nat.ble x m then orbT m n (acc ||| 2 ^ x) ((x * 5 + 1) % (m + 1)) else false
theorem orbT_ok {m : Nat} : ∀ (n a acc : Nat), orbT m n acc (lcgN m a) = true → (∀ j, acc.testBit j = true → ∃ b, b < a ∧ lcgN m b = j) → (∀ j, j ≤ m → ∃ b, b < a + n ∧ lcgN m b = j) ∧ lcgN m (a + n) = 0
  | 0, a, acc, h, g => by
    simp only [orbT, Bool.and_eq_true, beq_iff_eq] at h
    refine ⟨fun j hj => g j ?_, h.2⟩
    rw [h.1, Nat.testBit_two_pow_sub_one]
    exact decide_eq_true (by omega)
  | n + 1, a, acc, h, g => by
    have h' : (bif Nat.ble acc (2 ^ (m + 1)) && Nat.ble (lcgN m a) m then orbT m n (acc ||| 2 ^ lcgN m a) (lcgN m (a + 1)) else false) = true := h
    cases c : (Nat.ble acc (2 ^ (m + 1)) && Nat.ble (lcgN m a) m) with
    | false => rw [c] at h'; cases h'
    | true =>
      rw [c] at h'
      have r := orbT_ok n (a + 1) (acc ||| 2 ^ lcgN m a) h' fun j hj => by
        rw [Nat.testBit_or, Bool.or_eq_true] at hj
        rcases hj with hj | hj
        · obtain ⟨b, h1, h2⟩ := g j hj
          exact ⟨b, by omega, h2⟩
        · rw [Nat.testBit_two_pow, decide_eq_true_eq] at hj
          exact ⟨a, by omega, hj⟩
      rw [show a + (n + 1) = a + 1 + n by omega]
      exact r
/-- the masks of the tables that come -/
def BigM (m : Nat) : Prop := m ∈ [7, 31, 127, 511, 2047, 8191]
theorem bigM_cases {m : Nat} (h : BigM m) : m = 7 ∨ m = 31 ∨ m = 127 ∨ m = 511 ∨ m = 2047 ∨ m = 8191 := by
  unfold BigM at h
  simpa using h
theorem orb_big {m : Nat} (h : BigM m) : orbT m (m + 1) 0 0 = true := by
  rcases bigM_cases h with rfl | rfl | rfl | rfl | rfl | rfl <;> decide +kernel
theorem round_big {m : Nat} (h : BigM m) : (∀ j, j ≤ m → ∃ b, b ≤ m ∧ lcgN m b = j) ∧ lcgN m (m + 1) = 0 := by
  have := orbT_ok (m := m) (m + 1) 0 0 (orb_big h) (fun j hj => by simp at hj)
  rw [Nat.zero_add] at this
  refine ⟨fun j hj => ?_, this.2⟩
  obtain ⟨b, h1, h2⟩ := this.1 j hj
  exact ⟨b, by omega, h2⟩
/-- from any slot the steps come to any other one -/
theorem step_to {m : Nat} (h : BigM m) {i j : Nat} (hi : i ≤ m) (hj : j ≤ m) : ∃ k, k ≤ m ∧ lcgI m i k = j := by
  obtain ⟨all, z⟩ := round_big h
  have per : ∀ k, lcgN m (m + 1 + k) = lcgN m k := fun k => by
    rw [← lcgN_add, z]
    have := lcgN_add m 0 k
    rwa [Nat.zero_add] at this
  obtain ⟨a, a1, rfl⟩ := all i hi
  obtain ⟨b, b1, rfl⟩ := all j hj
  by_cases c : a ≤ b
  · exact ⟨b - a, by omega, by rw [lcgN_add]; congr 1; omega⟩
  · refine ⟨m + 1 + b - a, by omega, ?_⟩
    rw [lcgN_add, show a + (m + 1 + b - a) = m + 1 + b by omega]
    exact per b
/-- the n-th run of the search for h begins at j, for some n -/
theorem run_to {m : Nat} (hm : BigM m) (h : Int) {j : Nat} (hj : j ≤ m) : ∃ n, n ≤ m + 12 ∧ runI m (SetTable.bits h) n = j := by
  obtain ⟨k, k1, k2⟩ := step_to hm (runI_le m (SetTable.bits h) 12) hj
  refine ⟨12 + k, by omega, ?_⟩
  rw [runI_tail (bits_lt h)]
  exact k2
theorem way_in {m : Nat} {h : Int} {k : Nat} : way m h k ≤ m := by
  have b0 : SetTable.bits h % (m + 1) ≤ m := by
    have := Nat.mod_lt (SetTable.bits h) (show 0 < m + 1 by omega)
    omega
  have b1 := runEnd_bd b0
  have start : (runAt m (SetTable.bits h % (m + 1)) (SetTable.bits h)).j + (runAt m (SetTable.bits h % (m + 1)) (SetTable.bits h)).more ≤ m := by
    show SetTable.bits h % (m + 1) + (SetTable.runEnd m (SetTable.bits h % (m + 1)) - SetTable.bits h % (m + 1)) ≤ m
    omega
  have e := nth_in k _ start
  exact Nat.le_trans (Nat.le_add_right _ _) e
/-! ### tables -/
/-- the members' hashes hs stand in the table, each found again -/
structure Tbl (t : SetTable) (hs : List Int) : Prop where
  up : Ris t.place.toList
  nodm : t.dummies = #[]
  many : t.place.size = hs.length
  big : BigM t.mask
  within : ∀ x ∈ t.place.toList, x ≤ t.mask
  found : ∀ (i : Nat) (h : Int) (j : Nat), hs[i]? = some h → t.place.toList[i]? = some j → ∃ k, way t.mask h k = j ∧ ∀ l, l < k → way t.mask h l ∈ t.place.toList
theorem Tbl.len {t : SetTable} {hs : List Int} (T : Tbl t hs) : t.place.toList.length = hs.length := by rw [Array.length_toList]; exact T.many
theorem Tbl.ahead {t : SetTable} {hs : List Int} (T : Tbl t hs) {h : Int} {K i j : Nat} (hK : way t.mask h K ∉ t.place.toList) (hi : hs[i]? = some h) (hj : t.place.toList[i]? = some j) : ∃ k, k < K ∧ way t.mask h k = j := by
  obtain ⟨k, e, b⟩ := T.found i h j hi hj
  refine ⟨k, Nat.lt_of_not_le fun le => ?_, e⟩
  rcases Nat.lt_or_eq_of_le le with lt | eq
  · exact hK (b K lt)
  · subst eq
    rw [e] at hK
    exact hK (List.mem_of_getElem? hj)
/-- one more, put at the first free slot of its way -/
theorem Tbl.more {t : SetTable} {hs : List Int} (T : Tbl t hs) {h : Int} {K : Nat} (hK : way t.mask h K ∉ t.place.toList) (hb : ∀ k, k < K → way t.mask h k ∈ t.place.toList) {p : Nat} (hp : p = SetTable.below t.place (way t.mask h K)) :
    (t.put (way t.mask h K)).2 = p ∧ p ≤ hs.length ∧ Tbl (t.put (way t.mask h K)).1 (hs.take p ++ h :: hs.drop p) ∧ (t.put (way t.mask h K)).1.mask = t.mask ∧ (t.put (way t.mask h K)).1.led = t.led ∧ (t.put (way t.mask h K)).1.plain = t.plain ∧
      (t.put (way t.mask h K)).1.fill = hs.length + 1 := by
  have wm : way t.mask h K ≤ t.mask := way_in
  have cut := (below_cut T.up (way t.mask h K)).1
  have pp := put_place t (way t.mask h K)
  have pd := put_dm T.nodm (way t.mask h K)
  have not_at : t.place[SetTable.below t.place (way t.mask h K)]? ≠ some (way t.mask h K) := fun e => by
    rw [← Array.getElem?_toList] at e
    exact hK (List.mem_of_getElem? e)
  have up2 := ris_insert T.up not_at
  have l1 := T.len
  rw [← hp] at cut pp up2
  have c1 : p ≤ t.place.toList.length := by rw [Array.length_toList]; exact cut
  have c2 : p ≤ hs.length := by omega
  have mem2 : ∀ {x : Nat}, x ∈ (t.put (way t.mask h K)).1.place.toList ↔ x = way t.mask h K ∨ x ∈ t.place.toList := fun {x} => by rw [pp]; exact mem_ins
  have size2 : (t.put (way t.mask h K)).1.place.size = hs.length + 1 := by
    rw [← Array.length_toList, pp, len_ins _ c1, l1]
  refine ⟨hp.symm, c2, ⟨by rw [show (t.put (way t.mask h K)).1.place = SetTable.insertAt t.place p (way t.mask h K) by rw [hp]; rfl]; exact up2, pd, by rw [size2, len_ins _ c2], T.big, fun x hx => ?_, fun i g j e1 e2 => ?_⟩, rfl, rfl, rfl, ?_⟩
  · rcases mem2.mp hx with rfl | hx
    · exact wm
    · exact T.within x hx
  · rw [tins_get hs c2] at e1
    rw [pp, tins_get _ c1] at e2
    have widen : ∀ i, hs[i]? = some g → t.place.toList[i]? = some j → ∃ k, way t.mask g k = j ∧ ∀ l, l < k → way t.mask g l ∈ (t.put (way t.mask h K)).1.place.toList := fun i a b => by
      obtain ⟨k, k1, k2⟩ := T.found i g j a b
      exact ⟨k, k1, fun l hl => mem2.mpr (.inr (k2 l hl))⟩
    show ∃ k, way t.mask g k = j ∧ ∀ l, l < k → way t.mask g l ∈ (t.put (way t.mask h K)).1.place.toList
    by_cases a : i < p
    · rw [if_pos a] at e1 e2
      exact widen i e1 e2
    · rw [if_neg a] at e1 e2
      by_cases b : i = p
      · rw [if_pos b] at e1 e2
        cases e1
        cases e2
        exact ⟨K, rfl, fun l hl => mem2.mpr (.inr (hb l hl))⟩
      · rw [if_neg b] at e1 e2
        exact widen (i - 1) e1 e2
  · show (t.put (way t.mask h K)).1.place.size + (t.put (way t.mask h K)).1.dummies.size = hs.length + 1
    rw [size2, pd]
    rfl
/-! ### a table laid anew -/
theorem free_at {m : Nat} (hm : BigM m) (ow : Array (Option Nat)) (h : Int) {j : Nat} (hj : j ≤ m) (hf : oAt ow j = none) :
    ∃ K, SetTable.layClean.free m ow (SetTable.turns m) (SetTable.bits h % (m + 1)) (SetTable.bits h) = some (way m h K) ∧ oAt ow (way m h K) = none ∧ ∀ k, k < K → oAt ow (way m h k) ≠ none := by
  obtain ⟨n, n1, n2⟩ := run_to hm h hj
  have at_n : way m h (off m (SetTable.bits h % (m + 1)) (SetTable.bits h) n) = j := by
    have e := congrArg SetTable.Probe.j (nth_off m n (SetTable.bits h % (m + 1)) (SetTable.bits h))
    rw [itL_run] at e
    exact e.trans n2
  obtain ⟨K, a, b, c⟩ := st_least (p := fun k => oAt ow (way m h k) = none) _ (show oAt ow (way m h (off m (SetTable.bits h % (m + 1)) (SetTable.bits h) n)) = none by rw [at_n]; exact hf)
  refine ⟨K, free_spec m ow _ n _ _ K (by unfold SetTable.turns; omega) a (fun k hk => ?_) ?_, b, c⟩
  · have := c k hk
    cases z : oAt ow (nth m (runAt m (SetTable.bits h % (m + 1)) (SetTable.bits h)) k).j with
    | none => exact absurd z this
    | some _ => rfl
  · exact congrArg Option.isNone b
/-- who owns which slot, the first ones being laid -/
structure Lain (m : Nat) (done : List Int) (ow : Array (Option Nat)) : Prop where
  size : ow.size = m + 1
  slot : ∀ j k, j ≤ m → oAt ow j = some k → ∃ h K, done[k]? = some h ∧ way m h K = j ∧ ∀ l, l < K → oAt ow (way m h l) ≠ none
  each : ∀ k, k < done.length → ∃ j, j ≤ m ∧ oAt ow j = some k
  used : ∃ us : List Nat, us.length = done.length ∧ ∀ j, j ≤ m → oAt ow j ≠ none → j ∈ us
theorem Lain.start (m : Nat) : Lain m [] (Array.replicate (m + 1) none) := by
  refine ⟨Array.size_replicate, fun j k hj e => ?_, fun k hk => absurd hk (by simp), [], rfl, fun j hj e => absurd (oAt_init hj) e⟩
  rw [oAt_init hj] at e
  cases e
theorem Lain.next {m : Nat} (hm : BigM m) {done : List Int} {ow : Array (Option Nat)} (L : Lain m done ow) (hl : done.length ≤ m) (h : Int) :
    ∃ j, SetTable.layClean.free m ow (SetTable.turns m) (SetTable.bits h % (m + 1)) (SetTable.bits h) = some j ∧ Lain m (done ++ [h]) (ow.setIfInBounds j (some done.length)) := by
  obtain ⟨us, u1, u2⟩ := L.used
  obtain ⟨j, j1, j2⟩ := st_missing us (m + 1) (by omega)
  have jf : oAt ow j = none := by
    cases z : oAt ow j with
    | none => rfl
    | some k => exact absurd (u2 j (by omega) (by rw [z]; simp)) j2
  obtain ⟨K, f1, f2, f3⟩ := free_at hm ow h (by omega) jf
  have win : way m h K ≤ m := way_in
  have inb : way m h K < ow.size := by rw [L.size]; omega
  have same := oAt_set_self (some done.length) inb
  have keep : ∀ {i : Nat}, oAt ow i ≠ none → oAt (ow.setIfInBounds (way m h K) (some done.length)) i ≠ none := fun {i} hi => by
    by_cases c : i = way m h K
    · rw [c, same]; simp
    · rw [oAt_set_ne _ c]; exact hi
  refine ⟨_, f1, by rw [Array.size_setIfInBounds]; exact L.size, fun i k hi e => ?_, fun k hk => ?_, way m h K :: us, by simp [u1], fun i hi e => ?_⟩
  · by_cases c : i = way m h K
    · subst c
      rw [same] at e
      cases e
      exact ⟨h, K, by rw [List.getElem?_append_right (Nat.le_refl _), Nat.sub_self]; rfl, rfl, fun l hl => keep (f3 l hl)⟩
    · rw [oAt_set_ne _ c] at e
      obtain ⟨g, K', a, b, d⟩ := L.slot i k hi e
      refine ⟨g, K', ?_, b, fun l hl => keep (d l hl)⟩
      rw [List.getElem?_append_left (List.getElem?_eq_some_iff.mp a).1]
      exact a
  · rw [List.length_append, List.length_singleton] at hk
    by_cases c : k < done.length
    · obtain ⟨i, i1, i2⟩ := L.each k c
      refine ⟨i, i1, ?_⟩
      rw [oAt_set_ne _ fun e => by rw [e, f2] at i2; cases i2]
      exact i2
    · have : k = done.length := by omega
      subst this
      exact ⟨_, win, same⟩
  · by_cases c : i = way m h K
    · rw [c]; exact List.mem_cons_self
    · rw [oAt_set_ne _ c] at e
      exact List.mem_cons_of_mem _ (u2 i hi e)
theorem lain_fold {m : Nat} (hm : BigM m) : ∀ (rest done : List Int) (ow : Array (Option Nat)), Lain m done ow → done.length + rest.length ≤ m →
    ∃ ow', rest.foldl (stepF m) (some (ow, done.length)) = some (ow', (done ++ rest).length) ∧ Lain m (done ++ rest) ow'
  | [], done, ow, L, _ => ⟨ow, by simp, by simpa using L⟩
  | h :: rest, done, ow, L, hl => by
    have hl2 : done.length + (rest.length + 1) ≤ m := hl
    obtain ⟨j, e, L2⟩ := L.next hm (by omega) h
    obtain ⟨ow', f, L3⟩ := lain_fold hm rest (done ++ [h]) _ L2 (by simp; omega)
    rw [List.append_assoc, List.singleton_append] at f L3
    refine ⟨ow', ?_, L3⟩
    rw [List.foldl_cons, stepF_some e]
    rw [List.length_append, List.length_singleton] at f
    exact f
theorem lain_all {m : Nat} (hm : BigM m) {hs : Array Int} (hn : hs.size ≤ m) : ∃ ow, SetTable.layClean m hs = some ow ∧ Lain m hs.toList ow := by
  obtain ⟨ow, f, L⟩ := lain_fold hm hs.toList [] _ (Lain.start m) (by simpa using hn)
  rw [List.nil_append] at f L
  refine ⟨ow, ?_, L⟩
  rw [layClean_eq]
  exact congrArg (Option.map Prod.fst) f
theorem Tbl.anew (t : SetTable) {hs : Array Int} {wanted M : Nat} (hw : SetTable.sizeAbove wanted - 1 = M) (hM : BigM M) (hn : hs.size ≤ M) :
    ∃ t' order, t.relaid hs wanted = some (t', order) ∧ order.toList.Perm (List.range hs.size) ∧ Tbl t' (order.toList.map fun i => hs.getD i 0) ∧ t'.mask = M ∧ t'.led = t.led ∧ t'.plain = t.plain := by
  obtain ⟨ow, e, L⟩ := lain_all hM hn
  have in_live : ∀ {j k : Nat}, (j, k) ∈ liveOf M ow ↔ j ≤ M ∧ oAt ow j = some k := fun {j k} => mem_live L.size
  have rise := ris_live (fun j => ow.getD j none) (List.range (M + 1)) (by
    unfold Ris
    first | exact List.pairwise_lt_range | exact List.pairwise_lt_range _)
  have rs : Ris ((liveOf M ow).map (·.1)) := rise.1
  have nd1 : ((liveOf M ow).map (·.1)).Nodup := rs.imp fun h => Nat.ne_of_lt h
  have count : (liveOf M ow).length = hs.size := by
    obtain ⟨us, u1, u2⟩ := L.used
    have le := nat_nodup_len _ us nd1 fun x hx => by
      obtain ⟨⟨y, k⟩, hq, rfl⟩ := List.mem_map.mp hx
      obtain ⟨a, b⟩ := in_live.mp hq
      exact u2 y a (by rw [b]; simp)
    have ge := nat_nodup_len (List.range hs.size) ((liveOf M ow).map (·.2)) List.nodup_range fun k hk => by
      obtain ⟨j, a, b⟩ := L.each k (by rw [Array.length_toList]; exact List.mem_range.mp hk)
      exact List.mem_map.mpr ⟨_, in_live.mpr ⟨a, b⟩, rfl⟩
    rw [List.length_map, u1] at le
    have sz : hs.toList.length = hs.size := rfl
    rw [List.length_map, List.length_range] at ge
    omega
  refine ⟨tabOf t M ow, ((liveOf M ow).map (·.2)).toArray, ?_, ?_, ⟨rs, rfl, ?_, hM, fun x hx => ?_, fun i h j h1 h2 => ?_⟩, rfl, rfl, rfl⟩
  · rw [relaid_eq, hw, e]
    rfl
  · exact perm_range hs.size _ (by show ((liveOf M ow).map (·.2)).length = _; rw [List.length_map, count]) fun k hk => by
      obtain ⟨j, a, b⟩ := L.each k (by rw [Array.length_toList]; exact hk)
      exact List.mem_map.mpr ⟨(j, k), in_live.mpr ⟨a, b⟩, rfl⟩
  · show ((liveOf M ow).map (·.1)).length = _
    simp
  · have : x ∈ List.range (M + 1) := rise.2 x hx
    rw [List.mem_range] at this
    show x ≤ M
    omega
  · replace h1 : (((liveOf M ow).map (·.2)).map fun i => hs.getD i 0)[i]? = some h := h1
    replace h2 : ((liveOf M ow).map (·.1))[i]? = some j := h2
    simp only [List.getElem?_map] at h1 h2
    cases q : (liveOf M ow)[i]? with
    | none => rw [q] at h2; cases h2
    | some z =>
      obtain ⟨y, k⟩ := z
      rw [q] at h1 h2
      cases h2
      cases h1
      obtain ⟨a, b⟩ := in_live.mp (List.mem_of_getElem? q)
      obtain ⟨g, K, g1, g2, g3⟩ := L.slot y k a b
      have eg : hs.getD k 0 = g := by rw [Array.getD_eq_getD_getElem?, ← Array.getElem?_toList, g1]; rfl
      show ∃ c, way M (hs.getD k 0) c = y ∧ ∀ l, l < c → way M (hs.getD k 0) l ∈ (liveOf M ow).map (·.1)
      rw [eg]
      refine ⟨K, g2, fun l hl => ?_⟩
      cases z : oAt ow (way M g l) with
      | none => exact absurd z (g3 l hl)
      | some k2 => exact List.mem_map.mpr ⟨(_, k2), in_live.mpr ⟨way_in, z⟩, rfl⟩
end DV

/-! Sets of nested tuples of numbers, up to four thousand. -/
namespace DV
open PySem PySem.Spec PyProof.Rows L2

mutual
def noTx : NestedKey → Bool
  | .text _ => false
  | .tup ks => noTxs ks
  | _ => true
def noTxs : List NestedKey → Bool
  | [] => true
  | k :: ks => noTx k && noTxs ks
end
/-- at a stands the key k -/
structure KeyAt (h : Heap) (k : NestedKey) (a : Addr) : Prop where
  is : NestedIs h k (.ref a)
  deep : k.depth ≤ 8
  plain : noTx k = true
section
variable {P : Program} {w : World} {A : Around} {E : Value → Shared → Prop} {s : Shared}
theorem KeyAt.but {h h' : Heap} {k : NestedKey} {a b : Addr} {o : Obj} {es : Array (Int × Value)} {ep : Nat} {t : SetTable} (hk : KeyAt h k b) (ho : h.get? a = some o) (hd : o.data = .set es ep t) (sb : Heap.SameBut a h h') : KeyAt h' k b := by
  refine ⟨NestedIs.at (fun c oc vs n e ed => ?_) _ _ hk.is, hk.deep, hk.plain⟩
  refine (sb.2 c fun z => ?_).trans e
  subst z
  rw [ho] at e
  cases e
  rw [hd] at ed
  cases ed
end

/-! ### the set -/
abbrev nh (w : World) (k : NestedKey) : Int := NestedKey.hash w k
def rowsN (w : World) (L : List (Addr × NestedKey)) : List (Int × Value) := L.map fun p => (nh w p.2, Value.ref p.1)
structure SetNs (w : World) (h : Heap) (a : Addr) (L : List (Addr × NestedKey)) (es : Array (Int × Value)) (ep : Nat) (t : SetTable) : Prop where
  ob : ∃ o, h.get? a = some o ∧ o.ExactSet ∧ o.data = .set es ep t
  rows : es.toList = rowsN w L
  tab : Tbl t (L.map fun p => nh w p.2)
  nd : (L.map (·.2)).Nodup
  key : ∀ p ∈ L, KeyAt h p.2 p.1
  plain : t.plain = true
  led : w.params.followText "set-order" = true ∨ t.led = true
  room : L.length * 5 < t.mask * 3
  few : L.length ≤ 4000
section
variable {P : Program} {w : World} {A : Around} {E : Value → Shared → Prop} {s : Shared} {a : Addr} {L : List (Addr × NestedKey)} {es : Array (Int × Value)} {ep : Nat} {t : SetTable}
/-- the way's c-th stand -/
abbrev stand (m : Nat) (g : Int) (c : Nat) : SetTable.Probe := nth m (runAt m (SetTable.bits g % (m + 1)) (SetTable.bits g)) c
end
end DV

/-! Adding to such a set. -/
namespace DV
open PySem PySem.Spec PyProof.Rows L2

section
variable {P : Program} {w : World} {A : Around} {E : Value → Shared → Prop} {s : Shared} {a : Addr} {L : List (Addr × NestedKey)} {es : Array (Int × Value)} {ep : Nat} {t : SetTable}
end
/-! ### over the abstract heap -/
/-- the set at a, but for its keys' objects -/
def SetN0 (w : World) (h : Heap) (a : Addr) (L : List (Addr × NestedKey)) : Prop := ∃ (es : Array (Int × Value)) (ep : Nat) (t : SetTable), (∃ o, h.get? a = some o ∧ o.ExactSet ∧ o.data = .set es ep t) ∧ es.toList = rowsN w L ∧ Tbl t (L.map fun p => nh w p.2) ∧
  (L.map (·.2)).Nodup ∧ t.plain = true ∧ (w.params.followText "set-order" = true ∨ t.led = true) ∧ L.length * 5 < t.mask * 3 ∧ L.length ≤ 4000
def SetNO (w : World) (a : Addr) (L : List (Addr × NestedKey)) : HO := .ext fun h => SetN0 w h a L
theorem SetN0.with {w : World} {h : Heap} {a : Addr} {L : List (Addr × NestedKey)} (R : SetN0 w h a L) (hk : ∀ p ∈ L, KeyAt h p.2 p.1) : ∃ es ep t, SetNs w h a L es ep t := by
  obtain ⟨es, ep, t, h1, h2, h3, h4, h5, h6, h7, h8⟩ := R
  exact ⟨es, ep, t, h1, h2, h3, h4, hk, h5, h6, h7, h8⟩
section
variable {X : Cx} {pins : List (Addr × Obj)} {σ : L2.St} {H : Hp} {s : Shared}
end
end DV

namespace DV
open PySem PySem.Spec PyProof.Rows L2 PySem.SeqAt

/-! ### {e for .. in ..}: sets of nested tuples of numbers, up to four thousand -/
section
variable {X : Cx} {elt tg iter : Expr} {ifs : List Expr} {scope : Scope} {own : List (Str × Nat)} {pos : Pos}
end
section
variable {X : Cx} {elt tg iter tg1 iter1 : Expr} {ifs ifs1 : List Expr} {scope : Scope} {own : List (Str × Nat)} {vs1 : List Nat} {pos : Pos}
end
end DV

namespace DV
open PySem PySem.Spec PyProof.Rows L2 PySem.SeqAt

/-! ### sorted of such a set -/
abbrev nkp (p : Addr × D) : Addr × NestedKey := (p.1, p.2.nk)
section
variable {X : Cx}
end
/-! ### as data -/
theorem SrtD.sub {a b : List D} (h : SrtD a) (s : ∀ x ∈ b, x ∈ a) : SrtD b := by
  have up : ∀ k ∈ b.map D.nt, k ∈ a.map D.nt := fun k hk => by
    obtain ⟨d, hd, rfl⟩ := List.mem_map.mp hk
    exact List.mem_map.mpr ⟨d, s d hd, rfl⟩
  obtain ⟨n, hn⟩ := h.ok.kind
  exact ⟨⟨⟨n, fun k hk => hn k (up k hk)⟩, fun k hk j hj => h.ok.ok k (up k hk) j (up j hj), fun k hk => h.ok.deep k (up k hk)⟩, fun d hd => h.all d (s d hd)⟩
/-- the set as it stands -/
structure SetAtN (X : Cx) (F1 H1 : Hp) (S : Addr) (acc : List D) (F' H' : Hp) (L : List (Addr × D)) : Prop where
  x : Ext F1 H1 F' H'
  f : F' S = none
  h : H' S = some (SetNO X.w S (L.map nkp))
  rk : ∀ p ∈ L, Rp X.K F' (.ref p.1) p.2 ∧ p.2.kok = true
  nd : (L.map (·.2)).Nodup
  mem : ∀ k, k ∈ L.map (·.2) ↔ k ∈ acc
  len : L.length ≤ acc.length
section
variable {X : Cx} {F1 H1 F' H' F2 H2 : Hp} {S : Addr} {acc : List D} {L : List (Addr × D)}
theorem SetAtN.start (hx : Ext F1 (upd H1 S (SetNO X.w S [])) F1 (upd H1 S (SetNO X.w S []))) (x : Ext F1 H1 F1 (upd H1 S (SetNO X.w S []))) (f : F1 S = none) : SetAtN X F1 H1 S [] F1 (upd H1 S (SetNO X.w S [])) [] :=
  ⟨x, f, upd_same, (fun _ z => nomatch z), List.nodup_nil, (fun _ => Iff.rfl), Nat.le_refl _⟩
theorem SetAtN.on (A : SetAtN X F1 H1 S acc F' H' L) (y : Ext F' H' F2 H2) : SetAtN X F1 H1 S acc F2 H2 L :=
  have k := y.keep S _ A.f A.h
  ⟨A.x.trans y, k.2, k.1, fun p hp => ⟨(A.rk p hp).1.mono y.mono, (A.rk p hp).2⟩, A.nd, A.mem, A.len⟩
theorem SetAtN.keys (A : SetAtN X F1 H1 S acc F' H' L) : ∀ p ∈ L.map nkp, ∃ e, Rp X.K F' (.ref p.1) e ∧ e.kok = true ∧ p.2 = e.nk := fun p hp => by
  obtain ⟨z, hz, rfl⟩ := List.mem_map.mp hp
  exact ⟨z.2, (A.rk z hz).1, (A.rk z hz).2, rfl⟩
end
section
variable {X : Cx} {elt tg iter : Expr} {ifs : List Expr} {scope : Scope} {own : List (Str × Nat)} {pos pos' p : Pos} {it : DI} {g : TG} {g' : DG} {tt : DT} {te : DE}
end
section
variable {X : Cx} {elt tg iter tg1 iter1 : Expr} {ifs ifs1 : List Expr} {scope : Scope} {own : List (Str × Nat)} {vs1 : List Nat} {pos pos' p : Pos} {it it1 : DI} {g g1 : TG} {g' g1' : DG} {tt tt1 : DT} {te : DE}
end
end DV

namespace DV
open PySem PySem.Spec PyProof.Rows L2

/-! ### min, max of a pair of any alike data -/
section
variable {prog : Program} {w : World} {A : Around} {E : Value → Shared → Prop} {s : Shared}
end
end DV

namespace DV
open PySem PySem.Spec PyProof.Rows L2
/-! the readings of the defs, by canon.json -/
end DV

namespace DV
open PySem PySem.Spec PyProof.Rows L2

/-! ### expressions that may raise; what they tell put into an own list, also in an except suite -/
abbrev DEX := List Slot → (D → Prop) → DX → Prop
def lfEX (K : PySem.W.Frag) (W : WX) (t : DEX) : TE := fun σ H Q => ∃ F0 H0 G F ρ Q0 W0, Sta K F0 H0 G F σ H ρ ∧ t ρ Q0 W0 ∧ (∀ v H' F' d, Sta K F0 H0 G F' σ H' ρ → Rp K F' v d → Q0 d → Q v H') ∧ ∀ H' F' cls d n fs, Sta K F0 H0 G F' σ H' ρ → XAt K F' H' cls d n fs → W0 n fs → W cls d σ H'
abbrev PDEX (X : Cx) (W : WX) (e : Expr) (t : DEX) : Prop := PE X e (lfEX X.K W t)
section
variable {X : Cx} {W : WX} {e a b c o : Expr} {es : List Expr} {t : DE} {tr : DA} {tA : DT} {ta tb tx : DEX} {pos p p2 cpos apos : Pos} {nm : Str} {k : Nat} {dd : List D} {f : DSpX}
def exCall (f : DSpX) (dd : List D) (tr : DA) : DEX := fun ρ Q w => tr ρ fun ds => f (ds ++ dd) Q w
theorem pdex_call (tk : Takes X W) (G : GdX X.prog X.w X.K X.mg X.base nm k dd f) (hr : Room k X.A) (ha : PDA X (e :: es) tr) (hg : Gl X nm := by rfl) (hdb : (nm == ("__debug__" : Str)) = false := by decide)
    (he : starEach (e :: es) X.env = (false, eval e X.env) :: starEach es X.env := by rfl) (hpl : (backTo pos (starEach es X.env)).any (·.1) = false := by rfl) : PDEX X W (.Call (.Name nm p) (e :: es) [] pos) (exCall f dd tr) := by
  obtain ⟨a, fd, ps, ds, dvs, hm, hk, F, hb, hd, hdd⟩ := G
  exact (pe_gdx F hm hk hb hd tk hr ha hg hdb he hpl).impD fun σ H Q ⟨F0, H0, G, F, ρ, Q0, W0, so, ht, k, x⟩ => so.callX hdd ht k x
end
section
variable {X : Cx} {i : Nat} {a : Addr} {d : Option Addr} {n : Str} {e o : Expr} {t : DEF} {pos cpos apos : Pos} {oe : Obj} {pn : List (Addr × Obj)}
end
end DV

/-! DzQ: x(lambda: body): a def that calls what it is handed inside its try and tells what it caught -/
namespace DV
open PySem PySem.Spec PyProof.Rows L2 PySem.SeqAt
theorem takes_len {X : Cx} {W : WX} (tk : Takes X W) : Takes X (fun c d σ H => σ.length = X.N.length → W c d σ H) := fun u s' ⟨a, B, sI, pins, σ, H, cls, d, e, I, nb, up, sky, na, os, ag, w⟩ =>
  tk u s' ⟨a, B, sI, pins, σ, H, cls, d, e, I, nb, up, sky, na, os, ag, w I.len⟩
def endW (Q : D → Prop) : DN := ⟨fun ρ => ∃ d, ρ[1]? = some (.v d) ∧ Q d, fun _ => False, fun _ => False, fun _ => False, fun _ => False⟩
abbrev un3 : List Slot := [.un, .un, .un]
abbrev actN (a r e : Str) : List Str := [a, r, e]
/-- a def x(a): r = None; try: a() / except ..: r = ..; return r -/
def RefOk (P : Program) (w : World) (K : PySem.W.Frag) (mg : Str → Option Value) (base : Heap) (x a r e : Str) (k : Nat) (hs : List Hd) : Prop :=
  ∃ (g : Addr) (sg : Scope) (cdv : Value), mg x = some (.ref g) ∧ PySem.W.keepIn K (.ref g) = true ∧ Vis sg a ∧
    ∀ (A : Around) (outer : List Env) (s : Shared) (H : Hp) (f c' : Addr) (q : Str) (F : Hp) (Q0 : D → Prop) (Q : VK) (tl : XK → Hp → VK → Prop), Room (k + 1) A → Env0 P w K mg base A outer s H → Sub F H →
      (∀ (W : WX) (pn : List (Addr × Obj)) (xe : Value → Shared → Prop) (E : XK) (p1 p2 : Pos), Room k (A.deeper (envOfC x sg s.heap.objs.size g cdv)) → Takes ((cxOf C8.CX0 P w K mg base (actN a r e) x sg g cdv A outer s H C8.E0).tr pn xe) W → (∀ cls d σ' H', E cls d H' → W cls d σ' H') →
        PE ((cxOf C8.CX0 P w K mg base (actN a r e) x sg g cdv A outer s H C8.E0).tr pn xe) (.Call (.Name a p1) [] [] p2) (fun σZ HZ Q => σZ[0]? = some (some (.ref f)) ∧ HZ c' = some (LamX.CodeO c' q) ∧ tl E HZ Q)) →
      H c' = some (LamX.CodeO c' q) →
      (∀ R : VK, (∀ v H' F', Ext F H F' H' → Q0 .non → R v H') → tl (fun cls d H' => ∃ F' n fs, Ext F H F' H' ∧ XAt K F' H' cls d n fs ∧ hdW (endW Q0) hs un3 n fs) H R) →
      (∀ v H' F' d, Ext F H F' H' → Rp K F' v d → Q0 d → Q v H') → codeAny (model P w) A (.call (.ref g) ⟨[.ref f], []⟩) (CR C8.CX0 outer P w H s Q C8.E0) s
theorem envOk_un3 {K : PySem.W.Frag} {F H : Hp} {σ : St} (h : σ.length = 3) : EnvOk K F H σ un3 := by
  refine ⟨h, fun i s e => ?_, fun i j p d e _ _ h2 => ?_⟩
  · have hi : i < 3 := (List.getElem?_eq_some_iff.mp e).1
    refine ⟨σ[i]'(by omega), List.getElem?_eq_getElem (by omega), ?_⟩
    have : s = .un := by
      match i, hi, e with
      | 0, _, e => cases e; rfl
      | 1, _, e => cases e; rfl
      | 2, _, e => cases e; rfl
    subst this
    exact True.intro
  · match i, h2 with
    | 0, h2 => cases h2
    | 1, h2 => cases h2
    | 2, h2 => cases h2
    | i + 3, h2 => cases h2
theorem un3_own {i : Nat} {d : D} (h : un3[i]? = some (.own d)) : False := by
  match i, h with
  | 0, h => cases h
  | 1, h => cases h
  | 2, h => cases h
  | i + 3, h => cases h
section
variable {P : Program} {w : World} {K : PySem.W.Frag} {mg : Str → Option Value} {base : Heap}
theorem ref_ok {x a r e : Str} {params : Arguments} {body : List Stmt} {scope : Scope} {dvs : List V} {kws : List (Str × V)} {g : Addr} {fd : FuncData} {h0 : ExceptHandler} {hs : List ExceptHandler} {l : List Hd} {k j : Nat} {p1 p2 p3 p4 p5 p6 p7 p8 p9 : Pos}
    (F : FunD K x x params body scope dvs kws g fd) (S : FnScope (actN a r e) [a] scope) (hm : mg x = some (.ref g)) (hb : Binds K fd [a] []) (hva : Vis scope a) (hvr : Vis scope r) (hlr : ∀ cdv A outer s H, Loc (cxOf C8.CX0 P w K mg base (actN a r e) x scope g cdv A outer s H C8.E0).nox.env.scope r) (hll : scope.names.lookup r = some .local)
    (hbody : body = [.Assign [.Name r p1] (.Constant .none j p2) p3, .Try [.Expr (.Call (.Name a p4) [] [] p5) p6] (h0 :: hs) [] [] p7, .Return (some (.Name r p8)) p9])
    (hh : ∀ (cdv : Value) (A : Around) (outer : List Env) (s : Shared) (H : Hp), Room k (A.deeper (envOfC x scope s.heap.objs.size g cdv)) → HdsD (cxOf C8.CX0 P w K mg base (actN a r e) x scope g cdv A outer s H C8.E0).nox (h0 :: hs) l)
    (hd : (r == ("__debug__" : Str)) = false := by decide) (hcd : (r == ("__classdict__" : Str)) = false := by decide) :
    RefOk P w K mg base x a r e k l := by
  obtain ⟨oc, od, dV, kV, doc, pm, an, cdv, ct, osl, rfl, lk, hcdv, _, _⟩ := F.ex
  refine ⟨g, scope, cdv, hm, F.kp, hva, fun A outer s H f c' q F0 Q0 Q tl hr e0 sb act hc ht kk => ?_⟩
  have KX : K.In s.heap := e0.mod.kin.keeps fun b o e => (e0.bs b o e).1
  refine LamX.run_ofS (N := actN a r e) (ps := [a]) (us := [.ref f]) (vs := [.ref f]) lk hcdv S hr e0 (hb s [.ref f] KX rfl) (.cons rfl .nil) rfl fun hr' => ?_
  subst hbody
  have H1 : HdsD (cxOf C8.CX0 P w K mg base (actN a r e) x scope g cdv A outer s H C8.E0).nox (h0 :: hs) l := hh cdv A outer s H hr'
  have tryS : PS (cxOf C8.CX0 P w K mg base (actN a r e) x scope g cdv A outer s H C8.E0).nox (.Try [.Expr (.Call (.Name a p4) [] [] p5) p6] (h0 :: hs) [] [] p7)
      (fun D σ H => ∃ Ech : XK, (∀ cls d σ' H', Ech cls d H' → σ'.length = 3 → wCls K (fun _ _ _ _ => False) D (l.map (Hd.cl K)) cls d σ' H') ∧ σ[0]? = some (some (.ref f)) ∧ H c' = some (LamX.CodeO c' q) ∧ tl Ech H (fun _ H' => D.nx σ H')) := by
    refine ps_try_cls (X := (cxOf C8.CX0 P w K mg base (actN a r e) x scope g cdv A outer s H C8.E0).nox) (Wo := fun _ _ _ _ => False)
      (tb := fun W D σ H => ∃ Ech : XK, (∀ cls d σ' H', Ech cls d H' → σ'.length = 3 → W cls d σ' H') ∧ σ[0]? = some (some (.ref f)) ∧ H c' = some (LamX.CodeO c' q) ∧ tl Ech H (fun _ H' => D.nx σ H')) rfl rfl S.nd LamX.takes0 (fun W pn xe tk po => ?_) H1.cls
    refine ⟨fun pins s' σ H' D I h' => ?_⟩
    obtain ⟨Ech, hW, h1, h2, h3⟩ := h'
    have hp := act _ pn xe Ech p4 p5 hr' (takes_len tk) (fun cls d σ' H' e l => hW cls d σ' H' e l)
    exact (pss_one (ps_expr (pos := p6) hp)).run pins s' σ H' D I ⟨h1, h2, h3⟩
  refine ⟨_, PSs.nox (pss_cons (ps_set (i := 1) S.nd rfl (hlr cdv A outer s H) pe_non rfl (.inr hll)) (pss_cons tryS (pss_one (ps_ret (pe_var (i := 1) rfl hvr hd hcd))))), ?_⟩
  refine ⟨fun cls d H' => ∃ F' n fs, Ext F0 H F' H' ∧ XAt K F' H' cls d n fs ∧ hdW (endW Q0) l un3 n fs, fun cls d σ' H' ⟨F', n, fs, x1, xa, hw⟩ hl => ?_, rfl, hc, ht _ fun v H' F' x1 q0 => ?_⟩
  · have k : EndsOk K F0 H F0 (endW Q0) { nx := fun σ H => tRet (tVar 1) { nx := fun _ H' => Q .non H', rt := Q } σ H, rt := Q } := ⟨fun σ H ρ ⟨F', s'⟩ ⟨d, e1, q⟩ => by
        obtain ⟨y, e2, v, e3, r⟩ := s'.env.at_ 1 _ e1
        subst e3
        exact ⟨v, e2, kk v H F' d s'.ext r q⟩, fun _ _ _ _ _ _ z => z.elim, fun _ _ _ _ _ _ _ _ z => z.elim, fun _ _ _ _ z => z.elim, fun _ _ _ _ z => z.elim⟩
    exact hdW_ok k rfl H1 σ' H' F' un3 cls d n fs ⟨sb, x1.mono, x1, envOk_un3 hl, fun i p d _ h => (un3_own h).elim⟩ xa hw
  · exact ⟨.non, rfl, kk _ _ _ _ x1 .non q0⟩
end
def noOwn : List Slot → Bool
  | [] => true
  | .own _ :: _ => false
  | _ :: r => noOwn r
theorem noOwn_at : ∀ {ρ : List Slot} {i : Nat} {d : D}, noOwn ρ = true → ρ[i]? = some (.own d) → False
  | s :: ρ, 0, d, h, e => by
    cases e
    simp [noOwn] at h
  | s :: ρ, i + 1, d, h, e => by
    have h' : noOwn ρ = true := by cases s <;> simp_all [noOwn]
    exact noOwn_at (ρ := ρ) h' e
def dRef (hs : List Hd) (j : Nat) (T : List (Addr × Str)) (te : DEX) : DE := fun ρ Q => ρ[j]? = some (.tb T) ∧ noOwn ρ = true ∧ te ρ (fun _ => Q .non) fun n fs => hdW (endW Q) hs un3 n fs
section
variable {X : Cx} {body : Expr} {te : DEX} {params : Arguments} {scope : Scope} {T : List (Addr × Str)} {P c : Addr} {j k : Nat} {x a r e : Str} {hs : List Hd} {p lpos pos : Pos}
theorem pd_ref (hg : Gl X x) (hR : RefOk X.prog X.w X.K X.mg X.base x a r e (k + 1) hs) (hT : (P, X.env.qual ++ "<lambda>") ∈ T) (TB : LamX.TabB X.base X.mg c P) (hcode : X.env.code = .ref c) (hr : Room (k + 2) X.A) (L : LamX.LamS X.env.scope scope)
    (hdef : defaultsOf params X.env = ([], []))
    (hbind : ∀ (q : Str) (cl : List (Str × Addr)) (pm cv ctv : Value), bindArgs (PySem.W.kla_fn "<lambda>" q params body scope cl pm cv ctv) ⟨[], []⟩ = pure [])
    (hbody : ∀ (A : Around) (outer : List Env) (s : Shared) (H : Hp) (E : XK) (f c' : Addr), Room k (A.deeper (LamX.lamEnv X scope s.heap.objs.size f c')) → Takes (LamX.lamCx X A outer s H E scope f c') (fun cls d _ H => E cls d H) → PDEX (LamX.lamCx X A outer s H E scope f c') (fun cls d _ H => E cls d H) body te)
    (hdb : (x == ("__debug__" : Str)) = false := by decide) (hd : (a == ("__debug__" : Str)) = false := by decide) (hcd : (a == ("__classdict__" : Str)) = false := by decide) :
    PD X (.Call (.Name x p) [.Lambda params body scope lpos] [] pos) (dRef hs j T te) := by
  refine ⟨fun pins s σ H Q I ⟨ρ, F, Q0, sb, en, ht, kk⟩ => ?_⟩
  obtain ⟨hj, hno, hte⟩ := ht
  obtain ⟨g, sg, cdv, hm, hk, hva, run⟩ := hR
  obtain ⟨y0, _, tb⟩ := en.at_ j _ hj
  have hFP : F P = some (Mark3 (X.env.qual ++ "<lambda>")) := (show TabF T F from tb) _ hT
  refine wpAny_Call_Name_kw (ld_glob I hg hm ?_ hdb)
  refine PySem.W.callWith_K (h₀ := X.base) I.ok.mod.kin hk ?_ (by rfl) (by rfl)
  show wpAny _ _ (spliced ((false, eval (.Lambda params body scope lpos) X.env) :: backTo pos (starEach [] X.env))) _ _ s
  refine Calls.spliced_cons (lam_makeF sb I TB hcode hFP hdef (L.has I.ok) fun f c' pm' ctv F2 H2 s2 I2 x2 hf hfn hfr hco => ?_)
  refine Calls.spliced_nil ⟨I2.kIn, ?_⟩
  have hcH : H2 c' = some (LamX.CodeO c' (X.env.qual ++ "<lambda>")) := x2.sub c' _ hco
  have rc : codeAny (model X.prog X.w) X.A (.call (.ref g) ⟨[.ref f], []⟩) (CR C8.CX0 X.stack X.prog X.w H2 s2 Q C8.E0) s2 :=
    run X.A X.stack s2 H2 f c' (X.env.qual ++ "<lambda>") F2 Q0 Q (fun E H' Q' => lfEX X.K (fun cls d _ H => E cls d H) te σ H' Q') hr I2.env0 x2.sub
      (fun W pn xe E p1 p2 hr' tk hW => LamX.pe_act (i := 0) I2 L hf hfn hfr (hbind _ _ _ _ _) tk hW hr' (fun A outer s H hr2 => hbody A outer s H E f c' hr2 (takes_of rfl rfl rfl rfl)) rfl hva hd hcd) hcH
      (fun R hR => ⟨F2, H2, F2, F2, ρ, _, _, ⟨x2.sub, Same.refl F2, .refl x2.sub, en.mono x2, fun i p d _ h2 => (noOwn_at hno h2).elim⟩, hte, fun v H' F' d so _ q => hR v H' F' so.ext q, fun H' F' cls d n fs so xa q => ⟨F', n, fs, so.ext, xa, q⟩⟩)
      (fun v H' F' d x r q => kk v H' F' d (x2.trans x) r q)
  refine wpAny_call (codeAny_mono rc fun r s2 hq => ?_)
  cases r with
  | error e => exact (show False from hq).elim
  | ok fl =>
    cases fl with
    | ret u => exact I2.after hq
    | next => exact False.elim hq
    | brk => exact False.elim hq
    | cont => exact False.elim hq
end
end DV

namespace DV
open PySem PySem.Spec PyProof.Rows L2

/-! ### str of a number -/
end DV

namespace DV
open PySem PySem.Spec PyProof.Rows L2 PySem.SeqAt
/-! ### (d, n) == (e, m) where they are equal -/
end DV

namespace DV
open PySem PySem.Spec PyProof.Rows L2

/-! ### own lists: an item out, an item written, two items written -/
theorem RpA.set {K : PySem.W.Frag} {F : Hp} : ∀ {xs : List V} {ds : List D} (k : Nat) {v : V} {d : D}, RpA K F xs ds → Rp K F v d → RpA K F (xs.set k v) (ds.set k d)
  | _, _, _, _, _, .nil, _ => .nil
  | _, _, 0, _, _, .cons _ r, h => .cons h r
  | _, _, k + 1, _, _, .cons h0 r, h => .cons h0 (RpA.set k r h)
section
variable {X : Cx} {o e e2 ke : Expr} {t ti tv tk tl : DE} {apos cpos pos pos' : Pos}
end
end DV

namespace PySem
open Sem (wp)
open AutoSeq1 (wpAny_loadPart')
section
variable {prog : Program} {w : World} {A : Around} {E : Value → Shared → Prop} {s : Shared}
end
end PySem
namespace DV
open PySem PySem.Spec PyProof.Rows L2
end DV

namespace DV
open PySem PySem.Spec PyProof.Rows L2

/-! ### d.get(k, x) -/
section
variable {X : Cx} {pins : List (Addr × Obj)} {σ : St} {F H : Hp} {s : Shared}
end
section
variable {X : Cx} {o e f : Expr} {apos cpos : Pos} {td tk tx : DE}
end
end DV

namespace DV
open PySem PySem.Spec PyProof.Rows L2 PySem.SeqAt
/-! ### [d, e] != [d', e'] of dicts that are equal -/
section
open AutoSeq1 (wpAny_loadPart')
open MeetsSeq MeetsSeq2 MeetsSeq3 SeqRoads2
variable {prog : Program} {w : World}
end
end DV

namespace DV
open PySem PySem.Spec PyProof.Rows L2

/-! ### defs that may raise, hand back new things, and call such as make lambdas -/
section
variable {P : Program} {w : World} {K : PySem.W.Frag} {mg : Str → Option Value} {base : Heap}
end
section
variable {X : Cx} {W : WX} {k n : Nat} {a : Addr} {fd : FuncData} {ps ks : List Str} {sp : Sp} {x nm : Str} {p pos : Pos} {e : Expr} {es : List Expr} {kws : List Keyword} {t tk0 : TA} {g : List Value → List Value → List Value} {gV : List V → List V → List V}
end
section
variable {X : Cx} {W : WX} {e : Expr} {es : List Expr} {tr tz : DA} {pos p p2 : Pos} {nm : Str} {k n m : Nat} {f : DSpX} {T : List (Addr × Str)} {kws : List Keyword} {ks : List Str}
end
end DV

namespace DV
open PySem PySem.Spec PyProof.Rows L2

/-! ### {k: v}, k a tuple of numbers -/
section
variable {X : Cx} {ke ve : Expr} {pos : Pos} {tk tv : DE}
end
end DV

namespace DV
open PySem PySem.Spec PyProof.Rows L2

/-! ### x in a list or a tuple -/
end DV

namespace DV
open PySem PySem.Spec PyProof.Rows L2

/-! ### {key: value for .. in ..}, keys tuples of numbers too -/
section
variable {X : Cx} {pins : List (Addr × Obj)} {σ : L2.St} {F H : Hp} {s : Shared}
end
section
variable {X : Cx} {kx vx tg iter : Expr} {ifs : List Expr} {scope : Scope} {own : List (Str × Nat)} {pos : Pos}
end
section
variable {X : Cx} {kx vx tg iter : Expr} {ifs : List Expr} {scope : Scope} {own : List (Str × Nat)} {pos : Pos} {it : DI} {g : TG} {g' : DG} {tt : DT} {tk tv : DE}
end
end DV

namespace DV
open PySem PySem.Spec PyProof.Rows L2 LiI

/-! ### list(d.items()), d's keys flat or tuples of numbers -/
section
variable {X : Cx}
end
section
variable {X : Cx} {pins : List (Addr × Obj)} {σ : L2.St} {F H : Hp} {s : Shared}
end
section
variable {X : Cx} {e : Expr} {te : TE} {t : DE} {p apos cpos pos : Pos}
end
end DV

namespace DV
open PySem PySem.Spec PyProof.Rows L2

/-! ### isinstance(x, T), x a dict with tuples as keys too -/
section
variable {X : Cx} {e : Expr} {t : DE} {pos p : Pos}
end
end DV

namespace DV
open PySem PySem.Spec PyProof.Rows L2

/-! ### own classes of exceptions over LookupError -/
abbrev leMro : List Value := [.type "LookupError", .type "Exception", .type "BaseException", .type "object"]
/-- what the text says of such a class -/
structure OexL (K : PySem.W.Frag) (C : Addr) : Prop where
  cls : ∃ (nm q : Str) (N : Addr) (bs bm : List Value) (sn : List Str) (sub : List Value) (ab : Bool) (col : Option Bool) (dd : Option Addr) (k0 k1 k2 k3 k5 : Option Value),
    K.lookup C = some (excClassObj nm q C N bs bm true sn sub ab col dd k0 k1 k2 k3 k5 "LookupError.__new__") ∧ PySem.W.excTail leMro bm = true
  sa : PySem.W.findIn K (.ref C) "__setattr__" = some (some (.builtin "object.__setattr__"))
  exC : PySem.W.subIn K (.ref C) (.type "BaseException") = some true
  tyC : PySem.W.typeIn K (.ref C) = some (.type "type")
  kC : PySem.W.keepIn K (.ref C) = true
theorem OexL.has {bm : List Value} (h : PySem.W.excTail leMro bm = true) (Y : String) : bm.contains (.type Y) = leMro.contains (.type Y) := PySem.W.excTail_contains Y bm h
/-- its data -/
theorem OexL.data {K : PySem.W.Frag} {C : Addr} (T : OexL K C) : ∃ cd : ClassData, PySem.W.clsIn K C = some cd ∧ PySem.W.excOver K C leMro = true ∧ cd.hasDict = true := by
  obtain ⟨nm, q, N, bs, bm, sn, sub, ab, col, dd, k0, k1, k2, k3, k5, hC, hb⟩ := T.cls
  have e : PySem.W.clsIn K C = some { name := nm, bases := bs, mro := .ref C :: bm, ns := N, qualname := q, hasDict := true, slotNames := sn, subclasses := sub, abstract := ab, collection := col, hasDel := false } := by unfold PySem.W.clsIn; rw [hC] <;> rfl
  refine ⟨_, e, ?_, rfl⟩
  unfold PySem.W.excOver
  rw [e]
  show (decide (C = C) && PySem.W.excTail leMro bm) = true
  rw [hb]; simp
section
open Builtin Builtin.ObjectAttr
variable {P : Program} {w : World} {A : Around} {R : Result → Shared → Prop} {hp : Heap} {g : Array GenState} {d : Drawn} {t : Nat} {os : OsState} {K : PySem.W.Frag} {f : Str} {tk : Tok} {v : Value} {x C dx : Addr} {fv : Array Value}
end
section
variable {X : Cx} {pins : List (Addr × Obj)} {σ : St} {H : Hp} {s : Shared} {a C dx : Addr} {f : Str} {y : V} {u : Value} {fs : List (Str × V)} {Q : Unit → Shared → Prop} {E : Value → Shared → Prop} {A : Around}
end

/-! ### readings and rules -/
section
variable {X : Cx} {o e : Expr} {es : List Expr} {to te : TE} {ta : TA} {f : Str} {p p' p1 p2 pos : Pos}
end
section
variable {X : Cx} {e : Expr} {es : List Expr} {ta : TA} {p pos : Pos}
end

/-! ### what the __init__ of such classes promise -/
section
variable {P : Program} {w : World} {K : PySem.W.Frag} {mg : Str → Option Value} {base : Heap} {a : Addr} {fd : FuncData} {x qual : Str} {params : Arguments} {scope : Scope} {body : List Stmt}
end

/-! ### raise n(y) -/
section
variable {X : Cx} {W : WX} {e : Expr} {t : DE} {pos p : Pos} {n g : Str}
end

/-! ### by one Bool -/
end DV

namespace DV
open PySem PySem.Spec PyProof.Rows L2
/-! ### list * int -/
section
variable {X : Cx} {a b : Expr} {ta tb : DE} {pos : Pos}
end
end DV

namespace DV
open PySem PySem.Spec PyProof.Rows L2
/-! ### what is read while a list of one's own is lent: it may hold lists, but not the lent one -/
mutual
/-- numbers, texts, None, truth values, lists and tuples of such -/
def D.pl : D → Bool
  | .non => true
  | .bl _ => true
  | .int _ => true
  | .str _ => true
  | .tup ds => D.pls ds
  | .lst ds => D.pls ds
  | _ => false
def D.pls : List D → Bool
  | [] => true
  | d :: ds => D.pl d && D.pls ds
end
mutual
/-- the list ds0 stands nowhere in it -/
def D.nof (ds0 : List D) : D → Bool
  | .lst ds => !D.eqbs ds ds0 && D.nofs ds0 ds
  | .tup ds => D.nofs ds0 ds
  | _ => true
def D.nofs (ds0 : List D) : List D → Bool
  | [] => true
  | d :: ds => D.nof ds0 d && D.nofs ds0 ds
end
section
variable {X : Cx} {pins : List (Addr × Obj)} {σ : L2.St} {F H : Hp} {s : Shared}
end
section
variable {X : Cx} {e : Expr} {t : DE}
end
end DV

namespace DV
open PySem PySem.Spec PyProof.Rows L2
/-! ### for over data, whose body may raise -/
section
variable {X : Cx} {W : WX} {pos : Pos} {u : DSX}
end
end DV

namespace DV
open PySem PySem.Spec PyProof.Rows L2
/-! ### min, max of a list of alike data, with default= -/
theorem DpAll.get {K : PySem.W.Frag} {H : Hp} : ∀ {vs : List V} {ps : List PyData}, DpAll K H vs ps → vs.length = ps.length ∧ ∀ {i : Nat} {v : V} {p : PyData}, vs[i]? = some v → ps[i]? = some p → Dp K H v p
  | _, _, .nil => ⟨rfl, fun e => by simp at e⟩
  | _, _, .cons h r => ⟨by simp [(DpAll.get r).1], fun {i v p} e1 e2 => by
    cases i with
    | zero => simp at e1 e2; subst e1 e2; exact h
    | succ i => exact (DpAll.get r).2 (by simpa using e1) (by simpa using e2)⟩
section
variable {X : Cx} {e : Expr} {kws : List Keyword} {tr tk : DA} {p pos : Pos}
end
end DV

namespace DV
open PySem PySem.Spec PyProof.Rows L2
/-! ### a dict walked, its keys flat or tuples of numbers -/
section
variable {X : Cx} {pins : List (Addr × Obj)} {σ : L2.St} {H : Hp} {s : Shared} {d : Addr} {o : Obj}
end
section
variable {P : Program} {w : World} {K : PySem.W.Frag} {tg : Expr} {d : Addr} {o : Obj} {es : Array DictEntry} {ep : Nat}
end
section
variable {X : Cx} {tg e : Expr} {td : TE}
end
/-! ### s[i], s * n -/
section
variable {X : Cx} {a b : Expr} {ta tb : DE} {pos : Pos}
end
end DV

namespace DV
open PySem PySem.Spec PyProof.Rows L2
/-! ### x, y = e, f: one value frozen, the other one's own -/
section
variable {X : Cx} {a b : Expr} {ta tb : DE} {pos : Pos}
end
end DV

namespace DV
open PySem PySem.Spec PyProof.Rows L2
/-! the readings of the defs, by canon.json -/
def c_need_spot : DSp := fnD 1 1
  (sIf (dNot (dTest (dCall c_is_spot [] (dCons (dVar 0) dNil)))) sNever sNext)
def c_need_stroke : DSp := fnD 1 1
  (sSeq (sDrop (dCall c_need_spot [] (dCons (dSl (dVar 0) dNo (dPart (dC (.int 2)))) dNil))) (sSeq (sDrop (dCall c_need_spot [] (dCons (dSl (dVar 0) (dPart (dC (.int 2))) dNo) dNil))) (sIf (dTest (dOp eqD (dSl (dVar 0) dNo (dPart (dC (.int 2)))) (dSl (dVar 0) (dPart (dC (.int 2))) dNo))) sNever sNext)))
def c_law_refusedH : List Hd := [⟨"BadSpot", ["BadStroke"], 2, (fSet 1 (fTup (fCons (fFld "word") (fCons (fFld "spot") fNil))))⟩, ⟨"BadStroke", ["BadSpot"], 2, (fSet 1 (fTup (fCons (fFld "word") (fCons (fFld "stroke") fNil))))⟩]
def c_law_stroke_word : DSp := fnD 2 1
  (sSeq (sFor (iSeq (dLst (dCons (dSl (dVar 0) dNo (dPart (dC (.int 2)))) (dCons (dSl (dVar 0) (dPart (dC (.int 2))) dNo) dNil)))) (gN 1) (sIf (dOr (dTest (dOp ltA (dB (mm1D min) (dCons (dVar 1) dNil)) (dUn negD (dC (.int 40))))) (dTest (dOp gtA (dB (mm1D max) (dCons (dVar 1) dNil)) (dC (.int 40))))) (sRet (dTup (dCons (dC (.str "BadSpot")) (dCons (dVar 1) dNil)))) sNext)) (sRet (dIf (dTest (dOp eqD (dSl (dVar 0) dNo (dPart (dC (.int 2)))) (dSl (dVar 0) (dPart (dC (.int 2))) dNo))) (dTup (dCons (dC (.str "BadStroke")) (dCons (dVar 0) dNil))) (dC .non))))
def c_need_spot_xxX : DSpX := fnX 1 1
  (xIf (dNot (dTest (dCall c_is_spot [] (dCons (dVar 0) dNil)))) (xRaise1 "BadSpot" "spot" (dVar 0)) (xL sNext))
def c_need_stroke_xxX : DSpX := fnX 1 1
  (xSeq (xDrop c_need_spot_xxX [] (dCons (dSl (dVar 0) dNo (dPart (dC (.int 2)))) dNil)) (xSeq (xDrop c_need_spot_xxX [] (dCons (dSl (dVar 0) (dPart (dC (.int 2))) dNo) dNil)) (xIf (dTest (dOp eqD (dSl (dVar 0) dNo (dPart (dC (.int 2)))) (dSl (dVar 0) (dPart (dC (.int 2))) dNo))) (xRaise1 "BadStroke" "stroke" (dVar 0)) (xL sNext))))
def c_law_k05 (T : List (Addr × Str)) : DSp := fnT T 7 1
  (sSeq (sSet 1 (dCall bagD [] (dCons (dVar 0) dNil))) (sSeq (sFor (iRng1D (dCons (dC (.int 9)) dNil)) (gN 2) (sSeq (sSet 3 (dLc (iRng1D (dCons (dC (.int 4)) dNil)) (gN 5) dYes (dCall c_law_of [] (dCons (dVar 1) (dCons (dLst (dCons (dUn negD (dC (.int 41))) (dCons (dUn negD (dC (.int 40))) (dCons (dC (.int 40)) (dCons (dC (.int 41)) (dCons (dOp subD (dCall pullD [] (dCons (dVar 1) (dCons (dC (.int 81)) dNil))) (dC (.int 40))) (dCons (dC (.int 0)) dNil))))))) dNil))) [5])) (sSeq (sSet 4 (dB tupleD (dCons (dCall c_law_of [] (dCons (dVar 1) (dCons (dLst (dCons (dVar 3) (dCons (dVar 3) (dCons (dOp addD (dSl (dVar 3) dNo (dPart (dC (.int 2)))) (dSl (dVar 3) dNo (dPart (dC (.int 2))))) dNil)))) dNil))) dNil))) (sIf (dNot (dTest (dCall (c_law_like 8) [] (dCons (dRef c_law_refusedH 6 T (exCall c_need_stroke_xxX [] (dCons (dVar 4) dNil))) (dCons (dCall c_law_stroke_word [] (dCons (dVar 4) dNil)) dNil))))) (sRet (dC (.bl false))) sNext)))) (sRet (dOp isNonD (dCall c_need_stroke [] (dCons (dTup (dCons (dC (.int 0)) (dCons (dC (.int 0)) (dCons (dC (.int 0)) (dCons (dC (.int 1)) dNil))))) dNil)) (dC .non)))))
end DV

namespace K05
open PySem PySem.Spec PyProof.Rows L2 DV
/-! ### the text -/
def topS (i : Nat) : Stmt := PySem.Challenge.pw_dotmoor_k05_strokes_refused.main.body.getD i (.Pass ⟨0, 0, 0, 0⟩)
abbrev s_is_spot : Stmt := topS 6
abbrev s_need_spot : Stmt := topS 7
abbrev s_need_stroke : Stmt := topS 9
abbrev s_law_bag : Stmt := topS 11
abbrev s_law_pull : Stmt := topS 12
abbrev s_law_of : Stmt := topS 13
abbrev s_law_like : Stmt := topS 14
abbrev s_law_refused : Stmt := topS 15
abbrev s_law_stroke_word : Stmt := topS 16
abbrev s_law : Stmt := topS 17
abbrev s_DotError_i : Stmt := inClass (topS 1) 0
abbrev s_BadSpot_i : Stmt := inClass (topS 2) 0
abbrev s_BadStroke_i : Stmt := inClass (topS 3) 0
/-- names that the text leaves free, its constants -/
structure Bf (mg : Str → Option Value) : Prop where
  b_ValueError : mg "ValueError" = none
  b_all : mg "all" = none
  b_bool : mg "bool" = none
  b_dict : mg "dict" = none
  b_isinstance : mg "isinstance" = none
  b_len : mg "len" = none
  b_list : mg "list" = none
  b_max : mg "max" = none
  b_min : mg "min" = none
  b_range : mg "range" = none
  b_tuple : mg "tuple" = none
  c_FAR : ∃ tk, mg "FAR" = some (.int 40 tk)
/-! ### the law's draws, by hand -/
abbrev n_law_bag : List Str := ["_law_script", "_law_salt", "_law_cell"]
theorem sc_law_bag : FnScope n_law_bag ["_law_script"] (defScope s_law_bag) := ⟨rfl, rfl, rfl, by decide +kernel, rfl, by decide +kernel, by decide +kernel⟩
theorem int_at {ns : List Int} {i : Nat} {y : V} (h : (ns.map V.int)[i]? = some y) : ∃ z, ns[i]? = some z ∧ y = .int z := by
  rw [List.getElem?_map] at h
  cases e : ns[i]? with
  | none => rw [e] at h; cases h
  | some z => rw [e] at h; exact ⟨z, rfl, (Option.some.inj h).symm⟩
theorem cut63 {xs : List V} (h : xs.length ≤ 63) : cutV xs none (some 63) = xs := by
  unfold cutV
  rw [HT.sIx_none, show HT.sIx xs.length xs.length (some 63) = min 63 xs.length from HT.sIx_nat xs.length xs.length 63, List.drop_zero]
  exact List.take_of_length_le (by omega)
theorem ok_law_bag {P : Program} {w : World} {K : PySem.W.Frag} {mg : Str → Option Value} {base : Heap} {a : Addr} {fd : FuncData} {dvs : List V} (B : Bf mg) (F : FunD K "_law_bag" "_law_bag" (defArgs s_law_bag) (defBody s_law_bag) (defScope s_law_bag) dvs [] a fd) :
    FnOk P w K mg base CX0 1 a fd ["_law_script"] (spD K bagD) := by
  refine F.ok sc_law_bag (fun vs H Q E h => ?_) (fun cdv A outer s H vs Q E hr h => ⟨_, PSs.nox (pss_cons (ps_set (i := 1) sc_law_bag.nd rfl (.inl rfl) pe_int) (pss_cons
    (ps_for PassesOwn.never rfl (pi_list (pe_slice sl_list (pv 0) po_none (po_some pe_int))) (pg_name (i := 2) sc_law_bag.nd rfl (.inl rfl))
      (pss_one (ps_set (i := 1) sc_law_bag.nd rfl (.inl rfl) (pe_op op_modN (pe_op op_add (pe_op op_add (pe_op op_mul (pv 1) pe_int) (pe_op op_modN (pv 2) pe_int)) pe_int) pe_int))))
    (pss_one (ps_ret (pe_lst (pa_cons (pe_callTy call_list_of (by rfl) B.b_list (by decide +kernel) (pa_cons (pe_slice sl_list (pv 0) po_none (po_some pe_int)) pa_nil)) (pa_cons pe_int (pa_cons pe_int (pa_cons (pv 1) pa_nil))))))))), ?_⟩)
  · obtain ⟨F, ds, Q0, _, r, h, _⟩ := h
    rw [r.length, h.1]; rfl
  · obtain ⟨F0, ds, Q0, sb, r, ⟨rfl, h⟩, q⟩ := h
    obtain ⟨x, rfl⟩ : ∃ x, vs = [x] := by
      cases r with
      | cons r1 r2 => cases r2; exact ⟨_, rfl⟩
    cases r with
    | cons r1 r2 =>
    cases r1 with
    | scr hS hl =>
    rename_i c ns
    have hl2 : (ns.map V.int).length ≤ 63 := by simpa using hl
    refine ⟨_, rfl, 63, rfl, c, ns.map V.int, rfl, sb.seqL hS, fun p1 np1 => ⟨p1, rfl, ⟨_, .of upd_same⟩, ?_⟩⟩
    refine for_list (K := K) (a := p1) (xs := cutV (ns.map V.int) none (some 63)) (fun i σ H' => ∃ (salt : Int) (x2 : Option V), σ = [some (.ref c), some (.int salt), x2] ∧ H' = upd H p1 (.lst (cutV (ns.map V.int) none (some 63)))) ⟨9117, none, rfl, rfl⟩ (fun i σ H' _ ⟨_, _, _, e⟩ => e ▸ .of upd_same) ?_ ?_
    · rintro i y σ H' hi ⟨salt, x2, rfl, rfl⟩
      rw [cut63 hl2] at hi
      obtain ⟨z, _, rfl⟩ := int_at hi
      exact ⟨.int salt, rfl, _, _, rfl, rfl, .inr (by decide), .int z, rfl, _, _, rfl, rfl, (by dsimp only; decide), _, _, rfl, rfl, _, _, rfl, rfl, _, _, rfl, rfl, (by dsimp only; decide), _, _, rfl, rfl⟩
    · rintro σ H' ⟨salt, x2, rfl, rfl⟩
      have np1c : ∀ (b : Addr) o, F0 b = some o → b ≠ p1 := fun b o e z => by
        have := sb.none np1
        rw [← z, e] at this; cases this
      have x1 : Ext F0 H F0 (upd H p1 (.lst (cutV (ns.map V.int) none (some 63)))) := Ext.newO sb np1
      refine ⟨_, rfl, 63, rfl, c, ns.map V.int, rfl, x1.sub.seqL hS, fun p2 np2 => ?_⟩
      have x2 := x1.trans (Ext.newO (o := .lst (cutV (ns.map V.int) none (some 63))) x1.sub np2)
      refine ⟨p2, _, rfl, .inl (.of upd_same), fun p3 np3 => ?_⟩
      have hp3 := x2.sub.none np3
      have x3 := x2.trans (Ext.newO (o := .lst (cutV (ns.map V.int) none (some 63))) x2.sub np3)
      refine ⟨_, rfl, by show 4 ≤ sizeLine; decide, fun b nb => ?_⟩
      have hb3 := x3.sub.none nb
      have hbp : p3 ≠ b := fun z => by rw [← z, upd_same] at nb; cases nb
      refine q (.ref b) _ (upd (upd F0 p3 Mark2) b Mark) .bag ⟨fun d o e => ?_, fun d o e z => ?_, fun d o e => ?_⟩ (.bag upd_same) h
      · rw [upd_ne (ne_of_none e hb3), upd_ne (ne_of_none e hp3)]; exact e
      · obtain ⟨k1, k2⟩ := x3.keep d o e z
        obtain ⟨k3, _⟩ := x2.keep d o e z
        have hd : d ≠ b := ne_of_none k1 nb
        have hd2 : d ≠ p3 := ne_of_none k3 np3
        exact ⟨by rw [upd_ne hd]; exact k1, by rw [upd_ne hd, upd_ne hd2]; exact k2⟩
      · by_cases hd : d = b
        · subst hd
          rw [upd_same] at e; cases e
          refine Stands.ofBag ⟨p3, 0, 0, salt, ?_, upd_same⟩
          rw [upd_ne hbp, upd_same]
        · rw [upd_ne hd] at e
          by_cases hd2 : d = p3
          · subst hd2
            rw [upd_same] at e; cases e
            refine Stands.ofScp ⟨ns, ?_, by omega⟩
            rw [upd_ne hd, upd_same, cut63 hl2]
          · rw [upd_ne hd2] at e
            exact (x3.sub d o e).mono (fun g y z => by rw [upd_ne (ne_of_none z hb3), upd_ne (ne_of_none z hp3)]; exact z) fun u z => by rw [upd_ne hd]; exact z

abbrev n_law_pull : List Str := ["_law_bag_here", "_law_amount", "_law_cell", "_law_got", "_law_seed"]
theorem sc_law_pull : FnScope n_law_pull ["_law_bag_here", "_law_amount"] (defScope s_law_pull) := ⟨rfl, rfl, rfl, by decide +kernel, rfl, by decide +kernel, by decide +kernel⟩
def bagL (a : Addr) (p : Nat) (big salt : Int) : HO := .lst [.ref a, .int p, .int big, .int salt]
def tFirst : TS := fun D σ H => ∃ (b : Addr) (n : Int) (a : Addr) (ns : List Int) (p : Nat) (big salt : Int), σ = [some (.ref b), some (.int n), none, none, none] ∧ H b = some (bagL a p big salt) ∧ H a = some (.lst (ns.map V.int)) ∧
  ∀ (x2 : Option V) (p' : Nat) (big' salt' : Int), D.nx [some (.ref b), some (.int n), x2, none, none] (upd H b (bagL a p' big' salt'))
def tRest : TS := fun D σ H => ∃ (b : Addr) (n : Int) (a : Addr) (p : Nat) (big salt : Int) (x2 : Option V), σ = [some (.ref b), some (.int n), x2, none, none] ∧ H b = some (bagL a p big salt) ∧ 0 < n ∧ DivOk n ∧
  ∀ (r big' salt' : Int), 0 ≤ r → r < n → D.rt (.int r) (upd H b (bagL a p big' salt'))
theorem upd_self {H : Hp} {a : Addr} {o : HO} (h : H a = some o) : upd H a o = H := by
  funext b
  by_cases e : b = a
  · subst e; rw [upd_same, h]
  · rw [upd_ne e]
theorem fmod_in {i n : Int} (h : 0 < n) : 0 ≤ i.fmod n ∧ i.fmod n < n := by
  rw [Int.fmod_eq_emod_of_nonneg i (by omega)]
  exact ⟨Int.emod_nonneg i (by omega), Int.emod_lt_of_pos i h⟩
theorem ok_law_pull {P : Program} {w : World} {K : PySem.W.Frag} {mg : Str → Option Value} {base : Heap} {a : Addr} {fd : FuncData} {dvs : List V} (B : Bf mg) (F : FunD K "_law_pull" "_law_pull" (defArgs s_law_pull) (defBody s_law_pull) (defScope s_law_pull) dvs [] a fd) :
    FnOk P w K mg base CX0 1 a fd ["_law_bag_here", "_law_amount"] (spD K pullD) := by
  refine F.ok sc_law_pull (fun vs H Q E h => ?_) (fun cdv A outer s H vs Q E hr h => ⟨_, PSs.nox (pss_cons (PS.impD (t' := tFirst) (ps_if (PW.pt (pw_and (pt_cmpR op_eq (pe_ix ix_list (pv 0) pe_int (fun _ _ => rfl)) pe_int (nomark _))
      (pw_and1 (pt_cmpR op_lt (pe_ix ix_list (pv 0) pe_int (fun _ _ => rfl)) (pe_callB call_len_seq (by rfl) B.b_len boot_len (pa_cons (pe_ix ix_list (pv 0) pe_int (fun _ _ => rfl)) pa_nil)) (nomark _)))))
    (pss_cons (ps_set (i := 2) sc_law_pull.nd rfl (.inl rfl) (pe_ix ix_list (pe_ix ix_list (pv 0) pe_int (fun _ _ => rfl)) (pe_ix ix_list (pv 0) pe_int (fun _ _ => rfl)) (fun _ _ => rfl)))
    (pss_cons (ps_asg (pe_op op_add (pe_ix ix_list (pv 0) pe_int (fun _ _ => rfl)) pe_int) (pg_sub (pv 0) pe_int set_list))
    (pss_one (ps_if (pt_cmpR op_ge (pv 2) (pe_op op_pow pe_int pe_int) (nomark _)) (pss_one (ps_asg (pv 2) (pg_sub (pv 0) pe_int set_list)))
      (pss_one (ps_asg (pe_op op_modN (pe_op op_add (pe_op op_add (pe_op op_mul (pe_ix ix_list (pv 0) pe_int (fun _ _ => rfl)) pe_int) (pe_op op_mul (pe_op op_modN (pv 2) pe_int) pe_int)) pe_int) pe_int) (pg_sub (pv 0) pe_int set_list)))))))
    pss_nil) ?first)
   (PSs.impD (t' := tRest) (pss_cons (ps_if (pt_cmpR op_gt (pe_ix ix_list (pv 0) pe_int (fun _ _ => rfl)) pe_int (nomark _))
      (pss_cons (ps_set (i := 3) sc_law_pull.nd rfl (.inl rfl) (pe_op op_modN (pe_ix ix_list (pv 0) pe_int (fun _ _ => rfl)) (pv 1)))
      (pss_cons (ps_asg (pe_op op_fdivA (pe_ix ix_list (pv 0) pe_int (fun _ _ => rfl)) (pv 1)) (pg_sub (pv 0) pe_int set_list)) (pss_one (ps_ret (pv 3))))) pss_nil)
    (pss_cons (ps_set (i := 4) sc_law_pull.nd rfl (.inl rfl) (pe_ix ix_list (pv 0) pe_int (fun _ _ => rfl)))
    (pss_cons (ps_asg (pe_op op_modN (pe_op op_add (pe_op op_add (pe_op op_mul (pv 4) pe_int) (pe_op op_mul (pe_op op_fdivA (pv 4) pe_int) pe_int)) pe_int) pe_int) (pg_sub (pv 0) pe_int set_list))
    (pss_one (ps_ret (pe_op op_modN (pe_op op_add (pe_op op_fdivA (pe_ix ix_list (pv 0) pe_int (fun _ _ => rfl)) pe_int) (pe_op op_mul (pe_op op_modN (pe_ix ix_list (pv 0) pe_int (fun _ _ => rfl)) pe_int) pe_int)) (pv 1))))))) ?rest)), ?_⟩)
  case first =>
    intro N σ H h
    obtain ⟨b, n, a, ns, p, big, salt, rfl, hb, ha, k⟩ := h
    have keep : ∀ x2, N.nx [some (.ref b), some (.int n), x2, none, none] H := fun x2 => by
      have := k x2 p big salt
      rwa [upd_self hb] at this
    have nab : a ≠ b := ne_of ha hb (by intro z; unfold bagL at z; injection z with z; cases ns <;> cases z)
    refine ⟨.ref b, rfl, _, _, _, _, rfl, rfl, .of hb, rfl, rfl, _, rfl, ite2 (fun _ => ?_) (fun _ => ?_)⟩
    · refine ⟨.ref b, rfl, _, _, _, _, rfl, rfl, .of hb, rfl, .ref b, rfl, _, _, _, _, rfl, rfl, .of hb, rfl, _, _, rfl, .inl (.of ha), _, _, rfl, rfl, _, rfl, ite2 (fun c => ?_) (fun _ => ?_)⟩
      · have c' : (p : Int) < (ns.map V.int).length := of_decide_eq_true c
        have hp : p < ns.length := by
          rw [List.length_map] at c'
          omega
        have e1 : atI (ns.map V.int) (p : Int) = some (.int ns[p]) := atI_nat (by rw [List.getElem?_map, List.getElem?_eq_getElem hp]; rfl)
        refine ⟨.ref b, rfl, _, _, _, _, rfl, rfl, .of hb, rfl, .ref b, rfl, _, _, _, _, rfl, rfl, .of hb, rfl, _, _, _, _, rfl, rfl, .of ha, e1, ?_⟩
        refine ⟨.ref b, rfl, _, _, _, _, rfl, rfl, .of hb, rfl, _, _, rfl, rfl, .ref b, rfl, _, _, _, _, rfl, rfl, hb, rfl, ?_⟩
        refine ⟨.int ns[p], rfl, _, _, rfl, rfl, ⟨by decide, by decide, by decide⟩, _, _, rfl, rfl, _, rfl, ite2 (fun _ => ?_) (fun _ => ?_)⟩
        · refine ⟨.int ns[p], rfl, .ref b, rfl, _, _, _, _, rfl, rfl, upd_same, rfl, ?_⟩
          rw [upd_upd]
          exact k _ (p + 1) ns[p] salt
        · refine ⟨.ref b, rfl, _, _, _, _, rfl, rfl, .of upd_same, rfl, _, _, rfl, rfl, .inr (by decide), .int ns[p], rfl, _, _, rfl, rfl, (by dsimp only; decide), _, _, rfl, rfl, .inr (by decide), _, _, rfl, rfl, _, _, rfl, rfl, _, _, rfl, rfl, (by dsimp only; decide), .ref b, rfl, _, _, _, _, rfl, rfl, upd_same, rfl, ?_⟩
          rw [upd_upd]
          exact k _ (p + 1) big _
      · exact keep _
    · exact keep _
  case rest =>
    intro N σ H h
    obtain ⟨b, n, a, p, big, salt, x2, rfl, hb, hn, hd, k⟩ := h
    refine ⟨.ref b, rfl, _, _, _, _, rfl, rfl, .of hb, rfl, _, _, rfl, rfl, _, rfl, ite2 (fun _ => ?_) (fun _ => ?_)⟩
    · refine ⟨.ref b, rfl, _, _, _, _, rfl, rfl, .of hb, rfl, .int n, rfl, _, _, rfl, rfl, hd.1, ?_⟩
      refine ⟨.ref b, rfl, _, _, _, _, rfl, rfl, .of hb, rfl, .int n, rfl, _, _, rfl, rfl, hd, .ref b, rfl, _, _, _, _, rfl, rfl, hb, rfl, _, rfl, ?_⟩
      exact k _ _ salt (fmod_in hn).1 (fmod_in hn).2
    · refine ⟨.ref b, rfl, _, _, _, _, rfl, rfl, .of hb, rfl, ?_⟩
      refine ⟨.int salt, rfl, _, _, rfl, rfl, .inr (by decide), .int salt, rfl, _, _, rfl, rfl, ⟨by decide, by decide +kernel⟩, _, _, rfl, rfl, .inr (by decide), _, _, rfl, rfl, _, _, rfl, rfl, _, _, rfl, rfl, (by dsimp only; decide), .ref b, rfl, _, _, _, _, rfl, rfl, hb, rfl, ?_⟩
      refine ⟨.ref b, rfl, _, _, _, _, rfl, rfl, .of upd_same, rfl, _, _, rfl, rfl, ⟨by decide, by decide +kernel⟩, .ref b, rfl, _, _, _, _, rfl, rfl, .of upd_same, rfl, _, _, rfl, rfl, (by dsimp only; decide), _, _, rfl, rfl, .inr (by decide), _, _, rfl, rfl, .int n, rfl, _, _, rfl, rfl, hd.1, ?_⟩
      exact k _ big _ (fmod_in hn).1 (fmod_in hn).2
  · obtain ⟨F, ds, Q0, _, r, h, _⟩ := h
    obtain ⟨n, rfl, _⟩ := h
    rw [r.length]; rfl
  · obtain ⟨F0, ds, Q0, sb, r, ⟨n, rfl, hn, hn2, h⟩, q⟩ := h
    obtain ⟨b, rfl⟩ : ∃ b, vs = [.ref b, .int n] := by
      cases r with
      | cons r1 r2 =>
        cases r2 with
        | cons r2 r3 =>
          cases r3; cases r1; cases r2; exact ⟨_, rfl⟩
    cases r with
    | cons r1 r2 =>
    cases r1 with
    | bag hm =>
    obtain ⟨c, p, big, salt, hF, hb⟩ := (sb b _ hm).bag
    obtain ⟨ns, hc, hl⟩ := (sb c _ hF).scp
    refine ⟨b, n, c, ns, p, big, salt, rfl, hb, hc, fun x2 p' big' salt' => ?_⟩
    refine ⟨b, n, c, p', big', salt', x2, rfl, upd_same, hn, hn2, fun r big2 salt2 r0 r1 => ?_⟩
    · rw [upd_upd]
      refine q (.int r) _ F0 (.int r) ⟨Same.refl F0, fun d o e z => ?_, fun d o e => ?_⟩ (.int r) (h r r0 r1)
      · have hd : d ≠ b := fun y => by rw [y, hm] at e; cases e
        rw [upd_ne hd]; exact ⟨z, e⟩
      · by_cases hd : d = b
        · subst hd
          rw [hm] at e; cases e
          exact Stands.ofBag ⟨c, p', big2, salt2, hF, upd_same⟩
        · exact (sb d o e).mono (Same.refl F0) fun u y => by rw [upd_ne hd]; exact y

/-! ### the defs: names, scopes -/
abbrev n_is_spot : List Str := ["spot"]
theorem sc_is_spot : FnScope n_is_spot ["spot"] (defScope s_is_spot) := ⟨rfl, rfl, rfl, by decide +kernel, rfl, by decide +kernel, by decide +kernel⟩
abbrev n_need_spot : List Str := ["spot"]
theorem sc_need_spot : FnScope n_need_spot ["spot"] (defScope s_need_spot) := ⟨rfl, rfl, rfl, by decide +kernel, rfl, by decide +kernel, by decide +kernel⟩
abbrev n_need_stroke : List Str := ["stroke"]
theorem sc_need_stroke : FnScope n_need_stroke ["stroke"] (defScope s_need_stroke) := ⟨rfl, rfl, rfl, by decide +kernel, rfl, by decide +kernel, by decide +kernel⟩
abbrev n_law_of : List Str := ["_law_bag_here", "_law_things"]
theorem sc_law_of : FnScope n_law_of ["_law_bag_here", "_law_things"] (defScope s_law_of) := ⟨rfl, rfl, rfl, by decide +kernel, rfl, by decide +kernel, by decide +kernel⟩
abbrev n_law_like : List Str := ["_law_found", "_law_due", "_law_k"]
theorem sc_law_like : FnScope n_law_like ["_law_found", "_law_due"] (defScope s_law_like) := ⟨rfl, rfl, rfl, by decide +kernel, rfl, by decide +kernel, by decide +kernel⟩
abbrev n_law_refused : List Str := ["_law_act", "_law_found", "e"]
theorem sc_law_refused : FnScope n_law_refused ["_law_act"] (defScope s_law_refused) := ⟨rfl, rfl, rfl, by decide +kernel, rfl, by decide +kernel, by decide +kernel⟩
abbrev n_law_stroke_word : List Str := ["_law_stroke", "_law_spot"]
theorem sc_law_stroke_word : FnScope n_law_stroke_word ["_law_stroke"] (defScope s_law_stroke_word) := ⟨rfl, rfl, rfl, by decide +kernel, rfl, by decide +kernel, by decide +kernel⟩
abbrev n_law : List Str := ["_law_script", "_law_bag_here", "_law_turn", "_law_some", "_law_stroke", "_law_k", ""]
theorem sc_law : FnScope n_law ["_law_script"] (defScope s_law) := ⟨rfl, rfl, rfl, by decide +kernel, rfl, by decide +kernel, by decide +kernel⟩
/-! ### each def keeps its reading -/
section
variable {P : Program} {w : World} {K : PySem.W.Frag} {mg : Str → Option Value} {base : Heap} {a : Addr} {fd : FuncData} {dvs : List V} {kws : List (Str × V)} {T : List (Addr × Str)}
theorem sc_DotError_i : FnScope ["self", "word"] ["self", "word"] (defScope s_DotError_i) := ⟨rfl, rfl, rfl, by decide +kernel, rfl, by decide +kernel, by decide +kernel⟩
theorem ok_DotError_i (hV : mg "ValueError" = none) (vV : PySem.W.findCls K (.type "ValueError") (.type "type") "__init__" = some (.val (.builtin "ValueError.__init__"))) (F : FunD K "__init__" "DotError.__init__" (defArgs s_DotError_i) (defBody s_DotError_i) (defScope s_DotError_i) [] [] a fd) : FnOk P w K mg base CX0 1 a fd ["self", "word"] (spI1 K) :=
  mk_I1 F sc_DotError_i fun cdv A outer s H E => pss_cons (ps_expr (pe_veinit rfl hV vV (pa_cons (pv 0) (pa_cons (pv 1) pa_nil)))) (pss_one (ps_ost (pv 0) (pv 1)))
theorem sc_BadSpot_i : FnScope ["self", "spot"] ["self", "spot"] (defScope s_BadSpot_i) := ⟨rfl, rfl, rfl, by decide +kernel, rfl, by decide +kernel, by decide +kernel⟩
theorem ok_BadSpot_i {D f0 : Addr} {fd0 : FuncData} (hm : mg "DotError" = some (.ref D)) (N : IniC K D f0) (F0 : FnOk P w K mg base CX0 1 f0 fd0 ["self", "word"] (spI1 K)) (hb0 : Binds K fd0 ["self", "word"] []) (F : FunD K "__init__" "BadSpot.__init__" (defArgs s_BadSpot_i) (defBody s_BadSpot_i) (defScope s_BadSpot_i) [] [] a fd) : FnOk P w K mg base CX0 2 a fd ["self", "spot"] (spI3 K "BadSpot" "spot") :=
  mk_I3 (k := 1) F sc_BadSpot_i fun cdv A outer s H E hr => pss_cons (ps_expr (pe_bini rfl hm N F0 hr hb0 L2.pass0 (pa_cons (pv 0) (pa_cons pe_str pa_nil)))) (pss_one (ps_ost (pv 0) (pv 1)))
theorem sc_BadStroke_i : FnScope ["self", "stroke"] ["self", "stroke"] (defScope s_BadStroke_i) := ⟨rfl, rfl, rfl, by decide +kernel, rfl, by decide +kernel, by decide +kernel⟩
theorem ok_BadStroke_i {D f0 : Addr} {fd0 : FuncData} (hm : mg "DotError" = some (.ref D)) (N : IniC K D f0) (F0 : FnOk P w K mg base CX0 1 f0 fd0 ["self", "word"] (spI1 K)) (hb0 : Binds K fd0 ["self", "word"] []) (F : FunD K "__init__" "BadStroke.__init__" (defArgs s_BadStroke_i) (defBody s_BadStroke_i) (defScope s_BadStroke_i) [] [] a fd) : FnOk P w K mg base CX0 2 a fd ["self", "stroke"] (spI3 K "BadStroke" "stroke") :=
  mk_I3 (k := 1) F sc_BadStroke_i fun cdv A outer s H E hr => pss_cons (ps_expr (pe_bini rfl hm N F0 hr hb0 L2.pass0 (pa_cons (pv 0) (pa_cons pe_str pa_nil)))) (pss_one (ps_ost (pv 0) (pv 1)))
/-- what a class says that is caught -/
structure Ct (K : PySem.W.Frag) (mg : Str → Option Value) (n : Str) (no gs : List Str) : Prop where
  gl : mg n = some (.ref (He.ga K n))
  c : ClsD K n gs
  yes : PySem.W.exmOne K (.ref (He.ga K n)) (.ref (He.ga K n)) = some true
  no : ∀ m ∈ no, PySem.W.exmOne K (.ref (He.ga K m)) (.ref (He.ga K n)) = some false
theorem ok_is_spot (B : Bf mg)   (F : FunD K "is_spot" "is_spot" (defArgs s_is_spot) (defBody s_is_spot) (defScope s_is_spot) dvs [] a fd) : FnOk P w K mg base CX0 1 a fd ["spot"] (spD K c_is_spot) := by
  refine fn_okD (k := 0) F sc_is_spot fun cdv A outer s H E hr => ?_
  exact (pds_one (pds_ret (pd_and (pd_chain (op_le.or (op_leX (hu64 hr))) (opD_or od_le od_ord) (op_le.or (op_leX (hu64 hr))) (opD_or od_le od_ord) (pd_neg (pd_gint B.c_FAR)) (pd_item (pd_var (pv 0)) pd_int) (pd_gint B.c_FAR)) (pd_one (pd_chain (op_le.or (op_leX (hu64 hr))) (opD_or od_le od_ord) (op_le.or (op_leX (hu64 hr))) (opD_or od_le od_ord) (pd_neg (pd_gint B.c_FAR)) (pd_item (pd_var (pv 0)) pd_int) (pd_gint B.c_FAR))))))
theorem ok_need_spot (B : Bf mg) (G_is_spot : Gd P w K mg base "is_spot" 1 [] c_is_spot)  (F : FunD K "need_spot" "need_spot" (defArgs s_need_spot) (defBody s_need_spot) (defScope s_need_spot) dvs [] a fd) : FnOk P w K mg base CX0 2 a fd ["spot"] (spD K c_need_spot) := by
  refine fn_okD (k := 1) F sc_need_spot fun cdv A outer s H E hr => ?_
  exact (pds_one (pds_if (pdt_not (pdt_val (pd_call G_is_spot (hr.mono (by decide)) (pda_cons (pd_var (pv 0)) pda_nil)))) (pds_one pds_never) pds_nil))
theorem ok_need_stroke (B : Bf mg) (G_need_spot : Gd P w K mg base "need_spot" 2 [] c_need_spot)  (F : FunD K "need_stroke" "need_stroke" (defArgs s_need_stroke) (defBody s_need_stroke) (defScope s_need_stroke) dvs [] a fd) : FnOk P w K mg base CX0 3 a fd ["stroke"] (spD K c_need_stroke) := by
  refine fn_okD (k := 2) F sc_need_stroke fun cdv A outer s H E hr => ?_
  exact (pds_cons (pds_expr (pd_call G_need_spot (hr.mono (by decide)) (pda_cons (pd_slice (pd_var (pv 0)) pdo_none (pdo_some pd_int)) pda_nil))) (pds_cons (pds_expr (pd_call G_need_spot (hr.mono (by decide)) (pda_cons (pd_slice (pd_var (pv 0)) (pdo_some pd_int) pdo_none) pda_nil))) (pds_one (pds_if (pdt_cmp (op_eqD hr.units) od_eq (nomark _) (pd_slice (pd_var (pv 0)) pdo_none (pdo_some pd_int)) (pd_slice (pd_var (pv 0)) (pdo_some pd_int) pdo_none)) (pds_one pds_never) pds_nil))))
theorem ok_law_of (B : Bf mg) (G_law_pull : Gd P w K mg base "_law_pull" 1 [] pullD)  (F : FunD K "_law_of" "_law_of" (defArgs s_law_of) (defBody s_law_of) (defScope s_law_of) dvs [] a fd) : FnOk P w K mg base CX0 2 a fd ["_law_bag_here", "_law_things"] (spD K c_law_of) := by
  refine fn_okD (k := 1) F sc_law_of fun cdv A outer s H E hr => ?_
  exact (pds_one (pds_ret (pd_item (pd_var (pv 1)) (pd_call G_law_pull (hr.mono (by decide)) (pda_cons (pd_var (pv 0)) (pda_cons (pd_cb call_len cd_len B.b_len (by decide +kernel) (pda_cons (pd_var (pv 1)) pda_nil)) pda_nil))))))
theorem ok_law_like (B : Bf mg) (hm : mg "_law_like" = some (.ref a)) (hb : Binds K fd ["_law_found", "_law_due"] [])   (F : FunD K "_law_like" "_law_like" (defArgs s_law_like) (defBody s_law_like) (defScope s_law_like) dvs [] a fd) : ∀ n, FnOk P w K mg base CX0 (n) a fd ["_law_found", "_law_due"] (spD K (c_law_like n))
  | 0 => ⟨fun vs H Q E h => (let ⟨_, _, _, _, _, z, _⟩ := h; z.elim), fun A outer s H args us vs Q E _ _ _ _ h => (let ⟨_, _, _, _, _, z, _⟩ := h; z.elim)⟩
  | n + 1 => by
    have G_self : Gd P w K mg base "_law_like" (n) [] (c_law_like n) := mkGd hm F.kp (ok_law_like B hm hb  F n) ⟨[], .nil, hb⟩ (fun _ => .nil)
    refine fn_okD (k := n) F sc_law_like fun cdv A outer s H E hr => ?_
    exact (pds_cons (pds_if (pdt_val (pd_isi "dict" (by decide +kernel) (by decide +kernel) B.b_isinstance B.b_dict (pd_var (pv 1)))) pdss_never pds_nil) (pds_cons (pds_if (pdt_w (pdw_or (pdt_cmp (op_neD hr.units) od_ne (nomark _) (pd_isi "tuple" (by decide +kernel) (by decide +kernel) B.b_isinstance B.b_tuple (pd_var (pv 1))) (pd_isi "tuple" (by decide +kernel) (by decide +kernel) B.b_isinstance B.b_tuple (pd_var (pv 0)))) (pdw_or1 (pdt_cmp (op_neD hr.units) od_ne (nomark _) (pd_isi "list" (by decide +kernel) (by decide +kernel) B.b_isinstance B.b_list (pd_var (pv 1))) (pd_isi "list" (by decide +kernel) (by decide +kernel) B.b_isinstance B.b_list (pd_var (pv 0))))))) (pds_one (pds_ret pd_bl)) pds_nil) (pds_cons (pds_if (pdt_not (pdt_val (pd_isi2 "tuple" "list" (by decide +kernel) (by decide +kernel) (by decide +kernel) (by decide +kernel) B.b_isinstance B.b_tuple B.b_list (pd_var (pv 1))))) (pds_one (pds_ret (pd_and (pd_cmp (op_eqD hr.units) od_eq (nomark _) (pd_isi "bool" (by decide +kernel) (by decide +kernel) B.b_isinstance B.b_bool (pd_var (pv 0))) (pd_isi "bool" (by decide +kernel) (by decide +kernel) B.b_isinstance B.b_bool (pd_var (pv 1)))) (pd_one (pd_cmp (op_eqD hr.units) od_eq (nomark _) (pd_var (pv 0)) (pd_var (pv 1))))))) pds_nil) (pds_one (pds_ret (pd_and (pd_cmp (op_eqD hr.units) od_eq (nomark _) (pd_cb call_len cd_len B.b_len (by decide +kernel) (pda_cons (pd_var (pv 0)) pda_nil)) (pd_cb call_len cd_len B.b_len (by decide +kernel) (pda_cons (pd_var (pv 1)) pda_nil))) (pd_one (pd_cb (cr_all rfl) cd_all B.b_all (by decide +kernel) (pda_cons (pd_lc (own := [("_law_k", 2)]) (rg_nm (by decide)) rfl sc_law_like.nd (pdi_range1 B.b_range (pda_cons (pd_cb call_len cd_len B.b_len (by decide +kernel) (pda_cons (pd_var (pv 1)) pda_nil)) pda_nil)) (blkOk_by (own := [("_law_k", 2)]) (N := n_law_like) (sc := defScope s_law_like) (by decide +kernel)) (fun _ _ _ _ _ => (pg_name (i := 2) sc_law_like.nd rfl (Or.inl rfl))) (fun _ _ _ _ _ => pdts_nil) (fun _ _ _ _ _ => (pd_call G_self hr (pda_cons (pd_item (pd_var (pv 0)) (pd_var (pv 2))) (pda_cons (pd_item (pd_var (pv 1)) (pd_var (pv 2))) pda_nil))))) pda_nil)))))))))
theorem ok_law_refused {k : Nat} (B : Bf mg) (hm : mg "_law_refused" = some (.ref a)) (hb : Binds K fd ["_law_act"] []) (C_BadSpot : Ct K mg "BadSpot" ["BadStroke"] ["word", "spot"]) (C_BadStroke : Ct K mg "BadStroke" ["BadSpot"] ["word", "stroke"]) (F : FunD K "_law_refused" "_law_refused" (defArgs s_law_refused) (defBody s_law_refused) (defScope s_law_refused) dvs [] a fd) : RefOk P w K mg base "_law_refused" "_law_act" "_law_found" "e" k c_law_refusedH :=
  ref_ok (k := k) F sc_law_refused hm hb (.inl rfl) (.inl rfl) (fun _ _ _ _ _ => .inl rfl) rfl rfl fun cdv A outer s H hr => (HdsD.cons (h := ⟨"BadSpot", _, 2, _⟩) rfl rfl ⟨rfl, by decide, .inl C_BadSpot.gl⟩ C_BadSpot.yes (fun m hm => C_BadSpot.no m hm) (fun a oe d pn hz hf => (psf_set (j := 1) sc_law_refused.nd rfl (Or.inl rfl) (pef_tup (paf_cons (pef_fld C_BadSpot.c.xf (C_BadSpot.c.no _ (by decide)) hz hf (pv 2)) (paf_cons (pef_fld C_BadSpot.c.xf (C_BadSpot.c.no _ (by decide)) hz hf (pv 2)) paf_nil))))) (HdsD.cons (h := ⟨"BadStroke", _, 2, _⟩) rfl rfl ⟨rfl, by decide, .inl C_BadStroke.gl⟩ C_BadStroke.yes (fun m hm => C_BadStroke.no m hm) (fun a oe d pn hz hf => (psf_set (j := 1) sc_law_refused.nd rfl (Or.inl rfl) (pef_tup (paf_cons (pef_fld C_BadStroke.c.xf (C_BadStroke.c.no _ (by decide)) hz hf (pv 2)) (paf_cons (pef_fld C_BadStroke.c.xf (C_BadStroke.c.no _ (by decide)) hz hf (pv 2)) paf_nil))))) HdsD.nil))
theorem ok_law_stroke_word (B : Bf mg)   (F : FunD K "_law_stroke_word" "_law_stroke_word" (defArgs s_law_stroke_word) (defBody s_law_stroke_word) (defScope s_law_stroke_word) dvs [] a fd) : FnOk P w K mg base CX0 1 a fd ["_law_stroke"] (spD K c_law_stroke_word) := by
  refine fn_okD (k := 0) F sc_law_stroke_word fun cdv A outer s H E hr => ?_
  exact (pds_cons (pds_for (vs := [1]) (rg_nm (by decide)) PassesOwn.never rfl (pdi_seq (pd_lst (pda_cons (pd_slice (pd_var (pv 0)) pdo_none (pdo_some pd_int)) (pda_cons (pd_slice (pd_var (pv 0)) (pdo_some pd_int) pdo_none) pda_nil)))) (pg_name (i := 1) sc_law_stroke_word.nd rfl (Or.inl rfl)) (pds_one (pds_if (pdt_w (pdw_or (pdt_cmp (op_lt.or (op_ltX (hu64 hr))) (opD_or od_lt od_ord) (nomark _) (pd_cb (callX_min1 rfl (hu65 hr)) cd_mm1 B.b_min (by decide +kernel) (pda_cons (pd_var (pv 1)) pda_nil)) (pd_neg pd_int)) (pdw_or1 (pdt_cmp (op_gt.or (op_gtX (hu64 hr))) (opD_or od_gt od_ord) (nomark _) (pd_cb (callX_max1 rfl (hu65 hr)) cd_mm1 B.b_max (by decide +kernel) (pda_cons (pd_var (pv 1)) pda_nil)) pd_int)))) (pds_one (pds_ret (pd_tup (pda_cons pd_str (pda_cons (pd_var (pv 1)) pda_nil))))) pds_nil))) (pds_one (pds_ret (pd_if (pdt_cmp (op_eqD hr.units) od_eq (nomark _) (pd_slice (pd_var (pv 0)) pdo_none (pdo_some pd_int)) (pd_slice (pd_var (pv 0)) (pdo_some pd_int) pdo_none)) (pd_tup (pda_cons pd_str (pda_cons (pd_var (pv 0)) pda_nil))) pd_non))))
theorem ok_need_spot_xx (B : Bf mg) (G_is_spot : Gd P w K mg base "is_spot" 1 [] c_is_spot) (E_BadSpot : Rs1 P w K mg base "BadSpot" "spot") (F : FunD K "need_spot" "need_spot" (defArgs s_need_spot) (defBody s_need_spot) (defScope s_need_spot) dvs [] a fd) : FnOk P w K mg base (L2.CX P w) 4 a fd ["spot"] (spDX K c_need_spot_xxX) := by
  refine fn_okX (k := 3) F sc_need_spot fun cdv A outer s H E hr tk => ?_
  exact (pdx_one (pdx_if (pdt_not (pdt_val (pd_call G_is_spot (hr.mono (by decide)) (pda_cons (pd_var (pv 0)) pda_nil)))) (pdx_one (pdx_rs1 E_BadSpot tk (hr.mono (by decide)) (pd_var (pv 0)))) pdxs_nil))
theorem ok_need_stroke_xx (B : Bf mg) (G_need_spot_xx : GdX P w K mg base "need_spot" 4 [] c_need_spot_xxX) (E_BadStroke : Rs1 P w K mg base "BadStroke" "stroke") (F : FunD K "need_stroke" "need_stroke" (defArgs s_need_stroke) (defBody s_need_stroke) (defScope s_need_stroke) dvs [] a fd) : FnOk P w K mg base (L2.CX P w) 5 a fd ["stroke"] (spDX K c_need_stroke_xxX) := by
  refine fn_okX (k := 4) F sc_need_stroke fun cdv A outer s H E hr tk => ?_
  exact (pdx_cons (pdx_drop tk G_need_spot_xx (hr.mono (by decide)) (pda_cons (pd_slice (pd_var (pv 0)) pdo_none (pdo_some pd_int)) pda_nil)) (pdx_cons (pdx_drop tk G_need_spot_xx (hr.mono (by decide)) (pda_cons (pd_slice (pd_var (pv 0)) (pdo_some pd_int) pdo_none) pda_nil)) (pdx_one (pdx_if (pdt_cmp (op_eqD hr.units) od_eq (nomark _) (pd_slice (pd_var (pv 0)) pdo_none (pdo_some pd_int)) (pd_slice (pd_var (pv 0)) (pdo_some pd_int) pdo_none)) (pdx_one (pdx_rs1 E_BadStroke tk (hr.mono (by decide)) (pd_var (pv 0)))) pdxs_nil))))
theorem ok_law (B : Bf mg) (G_law_bag : Gd P w K mg base "_law_bag" 1 [] bagD) (G_law_pull : Gd P w K mg base "_law_pull" 1 [] pullD) (G_law_of : Gd P w K mg base "_law_of" 2 [] c_law_of) (G_law_stroke_word : Gd P w K mg base "_law_stroke_word" 1 [] c_law_stroke_word) (G_need_stroke_xx : GdX P w K mg base "need_stroke" 5 [] c_need_stroke_xxX) (G_law_refused : RefOk P w K mg base "_law_refused" "_law_act" "_law_found" "e" (5 + 1) c_law_refusedH) (G_law_like : Gd P w K mg base "_law_like" 8 [] (c_law_like 8)) (G_need_stroke : Gd P w K mg base "need_stroke" 3 [] c_need_stroke) (LH : LamH K mg base a T ((("law" : Str) ++ ".<locals>.") ++ "<lambda>")) (F : FunD K "law" "law" (defArgs s_law) (defBody s_law) (defScope s_law) dvs [] a fd) : FnOk P w K mg base CX0 10 a fd ["_law_script"] (spT K T (c_law_k05 T)) := by
  obtain ⟨c, P0, hc, TB, hT⟩ := LH
  refine fn_okT (k := 9) F sc_law (by decide) fun cdv A outer s H E hcd hl hr => ?_
  have hcode : cdv = .ref c := by
    obtain ⟨oc, od, osl, lk, e⟩ := hl
    exact e.symm.trans (hc _ _ _ _ lk)
  exact (pds_cons (pds_set (i := 1) sc_law.nd rfl (Or.inr rfl) (pd_call G_law_bag (hr.mono (by decide)) (pda_cons (pd_var (pv 0)) pda_nil))) (pds_cons (pds_for (vs := [2]) (rg_nm (by decide)) PassesOwn.never rfl (pdi_range1 B.b_range (pda_cons pd_int pda_nil)) (pg_name (i := 2) sc_law.nd rfl (Or.inl rfl)) (pds_cons (pds_setLc (i := 3) (own := [("_law_k", 5)]) (rg_nm (by decide)) rfl sc_law.nd rfl rfl (sw_true rfl rfl rfl (by decide +kernel)) (pdi_range1 B.b_range (pda_cons pd_int pda_nil)) (blkOk_by (own := [("_law_k", 5)]) (N := n_law) (sc := defScope s_law) (by decide +kernel)) (fun _ _ _ _ _ => (pg_name (i := 5) sc_law.nd rfl (Or.inl rfl))) (fun _ _ _ _ _ => pdts_nil) (fun _ _ _ _ _ => (pd_call G_law_of (hr.mono (by decide)) (pda_cons (pd_var (pv 1)) (pda_cons (pd_lst (pda_cons (pd_neg pd_int) (pda_cons (pd_neg pd_int) (pda_cons pd_int (pda_cons pd_int (pda_cons (pd_sub (pd_call G_law_pull (hr.mono (by decide)) (pda_cons (pd_var (pv 1)) (pda_cons pd_int pda_nil))) pd_int) (pda_cons pd_int pda_nil))))))) pda_nil))))) (pds_cons (pds_set (i := 4) sc_law.nd rfl (Or.inr rfl) (pd_ct call_tuple_of cd_tuple B.b_tuple (by decide +kernel) (pda_cons (pd_call G_law_of (hr.mono (by decide)) (pda_cons (pd_var (pv 1)) (pda_cons (pd_lst (pda_cons (pd_var (pv 3)) (pda_cons (pd_var (pv 3)) (pda_cons (pd_add (pd_slice (pd_var (pv 3)) pdo_none (pdo_some pd_int)) (pd_slice (pd_var (pv 3)) pdo_none (pdo_some pd_int))) pda_nil)))) pda_nil))) pda_nil))) (pds_one (pds_if (pdt_not (pdt_val (pd_call G_law_like (hr.mono (by decide)) (pda_cons (pd_ref (k := 5) (j := 6) rfl G_law_refused hT TB hcode (hr.mono (by decide)) (LamX.lamS_by (sc := defScope s_law) (by decide +kernel)) rfl (fun _ _ _ _ _ => rfl) (fun _ _ _ _ _ _ _ hr tk => pdex_call tk G_need_stroke_xx (hr.mono (by decide)) (pda_cons (pd_var (pv 4)) pda_nil))) (pda_cons (pd_call G_law_stroke_word (hr.mono (by decide)) (pda_cons (pd_var (pv 4)) pda_nil)) pda_nil))))) (pds_one (pds_ret pd_bl)) pds_nil))))) (pds_one (pds_ret (pd_cmp op_isN od_isN (nomark _) (pd_call G_need_stroke (hr.mono (by decide)) (pda_cons (pd_tup (pda_cons pd_int (pda_cons pd_int (pda_cons pd_int (pda_cons pd_int pda_nil))))) pda_nil)) pd_non)))))
end
end K05

namespace K05
open PySem PySem.Spec PyProof.Rows L2 DV
/-! ### the head: facts by names, the run -/
def d_is_spot : He.DefD := ⟨("is_spot", none), "is_spot", "is_spot", defArgs s_is_spot, defBody s_is_spot, defScope s_is_spot, [], []⟩
def d_need_spot : He.DefD := ⟨("need_spot", none), "need_spot", "need_spot", defArgs s_need_spot, defBody s_need_spot, defScope s_need_spot, [], []⟩
def d_need_stroke : He.DefD := ⟨("need_stroke", none), "need_stroke", "need_stroke", defArgs s_need_stroke, defBody s_need_stroke, defScope s_need_stroke, [], []⟩
def d_law_bag : He.DefD := ⟨("_law_bag", none), "_law_bag", "_law_bag", defArgs s_law_bag, defBody s_law_bag, defScope s_law_bag, [], []⟩
def d_law_pull : He.DefD := ⟨("_law_pull", none), "_law_pull", "_law_pull", defArgs s_law_pull, defBody s_law_pull, defScope s_law_pull, [], []⟩
def d_law_of : He.DefD := ⟨("_law_of", none), "_law_of", "_law_of", defArgs s_law_of, defBody s_law_of, defScope s_law_of, [], []⟩
def d_law_like : He.DefD := ⟨("_law_like", none), "_law_like", "_law_like", defArgs s_law_like, defBody s_law_like, defScope s_law_like, [], []⟩
def d_law_refused : He.DefD := ⟨("_law_refused", none), "_law_refused", "_law_refused", defArgs s_law_refused, defBody s_law_refused, defScope s_law_refused, [], []⟩
def d_law_stroke_word : He.DefD := ⟨("_law_stroke_word", none), "_law_stroke_word", "_law_stroke_word", defArgs s_law_stroke_word, defBody s_law_stroke_word, defScope s_law_stroke_word, [], []⟩
def d_law : He.DefD := ⟨("law", none), "law", "law", defArgs s_law, defBody s_law, defScope s_law, [], []⟩
def d_DotError_i : He.DefD := ⟨("DotError", some "__init__"), "__init__", "DotError.__init__", defArgs s_DotError_i, defBody s_DotError_i, defScope s_DotError_i, [], []⟩
def d_BadSpot_i : He.DefD := ⟨("BadSpot", some "__init__"), "__init__", "BadSpot.__init__", defArgs s_BadSpot_i, defBody s_BadSpot_i, defScope s_BadSpot_i, [], []⟩
def d_BadStroke_i : He.DefD := ⟨("BadStroke", some "__init__"), "__init__", "BadStroke.__init__", defArgs s_BadStroke_i, defBody s_BadStroke_i, defScope s_BadStroke_i, [], []⟩
def fnL : List He.DefD := [d_is_spot, d_need_spot, d_need_stroke, d_law_bag, d_law_pull, d_law_of, d_law_like, d_law_refused, d_law_stroke_word, d_law, d_DotError_i, d_BadSpot_i, d_BadStroke_i]
def faL : List He.Fa := [.glo "is_spot", .glo "need_spot", .glo "need_stroke", .glo "_law_bag", .glo "_law_pull", .glo "_law_of", .glo "_law_like", .glo "_law_refused", .glo "_law_stroke_word", .glo "law", .free "ValueError", .free "all", .free "bool", .free "dict", .free "isinstance", .free "len", .free "list", .free "max", .free "min", .free "range", .free "tuple", .int "FAR" 40, .glo "DotError", .glo "BadSpot", .glo "BadStroke"]
def tfL : List (He.Defn × Str) := [(("law", none), (("law" : Str) ++ ".<locals>.") ++ "<lambda>")]
def exK (K : PySem.W.Frag) : Bool := allB [vveB K, clsB K "DotError" [], clsB K "BadSpot" ["word", "spot"], clsB K "BadStroke" ["word", "stroke"], exmB K "BadSpot" "BadSpot" true, exmB K "BadStroke" "BadSpot" false, exmB K "BadStroke" "BadStroke" true, exmB K "BadSpot" "BadStroke" false]
abbrev R : PySem.W.OpenRow := PySem.W.OpenLaw.row PySem.Challenge.rw_dotmoor_k05_strokes_refused
abbrev hk : PySem.W.Hook := hookZ 6 faL fnL (tfL.map (·.1)) exK
def ob (s : PySem.W.SharedT) : AlY := obsZ 6 faL fnL (tfL.map (·.1)) exK (HandSHeadRun.getT s)
theorem ob_eq (s : PySem.W.SharedT) : ob s = hk.obs s.abs := obsZ_eq (HandSHeadRun.getT_eq s)
set_option maxHeartbeats 0 in
theorem run (w : World) : HandSHeadRun.RunEq R (PySem.W.view R.prog [17]) hk ob 1500 ["DotError", "BadSpot", "BadStroke", "FAR", "is_spot", "need_spot", "need_stroke", "_law_bag", "_law_pull", "_law_of", "_law_like", "_law_refused", "_law_stroke_word"] w := by
  intro os
  kernel_rfl
theorem facts {P : Program} {w : World} {K : PySem.W.Frag} {h : Heap} {mg : Str → Option Value} {f : Addr} (X : K.In h) (G : h.Ns mainGlobals mg) (hfa : mg ("law" : Str) = some (.ref f)) (c0 : SaysZ faL fnL (tfL.map (·.1)) exK h K) :
    ∃ fd : FuncData, (∀ (s : Shared) (v : Value), BindsTo s fd ⟨[v], []⟩ [("_law_script", v)]) ∧ ∀ base : Heap, K.In base → base.Ns mainGlobals mg → (∀ p ∈ tfL.map (fun r => He.cT K r.1), LamX.TabB base mg p.1 p.2) → FnOk P w K mg base CX0 10 f fd ["_law_script"] (spT K (tabsT K tfL) (c_law_k05 (tabsT K tfL))) := by
  have c : He.SaysD faL fnL K := c0.c
  have cx : allB [vveB K, clsB K "DotError" [], clsB K "BadSpot" ["word", "spot"], clsB K "BadStroke" ["word", "stroke"], exmB K "BadSpot" "BadSpot" true, exmB K "BadStroke" "BadSpot" false, exmB K "BadStroke" "BadStroke" true, exmB K "BadSpot" "BadStroke" false] = true := c0.x
  have B : Bf mg := ⟨He.free_ok X G (c.fact 10 (f := .free "ValueError") rfl), He.free_ok X G (c.fact 11 (f := .free "all") rfl), He.free_ok X G (c.fact 12 (f := .free "bool") rfl), He.free_ok X G (c.fact 13 (f := .free "dict") rfl), He.free_ok X G (c.fact 14 (f := .free "isinstance") rfl), He.free_ok X G (c.fact 15 (f := .free "len") rfl), He.free_ok X G (c.fact 16 (f := .free "list") rfl), He.free_ok X G (c.fact 17 (f := .free "max") rfl), He.free_ok X G (c.fact 18 (f := .free "min") rfl), He.free_ok X G (c.fact 19 (f := .free "range") rfl), He.free_ok X G (c.fact 20 (f := .free "tuple") rfl), He.int_ok X G (c.fact 21 (f := .int "FAR" 40) rfl)⟩
  obtain ⟨fd_is_spot, F_is_spot⟩ := c.def_ 0 (d := d_is_spot) rfl
  obtain ⟨fd_need_spot, F_need_spot⟩ := c.def_ 1 (d := d_need_spot) rfl
  obtain ⟨fd_need_stroke, F_need_stroke⟩ := c.def_ 2 (d := d_need_stroke) rfl
  obtain ⟨fd_law_bag, F_law_bag⟩ := c.def_ 3 (d := d_law_bag) rfl
  obtain ⟨fd_law_pull, F_law_pull⟩ := c.def_ 4 (d := d_law_pull) rfl
  obtain ⟨fd_law_of, F_law_of⟩ := c.def_ 5 (d := d_law_of) rfl
  obtain ⟨fd_law_like, F_law_like⟩ := c.def_ 6 (d := d_law_like) rfl
  obtain ⟨fd_law_refused, F_law_refused⟩ := c.def_ 7 (d := d_law_refused) rfl
  obtain ⟨fd_law_stroke_word, F_law_stroke_word⟩ := c.def_ 8 (d := d_law_stroke_word) rfl
  obtain ⟨fd_law, F_law⟩ := c.def_ 9 (d := d_law) rfl
  have M_DotError : mg "DotError" = some (.ref (He.ga K "DotError")) := He.glo_ok X G (c.fact 22 (f := .glo "DotError") rfl)
  have D_DotError := clsB_ok (allB_at cx 1)
  have M_BadSpot : mg "BadSpot" = some (.ref (He.ga K "BadSpot")) := He.glo_ok X G (c.fact 23 (f := .glo "BadSpot") rfl)
  have D_BadSpot := clsB_ok (allB_at cx 2)
  have M_BadStroke : mg "BadStroke" = some (.ref (He.ga K "BadStroke")) := He.glo_ok X G (c.fact 24 (f := .glo "BadStroke") rfl)
  have D_BadStroke := clsB_ok (allB_at cx 3)
  obtain ⟨fd_DotError_i, F_DotError_i⟩ := c.def_ 10 (d := d_DotError_i) rfl
  obtain ⟨fd_BadSpot_i, F_BadSpot_i⟩ := c.def_ 11 (d := d_BadSpot_i) rfl
  obtain ⟨fd_BadStroke_i, F_BadStroke_i⟩ := c.def_ 12 (d := d_BadStroke_i) rfl
  have e := hfa.symm.trans (He.glo_ok X G (c.fact 9 (f := .glo "law") rfl))
  cases e
  have bl := FunD.bindsA (ps := ["_law_script"]) F_law fun _ _ _ _ _ _ us hl => match us, hl with | [_], _ => rfl
  refine ⟨fd_law, fun s v => bl s [v] rfl, fun base _ _ TBs => ?_⟩
  have LH_law := lamH_of (tf := tfL) (p := ("law", none)) (q := (("law" : Str) ++ ".<locals>.") ++ "<lambda>") F_law (by first | exact List.mem_cons_self | decide) TBs
  have b_DotError_i : Binds K fd_DotError_i ["self", "word"] [] := FunD.bindsN F_DotError_i fun _ _ _ _ _ _ us hl => match us, hl with | [_, _], _ => rfl
  have O_DotError_i := ok_DotError_i (P := P) (w := w) (base := base) (mg := mg) B.b_ValueError (vveB_ok (allB_at cx 0)) F_DotError_i
  have b_BadSpot_i : Binds K fd_BadSpot_i ["self", "spot"] [] := FunD.bindsN F_BadSpot_i fun _ _ _ _ _ _ us hl => match us, hl with | [_, _], _ => rfl
  have O_BadSpot_i := ok_BadSpot_i (P := P) (w := w) (base := base) M_DotError D_DotError.ini O_DotError_i b_DotError_i F_BadSpot_i
  have E_BadSpot : Rs1 P w K mg base "BadSpot" "spot" := ⟨_, _, ⟨M_BadSpot, D_BadSpot.ox, D_BadSpot.ini, D_BadSpot.no _ (by decide)⟩, D_BadSpot.no _ (by decide), O_BadSpot_i, b_BadSpot_i⟩
  have b_BadStroke_i : Binds K fd_BadStroke_i ["self", "stroke"] [] := FunD.bindsN F_BadStroke_i fun _ _ _ _ _ _ us hl => match us, hl with | [_, _], _ => rfl
  have O_BadStroke_i := ok_BadStroke_i (P := P) (w := w) (base := base) M_DotError D_DotError.ini O_DotError_i b_DotError_i F_BadStroke_i
  have E_BadStroke : Rs1 P w K mg base "BadStroke" "stroke" := ⟨_, _, ⟨M_BadStroke, D_BadStroke.ox, D_BadStroke.ini, D_BadStroke.no _ (by decide)⟩, D_BadStroke.no _ (by decide), O_BadStroke_i, b_BadStroke_i⟩
  have C_BadSpot : Ct K mg "BadSpot" ["BadStroke"] ["word", "spot"] := ⟨M_BadSpot, D_BadSpot, exmB_ok (allB_at cx 4), fun m hm => by
      simp only [List.mem_cons, List.mem_nil_iff, or_false, List.not_mem_nil] at hm
      subst hm
      exact exmB_ok (allB_at cx 5)⟩
  have C_BadStroke : Ct K mg "BadStroke" ["BadSpot"] ["word", "stroke"] := ⟨M_BadStroke, D_BadStroke, exmB_ok (allB_at cx 6), fun m hm => by
      simp only [List.mem_cons, List.mem_nil_iff, or_false, List.not_mem_nil] at hm
      subst hm
      exact exmB_ok (allB_at cx 7)⟩
  have O_law_bag := ok_law_bag (P := P) (w := w) (base := base) B  F_law_bag
  have G_law_bag : Gd P w K mg base "_law_bag" 1 [] bagD := mkGd (He.glo_ok X G (c.fact 3 (f := .glo "_law_bag") rfl)) F_law_bag.kp O_law_bag ⟨[], .nil, FunD.bindsN F_law_bag fun _ _ _ _ _ _ us hl => match us, hl with | [_], _ => rfl⟩ (fun _ => .nil)
  have O_law_pull := ok_law_pull (P := P) (w := w) (base := base) B  F_law_pull
  have G_law_pull : Gd P w K mg base "_law_pull" 1 [] pullD := mkGd (He.glo_ok X G (c.fact 4 (f := .glo "_law_pull") rfl)) F_law_pull.kp O_law_pull ⟨[], .nil, FunD.bindsN F_law_pull fun _ _ _ _ _ _ us hl => match us, hl with | [_, _], _ => rfl⟩ (fun _ => .nil)
  have O_is_spot := ok_is_spot (P := P) (w := w) (base := base) B   F_is_spot
  have G_is_spot : Gd P w K mg base "is_spot" 1 [] c_is_spot := mkGd (He.glo_ok X G (c.fact 0 (f := .glo "is_spot") rfl)) F_is_spot.kp O_is_spot ⟨[], .nil, FunD.bindsN F_is_spot fun _ _ _ _ _ _ us hl => match us, hl with | [_], _ => rfl⟩ (fun _ => .nil)
  have O_need_spot := ok_need_spot (P := P) (w := w) (base := base) B G_is_spot  F_need_spot
  have G_need_spot : Gd P w K mg base "need_spot" 2 [] c_need_spot := mkGd (He.glo_ok X G (c.fact 1 (f := .glo "need_spot") rfl)) F_need_spot.kp O_need_spot ⟨[], .nil, FunD.bindsN F_need_spot fun _ _ _ _ _ _ us hl => match us, hl with | [_], _ => rfl⟩ (fun _ => .nil)
  have O_need_stroke := ok_need_stroke (P := P) (w := w) (base := base) B G_need_spot  F_need_stroke
  have G_need_stroke : Gd P w K mg base "need_stroke" 3 [] c_need_stroke := mkGd (He.glo_ok X G (c.fact 2 (f := .glo "need_stroke") rfl)) F_need_stroke.kp O_need_stroke ⟨[], .nil, FunD.bindsN F_need_stroke fun _ _ _ _ _ _ us hl => match us, hl with | [_], _ => rfl⟩ (fun _ => .nil)
  have O_law_of := ok_law_of (P := P) (w := w) (base := base) B G_law_pull  F_law_of
  have G_law_of : Gd P w K mg base "_law_of" 2 [] c_law_of := mkGd (He.glo_ok X G (c.fact 5 (f := .glo "_law_of") rfl)) F_law_of.kp O_law_of ⟨[], .nil, FunD.bindsN F_law_of fun _ _ _ _ _ _ us hl => match us, hl with | [_, _], _ => rfl⟩ (fun _ => .nil)
  have b_law_like : Binds K fd_law_like ["_law_found", "_law_due"] [] := FunD.bindsN F_law_like fun _ _ _ _ _ _ us hl => match us, hl with | [_, _], _ => rfl
  have O_law_like := ok_law_like (P := P) (w := w) (base := base) B (He.glo_ok X G (c.fact 6 (f := .glo "_law_like") rfl)) b_law_like  F_law_like 8
  have G_law_like : Gd P w K mg base "_law_like" 8 [] (c_law_like 8) := mkGd (He.glo_ok X G (c.fact 6 (f := .glo "_law_like") rfl)) F_law_like.kp O_law_like ⟨[], .nil, FunD.bindsN F_law_like fun _ _ _ _ _ _ us hl => match us, hl with | [_, _], _ => rfl⟩ (fun _ => .nil)
  have b_law_refused : Binds K fd_law_refused ["_law_act"] [] := FunD.bindsN F_law_refused fun _ _ _ _ _ _ us hl => match us, hl with | [_], _ => rfl
  have G_law_refused : RefOk P w K mg base "_law_refused" "_law_act" "_law_found" "e" (5 + 1) c_law_refusedH := ok_law_refused (P := P) (w := w) (base := base) B (He.glo_ok X G (c.fact 7 (f := .glo "_law_refused") rfl)) b_law_refused C_BadSpot C_BadStroke F_law_refused
  have O_law_stroke_word := ok_law_stroke_word (P := P) (w := w) (base := base) B   F_law_stroke_word
  have G_law_stroke_word : Gd P w K mg base "_law_stroke_word" 1 [] c_law_stroke_word := mkGd (He.glo_ok X G (c.fact 8 (f := .glo "_law_stroke_word") rfl)) F_law_stroke_word.kp O_law_stroke_word ⟨[], .nil, FunD.bindsN F_law_stroke_word fun _ _ _ _ _ _ us hl => match us, hl with | [_], _ => rfl⟩ (fun _ => .nil)
  have O_need_spot_xx := ok_need_spot_xx (P := P) (w := w) (base := base) B G_is_spot E_BadSpot F_need_spot
  have G_need_spot_xx : GdX P w K mg base "need_spot" 4 [] c_need_spot_xxX := mkGdX (He.glo_ok X G (c.fact 1 (f := .glo "need_spot") rfl)) F_need_spot.kp O_need_spot_xx ⟨[], .nil, FunD.bindsN F_need_spot fun _ _ _ _ _ _ us hl => match us, hl with | [_], _ => rfl⟩ (fun _ => .nil)
  have O_need_stroke_xx := ok_need_stroke_xx (P := P) (w := w) (base := base) B G_need_spot_xx E_BadStroke F_need_stroke
  have G_need_stroke_xx : GdX P w K mg base "need_stroke" 5 [] c_need_stroke_xxX := mkGdX (He.glo_ok X G (c.fact 2 (f := .glo "need_stroke") rfl)) F_need_stroke.kp O_need_stroke_xx ⟨[], .nil, FunD.bindsN F_need_stroke fun _ _ _ _ _ _ us hl => match us, hl with | [_], _ => rfl⟩ (fun _ => .nil)
  exact ok_law (T := tabsT K tfL) B G_law_bag G_law_pull G_law_of G_law_stroke_word G_need_stroke_xx G_law_refused G_law_like G_need_stroke LH_law F_law
end K05

namespace DV
open PySem PySem.Spec PyProof.Rows L2
local macro_rules | `(tactic| walk_at "dv") => `(tactic| simp (config := { failIfUnchanged := false, implicitDefEqProofs := false }) only [↓k_for_q, ↓e_for_n, ↓e_for_c, ↓k_sAppend1_q, ↓k_sAppend_q, ↓k_sRetOwn_q, ↓k_sPar2_q, ↓k_sPar_q, ↓k_sPar33_q, ↓k_sPar3_q, ↓k_some_q, ↓k_asI_q, ↓k_asS_q, ↓k_rng1_q, ↓k_one_q, ↓k_rng22_q, ↓k_rng21_q, ↓k_rng2_q, ↓k_two_q, ↓k_non_q, ↓k_no_q, ↓k_sSet_q, ↓k_sAsg_q, ↓k_sAsg2_q, ↓k_sIf_q, ↓k_sDrop_q, ↓k_sOwn_q, ↓k_sFor_q, ↓k_gs_q, ↓k_dOp2_q, ↓k_dOp_q, ↓k_dCh4_q, ↓k_dCh3_q, ↓k_dCh2_q, ↓k_dCh1_q, ↓k_dUn_q, ↓k_dTest_q, ↓k_dAnd_q, ↓k_dOr_q, ↓k_dNot_q, ↓k_dAndV_q, ↓k_dOrV_q, ↓k_dIf_q, ↓k_dCons2_q, ↓k_dCons_q, ↓k_dTup_q, ↓k_dLst_q, ↓k_dCall_q, ↓k_dIsi_q, ↓k_dIsi2_q, ↓k_dSl3_q, ↓k_dSl2_q, ↓k_dSl_q, ↓k_dRev_q, ↓k_dLc_q, ↓k_dB_q, ↓chB_b, ↓tsB_b, ↓dVar_s, ↓ownL_o, ↓ownD_o, ↓roL_l, ↓e_sAppend, ↓e_sRetOwn, ↓two_2, ↓three_3, ↓e_sPar, ↓e_sPar3, ↓asI_i, ↓e_dPart, ↓asS_l, ↓asS_t, ↓e_iSeq, ↓one_1, ↓e_iRng1D, ↓e_iRng2D, ↓wipeD_n, ↓wipeD_c, ↓frz_0, ↓frz_0v, ↓frz_s, ↓e_fnD, ↓e_sSeq, ↓e_sNext, ↓e_sBreak, ↓e_sCont, ↓e_sSet, ↓e_sAsg, ↓e_sAsg2, ↓e_sIf, ↓e_sRet, ↓e_sRetN, ↓e_sDrop, ↓e_sNever, ↓e_sOwn, ↓e_sFrz, ↓e_sFor, ↓e_gN, ↓e_gT_t, ↓e_gsNil_n, ↓e_gsCons_c, ↓e_dVar_0, ↓e_dVar_0t, ↓e_dC, ↓e_dOp, ↓e_dChain, ↓e_dUn, ↓e_dTest, ↓e_dAnd, ↓e_dOr, ↓e_dNot, ↓e_dAndV, ↓e_dOrV, ↓e_dIf, ↓e_dNil, ↓e_dCons, ↓e_dTup, ↓e_dLst, ↓e_dCall, ↓e_dB, ↓e_dIsi, ↓e_dIsi2, ↓e_dSl, ↓e_dRev, ↓e_dNo, ↓e_dYes, ↓e_dLc,
  ↓addD_ii, ↓addD_tt, ↓addD_ll, ↓subD_ii, ↓mulD_ii, ↓fdivD_ii, ↓modD_ii, ↓powD_10_9, ↓powD_10_6, ↓ltA_ii, ↓leA_ii, ↓gtA_ii, ↓geA_ii, ↓ltA_t2, ↓leA_t2, ↓gtA_t2, ↓geA_t2, ↓max2A_ii, ↓min2A_ii, ↓max2A_t2, ↓min2A_t2, ↓revD_l, ↓isNon_n, ↓isNon_t, ↓isNon_l, ↓notNon_n, ↓notNon_t, ↓isBD_bb, ↓negD_i, ↓notD_b, ↓absD_i, ↓intC_i, ↓intC_b, ↓lenD_l, ↓lenD_t, ↓listD_l, ↓listD_t, ↓tupleD_l, ↓tupleD_t, ↓allD_l, ↓anyD_l, ↓ixT0, ↓ixT1, ↓ixT2, ↓ixT3, ↓ixL0, ↓ixL1, ↓ixL2, ↓ixL3, ↓slD_l,
  eqD, neD, notInD, sl0, sl1, sl2, sl3, sl4, sl5, sl6, sl7, sl8, sl9, sl10, sl11, sl12, slt0, slt1, slt2, slt3, slt4, slt5, slt6, slt7, slt8, slt9, slt10, slt11, slt12, lay_i, lay_b, lay_n, lay_t0, lay_l0, lay_t2, lay_t4, eqb_ii, eqb_bb, eqb_ss, eqb_nn, eqb_tt, eqb_ll, eqbs_nn, eqbs_cc, eqbs_nc, eqbs_cn, tyOk_n, tyOk_b, tyOk_i, tyOk_s, tyOk_t, tyOk_l, isi_n, isi_b, isi_i, isi_s, isi_t, isi_l,
  List.map_cons, List.map_nil, List.cons_append, List.nil_append, List.append_nil, List.append_assoc, List.length_cons, List.length_nil, List.getElem?_cons_zero, List.getElem?_cons_succ, List.set_cons_zero, List.set_cons_succ, List.replicate, Nat.reduceAdd, Nat.reduceSub, Nat.zero_add, Nat.reduceLeDiff, Nat.reduceEqDiff,
  if_true, if_false, true_and, and_true, and_self, Bool.not_true, Bool.not_false, Bool.false_eq_true, Bool.and_true, Bool.true_and, Bool.or_false, Bool.false_or, Bool.or_true, Bool.true_or, decide_eq_true_eq, decide_true, decide_false, beq_self_eq_true, beq_iff_eq, String.reduceEq, reduceIte, reduceCtorEq])
/-! ### the small defs of program and laws -/
theorem abs_if (a : Int) : (if a < 0 then -a else a) = (a.natAbs : Int) := by split <;> omega
theorem greatest_ok {Q : D → Prop} {a b : Int} (h : Q (.int (Int.gcd a b : Nat))) : c_greatest [.int a, .int b] Q := by
  unfold c_greatest
  walk_at "dv"
  rw [abs_if, abs_if]
  refine ⟨fun m ρ => ∃ x y : Nat, ρ = [.v (.int (x : Int)), .v (.int (y : Int))] ∧ m = y ∧ Nat.gcd x y = Nat.gcd a.natAbs b.natAbs, ⟨_, _, _, rfl, rfl, rfl⟩, ?_⟩
  rintro m ρ ⟨x, y, rfl, rfl, hg⟩
  walk_at "dv"
  by_cases hy : 0 < m
  · have hy' : (0 : Int) < (m : Int) := by omega
    rw [if_pos hy']
    refine ⟨by omega, x % m, Nat.mod_lt _ hy, m, x % m, ?_, rfl, ?_⟩
    · rw [Int.fmod_eq_emod_of_nonneg _ (by omega)]; rfl
    · rw [← hg, Nat.gcd_comm m, ← Nat.gcd_rec, Nat.gcd_comm]
  · have e : m = 0 := by omega
    subst e
    rw [if_neg (by simp)]
    rw [Nat.gcd_zero_right] at hg
    have e2 : (x : Int) = (Int.gcd a b : Nat) := by rw [hg]; rfl
    rw [e2]; exact h
/-- the part in lowest terms -/
def lowD (o u : Int) : D := .tup [.int (o.fdiv (if u < 0 then -(Int.gcd o u : Nat) else (Int.gcd o u : Nat))), .int (u.fdiv (if u < 0 then -(Int.gcd o u : Nat) else (Int.gcd o u : Nat)))]
theorem gcd_small {o u : Int} (hu : u ≠ 0) : 0 < Int.gcd o u ∧ Int.gcd o u ≤ u.natAbs :=
  ⟨Int.gcd_pos_of_ne_zero_right _ hu, Nat.le_of_dvd (by omega) (Nat.gcd_dvd_right _ _)⟩
theorem lowest_ok {Q : D → Prop} {o u : Int} (hu : u ≠ 0) (hb : u.natAbs < 1461501637330902918203684832716283019655932542976) (h : Q (lowD o u)) : c_lowest [.int o, .int u] Q := by
  unfold c_lowest
  walk_at "dv"
  rw [if_neg hu]
  have hg := gcd_small (o := o) hu
  refine greatest_ok ?_
  walk_at "dv"
  unfold lowD at h
  by_cases hn : u < 0
  · rw [if_pos hn] at h ⊢
    walk_at "dv"
    exact ⟨divOk (by omega) (by omega), divOk (by omega) (by omega), h⟩
  · rw [if_neg hn] at h ⊢
    walk_at "dv"
    exact ⟨divOk (by omega) (by omega), divOk (by omega) (by omega), h⟩
theorem law_low_ok {Q : D → Prop} {o u : Int} (hu : u ≠ 0) (hb : u.natAbs < 1461501637330902918203684832716283019655932542976) (h : Q (lowD o u)) : c_law_low [.int o, .int u] Q := by
  unfold c_law_low
  walk_at "dv"
  have hg := gcd_small (o := o) hu
  refine greatest_ok ?_
  walk_at "dv"
  unfold lowD at h
  by_cases hn : u < 0
  · rw [if_pos hn] at h ⊢
    walk_at "dv"
    rw [show (0 : Int) - (Int.gcd o u : Nat) = -(Int.gcd o u : Nat) by omega]
    exact ⟨divOk (by omega) (by omega), divOk (by omega) (by omega), h⟩
  · rw [if_neg hn] at h ⊢
    walk_at "dv"
    exact ⟨divOk (by omega) (by omega), divOk (by omega) (by omega), h⟩
theorem law_of_ok {Q : D → Prop} {d0 : D} {ds : List D} (h1 : ds.length < 1000000) (h : ∀ d ∈ d0 :: ds, Q d) : c_law_of [.bag, .lst (d0 :: ds)] Q := by
  unfold c_law_of
  walk_at "dv"
  exact pull_ok (by omega) (by omega) fun r r0 r1 => ix_all r0 (by rw [List.length_cons]; omega) h
theorem like_ok : ∀ (n : Nat) (d : D) (Q : D → Prop), Lk n d → Q (.bl true) → c_law_like n [d, d] Q := by
  intro n
  induction n with
  | zero => intro d Q h; exact h.elim
  | succ n ih =>
    intro d Q h q
    unfold c_law_like t_law_like
    have leaf : d.tyOk = true → d.lay = true → D.eqb d d = true → isiD "dict" d = false → isiD "tuple" d = false → isiD "list" d = false → (fnD 3 2 (t_law_like (c_law_like n))) [d, d] Q := fun h0 h1 h2 h3 h4 h5 => by
      unfold t_law_like
      walk_at "dv"
      simp only [h0, h1, h2, h3, h4, h5, beq_self_eq_true]
      walk_at "dv"
      exact q
    have seq : ∀ ds : List D, ds.length ≤ 1000000 → (∀ d ∈ ds, Lk n d) → ∀ mk : List D → D, (mk = .tup ∨ mk = .lst) → (fnD 3 2 (t_law_like (c_law_like n))) [mk ds, mk ds] Q := fun ds hl hd mk hm => by
      have body : ∀ sl : Slot, sl = .v (mk ds) → lcD (gN 2) dYes (dCall (c_law_like n) [] (dCons (dOp ixD (dVar 0) (dVar 2)) (dCons (dOp ixD (dVar 1) (dVar 2)) dNil))) [sl, sl, Slot.un] (rngD 0 ((ds.length : Int)).toNat) [] fun x => allD [x] Q := fun sl hs => by
        subst hs
        refine lcD_map (fun _ => .bl true) _ _ _ (fun d hk Q1 q1 => ?_) ?_ ?_
        · obtain ⟨k, hk, rfl⟩ := mem_rng hk
          have hk' : k < ds.length := by omega
          walk_at "dv"
          rw [show (0 : Int) + (k : Int) = ((k : Nat) : Int) by omega]
          rcases hm with rfl | rfl
          · exact ix_natT hk' (ix_natT hk' (ih _ _ (hd _ (List.getElem_mem _)) q1))
          · exact ix_nat hk' (ix_nat hk' (ih _ _ (hd _ (List.getElem_mem _)) q1))
        · have e : sizeLine = 16777216 := sizeLine_eq
          simp [rngD]
          omega
        · walk_at "dv"
          have e1 : ((rngD 0 ((ds.length : Int)).toNat).map fun _ => D.bl true).all isB = true := by simp [isB]
          have e2 : ((rngD 0 ((ds.length : Int)).toNat).map fun _ => D.bl true).all isT = true := by simp [isT]
          rw [e1, e2]
          exact ⟨rfl, q⟩
      rcases hm with rfl | rfl
      · unfold t_law_like
        walk_at "dv"
        exact ⟨⟨by omega, by omega⟩, body _ rfl⟩
      · unfold t_law_like
        walk_at "dv"
        exact ⟨⟨by omega, by omega⟩, body _ rfl⟩
    cases d with
    | non => exact leaf rfl rfl (by simp [D.eqb]) rfl rfl rfl
    | bl b => exact leaf rfl rfl (by simp [D.eqb]) rfl rfl rfl
    | int i => exact leaf rfl rfl (by simp [D.eqb]) rfl rfl rfl
    | str x =>
      refine leaf rfl ?_ (by simp [D.eqb]) rfl rfl rfl
      have : PyData.strOk x = true := h
      simp [D.lay, D.flatOk, SeqAt.shaped, D.toP, PyData.canLay0, PyData.depth, this]
    | tup ds => exact seq ds h.1 h.2 .tup (.inl rfl)
    | lst ds => exact seq ds h.1 h.2 .lst (.inr rfl)
    | dic _ => exact h.elim
    | bag => exact h.elim
    | scr => exact h.elim
theorem mul_pos_iff' {g k : Int} (hg : 0 < g) : (0 < g * k ↔ 0 < k) ∧ (g * k < 0 ↔ k < 0) := by
  have h1 : 0 < k → 0 < g * k := fun h => Int.mul_pos hg h
  have h2 : k < 0 → g * k < 0 := fun h => Int.mul_neg_of_pos_of_neg hg h
  have h3 : k = 0 → g * k = 0 := fun h => by rw [h, Int.mul_zero]
  omega
/-! ### spots and turns -/
theorem lcD_all {g : DG} {te : DE} {ρ : List Slot} (P : D → Prop) : ∀ (ds acc : List D) (Q : D → Prop), (∀ d ∈ ds, ∀ Q1 : D → Prop, (∀ y, P y → Q1 y) → g d ρ fun ρ2 => te ρ2 Q1) → acc.length + ds.length ≤ sizeLine → (∀ y ∈ acc, P y) →
    (∀ ys : List D, ys.length = acc.length + ds.length → (∀ y ∈ ys, P y) → Q (.lst ys)) → lcD g dYes te ρ ds acc Q
  | [], acc, Q, _, _, ha, q => q acc rfl ha
  | d :: ds, acc, Q, h, hl, ha, q => by
    have hl' : acc.length + (ds.length + 1) ≤ sizeLine := hl
    refine h d List.mem_cons_self (fun y => acc.length < sizeLine ∧ lcD g dYes te ρ ds (acc ++ [y]) Q) fun y hy => ⟨by omega, ?_⟩
    refine lcD_all P ds (acc ++ [y]) Q (fun d hd => h d (List.mem_cons_of_mem _ hd)) (by rw [List.length_append]; show acc.length + 1 + ds.length ≤ sizeLine; omega) (fun z hz => (List.mem_append.mp hz).elim (ha z) fun e => by rw [List.mem_singleton] at e; rw [e]; exact hy) fun ys e => q ys ?_
    rw [e, List.length_append, List.length_cons]
    show acc.length + 1 + ds.length = acc.length + (ds.length + 1)
    omega
@[irreducible] def crs (ax ay bx b_y cx cy : Int) : Int := (bx - ax) * (cy - ay) - (b_y - ay) * (cx - ax)
@[irreducible] def sgn (i : Int) : Int := (if 0 < i then 1 else 0) - (if i < 0 then 1 else 0)
theorem cross_ok {Q : D → Prop} {ax ay bx b_y cx cy : Int} (h1 : (bx - ax).natAbs < 1000000000) (h2 : (b_y - ay).natAbs < 1000000000) (h : Q (.int (crs ax ay bx b_y cx cy))) : c_cross [.tup [.int ax, .int ay], .tup [.int bx, .int b_y], .tup [.int cx, .int cy]] Q := by
  unfold c_cross
  walk_at "dv"
  unfold crs at h
  exact ⟨mulOk (by omega), mulOk (by omega), h⟩
theorem int_at {Q : D → Prop} {i j : Int} (h : Q (.int i)) (e : j = i) : Q (.int j) := e ▸ h
local macro_rules | `(tactic| walk_at "beq") => `(tactic| (first | (rw [decide_eq_decide]; omega) | exact (decide_eq_false (by omega)).symm | exact (decide_eq_true (by omega)).symm))
/-! ### pairs in their order -/
@[irreducible] def mxx (i j k l : Int) : Int := if i < k ∨ (i = k ∧ j < l) then k else i
@[irreducible] def mxy (i j k l : Int) : Int := if i < k ∨ (i = k ∧ j < l) then l else j
@[irreducible] def mnx (i j k l : Int) : Int := if k < i ∨ (k = i ∧ l < j) then k else i
@[irreducible] def mny (i j k l : Int) : Int := if k < i ∨ (k = i ∧ l < j) then l else j
theorem max2A_c {i j k l : Int} {Q : D → Prop} : max2A [.tup [.int i, .int j], .tup [.int k, .int l]] Q = Q (.tup [.int (mxx i j k l), .int (mxy i j k l)]) := by
  rw [max2A_t2]
  unfold mxx mxy
  by_cases c : i < k ∨ (i = k ∧ j < l)
  · rw [if_pos c, if_pos c, if_pos c]
  · rw [if_neg c, if_neg c, if_neg c]
theorem min2A_c {i j k l : Int} {Q : D → Prop} : min2A [.tup [.int i, .int j], .tup [.int k, .int l]] Q = Q (.tup [.int (mnx i j k l), .int (mny i j k l)]) := by
  rw [min2A_t2]
  unfold mnx mny
  by_cases c : k < i ∨ (k = i ∧ l < j)
  · rw [if_pos c, if_pos c, if_pos c]
  · rw [if_neg c, if_neg c, if_neg c]
theorem mxx_c {i j k l : Int} : mxx k l i j = mxx i j k l := by
  unfold mxx
  repeat' split
  all_goals omega
theorem mxy_c {i j k l : Int} : mxy k l i j = mxy i j k l := by
  unfold mxy
  repeat' split
  all_goals omega
theorem mnx_c {i j k l : Int} : mnx k l i j = mnx i j k l := by
  unfold mnx
  repeat' split
  all_goals omega
theorem mny_c {i j k l : Int} : mny k l i j = mny i j k l := by
  unfold mny
  repeat' split
  all_goals omega
theorem slh4 {a b c d : D} {Q : D → Prop} : slD (.tup [a, b, c, d]) none (some 2) Q = Q (.tup [a, b]) := by
  rw [slD_t]
  exact propext ⟨fun h => h.2, fun h => ⟨by simp only [List.length_cons, List.length_nil]; decide, h⟩⟩
theorem slt4' {a b c d : D} {Q : D → Prop} : slD (.tup [a, b, c, d]) (some 2) none Q = Q (.tup [c, d]) := by
  rw [slD_t]
  exact propext ⟨fun h => h.2, fun h => ⟨by simp only [List.length_cons, List.length_nil]; decide, h⟩⟩
end DV

namespace DV
open PySem PySem.Spec PyProof.Rows L2
local macro_rules | `(tactic| walk_at "dv") => `(tactic| simp (config := { failIfUnchanged := false, implicitDefEqProofs := false }) only [↓k_for_q, ↓e_for_n, ↓e_for_c, ↓k_sAppend1_q, ↓k_sAppend_q, ↓k_sRetOwn_q, ↓k_sPar2_q, ↓k_sPar_q, ↓k_sPar33_q, ↓k_sPar3_q, ↓k_some_q, ↓k_asI_q, ↓k_asS_q, ↓k_rng1_q, ↓k_one_q, ↓k_rng22_q, ↓k_rng21_q, ↓k_rng2_q, ↓k_two_q, ↓k_non_q, ↓k_no_q, ↓k_sSet_q, ↓k_sAsg_q, ↓k_sAsg2_q, ↓k_sIf_q, ↓k_sDrop_q, ↓k_sOwn_q, ↓k_sFor_q, ↓k_gs_q, ↓k_dOp2_q, ↓k_dOp_q, ↓k_dCh4_q, ↓k_dCh3_q, ↓k_dCh2_q, ↓k_dCh1_q, ↓k_dUn_q, ↓k_dTest_q, ↓k_dAnd_q, ↓k_dOr_q, ↓k_dNot_q, ↓k_dAndV_q, ↓k_dOrV_q, ↓k_dIf_q, ↓k_dCons2_q, ↓k_dCons_q, ↓k_dTup_q, ↓k_dLst_q, ↓k_dCall_q, ↓k_dIsi_q, ↓k_dIsi2_q, ↓k_dSl3_q, ↓k_dSl2_q, ↓k_dSl_q, ↓k_dRev_q, ↓k_dLc_q, ↓k_dB_q, ↓chB_b, ↓tsB_b, ↓dVar_s, ↓ownL_o, ↓ownD_o, ↓roL_l, ↓e_sAppend, ↓e_sRetOwn, ↓two_2, ↓three_3, ↓e_sPar, ↓e_sPar3, ↓asI_i, ↓e_dPart, ↓asS_l, ↓asS_t, ↓e_iSeq, ↓one_1, ↓e_iRng1D, ↓e_iRng2D, ↓wipeD_n, ↓wipeD_c, ↓frz_0, ↓frz_0v, ↓frz_s, ↓e_fnD, ↓e_sSeq, ↓e_sNext, ↓e_sBreak, ↓e_sCont, ↓e_sSet, ↓e_sAsg, ↓e_sAsg2, ↓e_sIf, ↓e_sRet, ↓e_sRetN, ↓e_sDrop, ↓e_sNever, ↓e_sOwn, ↓e_sFrz, ↓e_sFor, ↓e_gN, ↓e_gT_t, ↓e_gsNil_n, ↓e_gsCons_c, ↓e_dVar_0, ↓e_dVar_0t, ↓e_dC, ↓e_dOp, ↓e_dChain, ↓e_dUn, ↓e_dTest, ↓e_dAnd, ↓e_dOr, ↓e_dNot, ↓e_dAndV, ↓e_dOrV, ↓e_dIf, ↓e_dNil, ↓e_dCons, ↓e_dTup, ↓e_dLst, ↓e_dCall, ↓e_dB, ↓e_dIsi, ↓e_dIsi2, ↓e_dSl, ↓e_dRev, ↓e_dNo, ↓e_dYes, ↓e_dLc,
  ↓addD_ii, ↓addD_tt, ↓addD_ll, ↓subD_ii, ↓mulD_ii, ↓fdivD_ii, ↓modD_ii, ↓powD_10_9, ↓powD_10_6, ↓ltA_ii, ↓leA_ii, ↓gtA_ii, ↓geA_ii, ↓ltA_t2, ↓leA_t2, ↓gtA_t2, ↓geA_t2, ↓max2A_ii, ↓min2A_ii, ↓slh4, ↓slt4', ↓max2A_c, ↓min2A_c, ↓revD_l, ↓isNon_n, ↓isNon_t, ↓isNon_l, ↓notNon_n, ↓notNon_t, ↓isBD_bb, ↓negD_i, ↓notD_b, ↓absD_i, ↓intC_i, ↓intC_b, ↓lenD_l, ↓lenD_t, ↓listD_l, ↓listD_t, ↓tupleD_l, ↓tupleD_t, ↓allD_l, ↓anyD_l, ↓ixT0, ↓ixT1, ↓ixT2, ↓ixT3, ↓ixL0, ↓ixL1, ↓ixL2, ↓ixL3, ↓slD_l,
  eqD, neD, notInD, sl0, sl1, sl2, sl3, sl4, sl5, sl6, sl7, sl8, sl9, sl10, sl11, sl12, slt0, slt1, slt2, slt3, slt4, slt5, slt6, slt7, slt8, slt9, slt10, slt11, slt12, lay_i, lay_b, lay_n, lay_t0, lay_l0, lay_t2, lay_t4, eqb_ii, eqb_bb, eqb_ss, eqb_nn, eqb_tt, eqb_ll, eqbs_nn, eqbs_cc, eqbs_nc, eqbs_cn, tyOk_n, tyOk_b, tyOk_i, tyOk_s, tyOk_t, tyOk_l, isi_n, isi_b, isi_i, isi_s, isi_t, isi_l,
  List.map_cons, List.map_nil, List.cons_append, List.nil_append, List.append_nil, List.append_assoc, List.length_cons, List.length_nil, List.getElem?_cons_zero, List.getElem?_cons_succ, List.set_cons_zero, List.set_cons_succ, List.replicate, Nat.reduceAdd, Nat.reduceSub, Nat.zero_add, Nat.reduceLeDiff, Nat.reduceEqDiff,
  if_true, if_false, true_and, and_true, and_self, Bool.not_true, Bool.not_false, Bool.false_eq_true, Bool.and_true, Bool.true_and, Bool.or_false, Bool.false_or, Bool.or_true, Bool.true_or, decide_eq_true_eq, decide_true, decide_false, beq_self_eq_true, beq_iff_eq, String.reduceEq, reduceIte, reduceCtorEq])

/-! ### what may be compared -/
def LayN : Nat → D → Prop
  | 0, d => match d with
    | .non => True
    | .bl _ => True
    | .int _ => True
    | .str x => PyData.strOk x = true
    | _ => False
  | n + 1, d => match d with
    | .non => True
    | .bl _ => True
    | .int _ => True
    | .str x => PyData.strOk x = true
    | .tup ds => ∀ d ∈ ds, LayN n d
    | .lst ds => ∀ d ∈ ds, LayN n d
    | _ => False
def LayOk (n : Nat) (d : D) : Prop := d.flatOk = true ∧ d.toP.canLay0 = true ∧ d.toP.depth ≤ n
def LayOks (n : Nat) (ds : List D) : Prop := D.flatOks ds = true ∧ PyData.canLayAll0 (D.toPs ds) = true ∧ PyData.depthAll (D.toPs ds) ≤ n
theorem layOks {n : Nat} : ∀ {ds : List D}, (∀ d ∈ ds, LayOk n d) → LayOks n ds
  | [], _ => by refine ⟨?_, ?_, ?_⟩ <;> simp [D.flatOks, D.toPs, PyData.canLayAll0, PyData.depthAll]
  | d :: ds, h => by
    obtain ⟨a1, a2, a3⟩ := h d List.mem_cons_self
    obtain ⟨b1, b2, b3⟩ := layOks (ds := ds) fun d hd => h d (List.mem_cons_of_mem _ hd)
    refine ⟨?_, ?_, ?_⟩
    · simp [D.flatOks, a1, b1]
    · simp [D.toPs, PyData.canLayAll0, a2, b2]
    · simp only [D.toPs, PyData.depthAll]
      omega
theorem layOk_of : ∀ (n : Nat) (d : D), LayN n d → LayOk (n + 1) d
  | 0, d, h => by
    cases d <;> first | exact h.elim | (refine ⟨?_, ?_, ?_⟩ <;> simp [D.flatOk, D.toP, PyData.canLay0, PyData.depth] <;> exact h)
  | n + 1, d, h => by
    cases d with
    | tup ds =>
      obtain ⟨b1, b2, b3⟩ := layOks (n := n + 1) (ds := ds) fun d hd => layOk_of n d (h d hd)
      refine ⟨by simp only [D.flatOk, b1], by simp only [D.toP, PyData.canLay0, b2], ?_⟩
      simp only [D.toP, PyData.depth]
      omega
    | lst ds =>
      obtain ⟨b1, b2, b3⟩ := layOks (n := n + 1) (ds := ds) fun d hd => layOk_of n d (h d hd)
      refine ⟨by simp only [D.flatOk, b1], by simp only [D.toP, PyData.canLay0, b2], ?_⟩
      simp only [D.toP, PyData.depth]
      omega
    | dic => exact h.elim
    | bag => exact h.elim
    | scr => exact h.elim
    | non => refine ⟨?_, ?_, ?_⟩ <;> simp [D.flatOk, D.toP, PyData.canLay0, PyData.depth]
    | bl => refine ⟨?_, ?_, ?_⟩ <;> simp [D.flatOk, D.toP, PyData.canLay0, PyData.depth]
    | int => refine ⟨?_, ?_, ?_⟩ <;> simp [D.flatOk, D.toP, PyData.canLay0, PyData.depth]
    | str x => exact ⟨by simp [D.flatOk], by
      have h' : PyData.strOk x = true := h
      simpa [D.toP, PyData.canLay0] using h', by simp [D.toP, PyData.depth]⟩
theorem lay_of {n : Nat} {d : D} (hn : n ≤ 60) (h : LayN n d) : d.lay = true := by
  obtain ⟨h1, h2, h3⟩ := layOk_of n d h
  simp only [D.lay, SeqAt.shaped, h1, h2, Bool.true_and, decide_eq_true_eq]
  omega
/-! ### fractions in lowest terms -/
theorem fdiv_l {g p : Int} (hg : g ≠ 0) : (g * p).fdiv g = p := Int.mul_fdiv_cancel_left p hg
theorem fdiv_ln {g p : Int} (hg : g ≠ 0) : (g * p).fdiv (-g) = -p := by
  rw [show g * p = (-g) * (-p) by rw [Int.neg_mul_neg]]
  exact Int.mul_fdiv_cancel_left _ (by omega)
theorem lowD_spec {o u : Int} (hu : u ≠ 0) : ∃ n v : Int, lowD o u = .tup [.int n, .int v] ∧ 0 < v ∧ n * u = o * v ∧ n.natAbs ≤ o.natAbs ∧ v.natAbs ≤ u.natAbs ∧ Int.gcd n v = 1 := by
  have hg := gcd_small (o := o) hu
  unfold lowD
  obtain ⟨p, hp⟩ : ((Int.gcd o u : Nat) : Int) ∣ o := Int.gcd_dvd_left ..
  obtain ⟨q, hq⟩ : ((Int.gcd o u : Nat) : Int) ∣ u := Int.gcd_dvd_right ..
  have hc : Int.gcd p q = 1 := by
    have h1 : Int.gcd o u = Int.gcd ((Int.gcd o u : Nat) * p) ((Int.gcd o u : Nat) * q) := by rw [← hp, ← hq]
    rw [Int.gcd_mul_left, Int.natAbs_natCast] at h1
    exact Nat.eq_of_mul_eq_mul_left hg.1 (by omega)
  generalize Int.gcd o u = g at hp hq hg
  have g0 : (g : Int) ≠ 0 := by omega
  have b1 : p.natAbs ≤ o.natAbs := by rw [hp, Int.natAbs_mul]; exact Nat.le_mul_of_pos_left _ (by omega)
  have b2 : q.natAbs ≤ u.natAbs := by rw [hq, Int.natAbs_mul]; exact Nat.le_mul_of_pos_left _ (by omega)
  by_cases hn : u < 0
  · rw [if_pos hn]
    refine ⟨-p, -q, ?_, ?_, ?_, by omega, by omega, by rw [Int.neg_gcd, Int.gcd_neg]; exact hc⟩
    · rw [show o.fdiv (-(g : Int)) = -p by rw [hp]; exact fdiv_ln g0, show u.fdiv (-(g : Int)) = -q by rw [hq]; exact fdiv_ln g0]
    · have := (mul_pos_iff' (g := (g : Int)) (k := q) (by omega)).2
      rw [← hq] at this
      have := this.mp hn
      omega
    · rw [hp, hq]; grind
  · rw [if_neg hn]
    refine ⟨p, q, ?_, ?_, ?_, by omega, by omega, hc⟩
    · rw [show o.fdiv (g : Int) = p by rw [hp]; exact fdiv_l g0, show u.fdiv (g : Int) = q by rw [hq]; exact fdiv_l g0]
    · have := (mul_pos_iff' (g := (g : Int)) (k := q) (by omega)).1
      rw [← hq] at this
      exact this.mp (by omega)
    · rw [hp, hq]; grind
theorem cop_eq {n v m w : Int} (hv : 0 < v) (hw : 0 < w) (h1 : Int.gcd n v = 1) (h2 : Int.gcd m w = 1) (e : n * w = m * v) : n = m ∧ v = w := by
  have a1 : v.natAbs ∣ w.natAbs := by
    refine Nat.Coprime.dvd_of_dvd_mul_right (n := n.natAbs) ?_ ?_
    · rw [Nat.Coprime, Nat.gcd_comm]; exact h1
    · rw [← Int.natAbs_mul, Int.mul_comm, e, Int.natAbs_mul]; exact Nat.dvd_mul_left _ _
  have a2 : w.natAbs ∣ v.natAbs := by
    refine Nat.Coprime.dvd_of_dvd_mul_right (n := m.natAbs) ?_ ?_
    · rw [Nat.Coprime, Nat.gcd_comm]; exact h2
    · rw [← Int.natAbs_mul, Int.mul_comm, ← e, Int.natAbs_mul]; exact Nat.dvd_mul_left _ _
  have a3 := Nat.dvd_antisymm a1 a2
  have hvw : v = w := by omega
  refine ⟨?_, hvw⟩
  rw [hvw] at e
  exact Int.eq_of_mul_eq_mul_right (by omega) e
theorem lowD_eq {o u o' u' : Int} (hu : u ≠ 0) (hu' : u' ≠ 0) (e : o * u' = o' * u) : lowD o u = lowD o' u' := by
  obtain ⟨n, v, e1, v0, r1, -, -, c1⟩ := lowD_spec (o := o) hu
  obtain ⟨m, w, e2, w0, r2, -, -, c2⟩ := lowD_spec (o := o') hu'
  rw [e1, e2]
  have k : n * w = m * v := by
    refine Int.eq_of_mul_eq_mul_right (a := u * u') (Int.mul_ne_zero hu hu') ?_
    grind
  obtain ⟨rfl, rfl⟩ := cop_eq v0 w0 c1 c2 k
  rfl
/-! ### where strokes meet -/
def comD (a b c d : Int) : D := if c < a ∨ (c = a ∧ d < b) then .non else if a = c ∧ b = d then .tup [.str (Str.ofString "at"), .tup [.tup [.int a, .int 1], .tup [.int b, .int 1]]] else .tup [.str (Str.ofString "along"), .tup [.int a, .int b], .tup [.int c, .int d]]
def commonD (a b c d e f g h : Int) : D := comD (mxx (mnx a b c d) (mny a b c d) (mnx e f g h) (mny e f g h)) (mxy (mnx a b c d) (mny a b c d) (mnx e f g h) (mny e f g h)) (mnx (mxx a b c d) (mxy a b c d) (mxx e f g h) (mxy e f g h)) (mny (mxx a b c d) (mxy a b c d) (mxx e f g h) (mxy e f g h))
theorem common_ok {Q : D → Prop} {a b c d e f g h : Int} (hq : Q (commonD a b c d e f g h)) : c_common [.tup [.int a, .int b, .int c, .int d], .tup [.int e, .int f, .int g, .int h]] Q := by
  unfold c_common
  walk_at "dv"
  unfold commonD comD at hq
  split
  · rename_i c1
    rw [if_pos c1] at hq
    exact hq
  · rename_i c1
    rw [if_neg c1] at hq
    simp only [Bool.and_eq_true, beq_iff_eq]
    split
    · rename_i c2
      rw [if_pos c2] at hq
      exact hq
    · rename_i c2
      rw [if_neg c2] at hq
      exact hq
theorem commonD_c {a b c d e f g h : Int} : commonD e f g h a b c d = commonD a b c d e f g h := by
  unfold commonD
  rw [mxx_c (i := mnx a b c d), mxy_c (i := mnx a b c d), mnx_c (i := mxx a b c d), mny_c (i := mxx a b c d)]
@[irreducible] def wh (a b c d e f g h : Int) : Int := (c - a) * (h - f) - (d - b) * (g - e)
@[irreducible] def c0 (a b c d e f : Int) : Int := (c - a) * (f - b) - (d - b) * (e - a)
@[irreducible] def e0 (a b e f g h : Int) : Int := (e - a) * (h - f) - (f - b) * (g - e)
def meetD (a b c d e f g h : Int) : D := if wh a b c d e f g h = 0 then (if c0 a b c d e f = 0 then commonD a b c d e f g h else .non) else
  if 0 < c0 a b c d e f * (c0 a b c d e f + wh a b c d e f g h) ∨ 0 < e0 a b e f g h * (e0 a b e f g h - wh a b c d e f g h) then .non else
  .tup [.str (Str.ofString "at"), .tup [lowD (a * wh a b c d e f g h + e0 a b e f g h * (c - a)) (wh a b c d e f g h), lowD (b * wh a b c d e f g h + e0 a b e f g h * (d - b)) (wh a b c d e f g h)]]
theorem wh_c {a b c d e f g h : Int} : wh e f g h a b c d = -wh a b c d e f g h := by unfold wh; grind
theorem c0_c {a b e f g h : Int} : c0 e f g h a b = e0 a b e f g h := by unfold c0 e0; grind
theorem e0_c {a b c d e f : Int} : e0 e f a b c d = c0 a b c d e f := by unfold c0 e0; grind
theorem c0_r {a b c d e f : Int} : c0 c d a b e f = -c0 a b c d e f := by unfold c0; grind
theorem ec_x {a b c d e f g h : Int} : (e - a) * wh a b c d e f g h = e0 a b e f g h * (c - a) + c0 a b c d e f * (g - e) := by unfold e0 wh c0; grind
theorem ec_y {a b c d e f g h : Int} : (f - b) * wh a b c d e f g h = e0 a b e f g h * (d - b) + c0 a b c d e f * (h - f) := by unfold e0 wh c0; grind
theorem meetD_c {a b c d e f g h : Int} (n1 : ¬(c = a ∧ d = b)) (n2 : ¬(g = e ∧ h = f)) : meetD e f g h a b c d = meetD a b c d e f g h := by
  unfold meetD
  have ex := ec_x (a := a) (b := b) (c := c) (d := d) (e := e) (f := f) (g := g) (h := h)
  have ey := ec_y (a := a) (b := b) (c := c) (d := d) (e := e) (f := f) (g := g) (h := h)
  rw [wh_c, show c0 e f g h a b = e0 a b e f g h from c0_c, show e0 e f a b c d = c0 a b c d e f from e0_c, commonD_c]
  generalize hw : wh a b c d e f g h = W at *
  generalize hc : c0 a b c d e f = C at *
  generalize he : e0 a b e f g h = E at *
  by_cases w0 : W = 0
  · rw [w0] at ex ey ⊢
    rw [if_pos (by decide), if_pos rfl]
    by_cases k0 : C = 0
    · rw [k0] at ex ey
      have z : E = 0 := by
        by_cases q : c = a
        · have q2 : d - b ≠ 0 := by omega
          have : E * (d - b) = 0 := by omega
          exact (Int.mul_eq_zero.mp this).resolve_right q2
        · have : E * (c - a) = 0 := by omega
          exact (Int.mul_eq_zero.mp this).resolve_right (by omega)
      rw [z, k0]
    · have z : E ≠ 0 := by
        intro z
        rw [z] at ex ey
        by_cases q : g = e
        · have q2 : h - f ≠ 0 := by omega
          have : C * (h - f) = 0 := by omega
          exact k0 ((Int.mul_eq_zero.mp this).resolve_right q2)
        · have : C * (g - e) = 0 := by omega
          exact k0 ((Int.mul_eq_zero.mp this).resolve_right (by omega))
      rw [if_neg z, if_neg k0]
  · rw [if_neg (show ¬(-W = 0) by omega), if_neg w0, show E + -W = E - W by omega, show C - -W = C + W by omega]
    by_cases q : 0 < C * (C + W) ∨ 0 < E * (E - W)
    · rw [if_pos q, if_pos q.symm]
    · rw [if_neg q, if_neg (fun z => q z.symm)]
      rw [lowD_eq (o := e * -W + C * (g - e)) (u := -W) (o' := a * W + E * (c - a)) (u' := W) (by omega) w0 (by grind), lowD_eq (o := f * -W + C * (h - f)) (u := -W) (o' := b * W + E * (d - b)) (u' := W) (by omega) w0 (by grind)]
theorem prod_b {i j : Int} {m n : Nat} (h1 : i.natAbs ≤ m) (h2 : j.natAbs ≤ n) : (i * j).natAbs ≤ m * n := by
  rw [Int.natAbs_mul]
  exact Nat.mul_le_mul h1 h2
theorem plus_ok {Q : D → Prop} {a b c d : Int} (h1 : b.natAbs < 1000000000) (h2 : d.natAbs < 1000000000) (hb : b ≠ 0) (hd : d ≠ 0) (hq : Q (lowD (a * d + c * b) (b * d))) : c_plus [.tup [.int a, .int b], .tup [.int c, .int d]] Q := by
  unfold c_plus
  walk_at "dv"
  have := prod_b (i := b) (j := d) (m := 1000000000) (n := 1000000000) (by omega) (by omega)
  exact ⟨mulOk (by omega), mulOk (by omega), mulOk (by omega), lowest_ok (Int.mul_ne_zero hb hd) (by omega) hq⟩
theorem below_ok {Q : D → Prop} {a b c d : Int} (h1 : b.natAbs < 1000000000) (h2 : d.natAbs < 1000000000) (hq : Q (.bl (decide (a * d < c * b)))) : c_below [.tup [.int a, .int b], .tup [.int c, .int d]] Q := by
  unfold c_below
  walk_at "dv"
  exact ⟨mulOk (by omega), mulOk (by omega), hq⟩
theorem pos_of_mul' {a b : Int} (h : 0 < a * b) (hb : 0 < b) : 0 < a := by
  rcases Int.lt_or_le 0 a with h1 | h1
  · exact h1
  · have := Int.mul_nonneg (show 0 ≤ -a by omega) (show 0 ≤ b by omega)
    rw [Int.neg_mul] at this
    omega
theorem frac_out {n v E W : Int} (v0 : 0 < v) (w0 : W ≠ 0) (r : n * W = E * v) : (n < 0 ∨ v < n) ↔ 0 < E * (E - W) := by
  have k : E * (E - W) * (v * v) = W * W * (n * (n - v)) := by grind
  have vv : 0 < v * v := Int.mul_pos v0 v0
  have ww : 0 < W * W := by
    rcases Int.lt_or_gt_of_ne w0 with h | h
    · exact Int.mul_pos_of_neg_of_neg h h
    · exact Int.mul_pos h h
  constructor
  · intro h
    have p : 0 < n * (n - v) := by
      rcases h with h | h
      · exact Int.mul_pos_of_neg_of_neg h (by omega)
      · exact Int.mul_pos (by omega) (by omega)
    have q : 0 < E * (E - W) * (v * v) := by rw [k]; exact Int.mul_pos ww p
    exact pos_of_mul' q vv
  · intro h
    have q : 0 < W * W * (n * (n - v)) := by rw [← k]; exact Int.mul_pos h vv
    rw [Int.mul_comm] at q
    have p := pos_of_mul' q ww
    rcases Int.lt_or_le n 0 with h1 | h1
    · exact .inl h1
    · rcases Int.lt_or_le v n with h2 | h2
      · exact .inr h2
      · have := Int.mul_nonneg h1 (show 0 ≤ v - n by omega)
        have e : n * (n - v) = -(n * (v - n)) := by grind
        omega
theorem frac_sum {a n v n2 v2 dx E W : Int} (v0 : 0 < v) (r : n * W = E * v) (r2 : n2 * v = n * dx * v2) : (a * v2 + n2 * 1) * W = (a * W + E * dx) * (1 * v2) := by
  have k : n2 * W = E * dx * v2 := by
    refine Int.eq_of_mul_eq_mul_right (a := v) (by omega) ?_
    grind
  grind
def In100 (i : Int) : Prop := -100 ≤ i ∧ i ≤ 100
theorem meet_ok {Q : D → Prop} {a b c d e f g h : Int} (ha : In100 a) (hb : In100 b) (hc : In100 c) (hd : In100 d) (he : In100 e) (hf : In100 f) (hg : In100 g) (hh : In100 h) (hq : Q (meetD a b c d e f g h)) : c_meet [.tup [.int a, .int b, .int c, .int d], .tup [.int e, .int f, .int g, .int h]] Q := by
  unfold In100 at *
  unfold c_meet
  walk_at "dv"
  refine ⟨mulOk (by omega), mulOk (by omega), ?_⟩
  have hW : (c - a) * (h - f) - (d - b) * (g - e) = wh a b c d e f g h := by unfold wh; rfl
  have hE : (e - a) * (h - f) - (f - b) * (g - e) = e0 a b e f g h := by unfold e0; rfl
  have hC : (e - a) * (d - b) - (f - b) * (c - a) = -c0 a b c d e f := by unfold c0; grind
  have bW : (wh a b c d e f g h).natAbs ≤ 80000 := by
    rw [← hW]
    have := prod_b (i := c - a) (j := h - f) (m := 200) (n := 200) (by omega) (by omega)
    have := prod_b (i := d - b) (j := g - e) (m := 200) (n := 200) (by omega) (by omega)
    omega
  have bE : (e0 a b e f g h).natAbs ≤ 80000 := by
    rw [← hE]
    have := prod_b (i := e - a) (j := h - f) (m := 200) (n := 200) (by omega) (by omega)
    have := prod_b (i := f - b) (j := g - e) (m := 200) (n := 200) (by omega) (by omega)
    omega
  rw [hW, hC, hE]
  unfold meetD at hq
  generalize wh a b c d e f g h = W at *
  generalize c0 a b c d e f = C at *
  generalize e0 a b e f g h = E at *
  by_cases w0 : W = 0
  · rw [if_pos w0] at hq ⊢
    refine ⟨mulOk (by omega), mulOk (by omega), ?_⟩
    by_cases k0 : C = 0
    · rw [if_pos k0] at hq
      rw [if_pos (by omega)]
      exact common_ok hq
    · rw [if_neg k0] at hq
      rw [if_neg (by omega)]
      exact hq
  · rw [if_neg w0] at hq ⊢
    refine ⟨mulOk (by omega), mulOk (by omega), lowest_ok w0 (by omega) ?_⟩
    obtain ⟨n, v, e1, v0, r1, s1, s2, -⟩ := lowD_spec (o := E) w0
    rw [e1]
    walk_at "dv"
    rw [hC]
    refine ⟨mulOk (by omega), mulOk (by omega), lowest_ok w0 (by omega) ?_⟩
    obtain ⟨m, w, e2, u0, r2, s3, s4, -⟩ := lowD_spec (o := -C) w0
    rw [e2]
    have p1 := frac_out v0 w0 r1
    have p2 := frac_out u0 w0 r2
    rw [show -C * (-C - W) = C * (C + W) by grind] at p2
    walk_at "dv"
    refine below_ok (by omega) (by omega) ?_
    walk_at "dv"
    split
    · rw [if_pos (.inr (p1.mp (by omega)))] at hq
      exact hq
    refine below_ok (by omega) (by omega) ?_
    walk_at "dv"
    split
    · rw [if_pos (.inr (p1.mp (by omega)))] at hq
      exact hq
    refine below_ok (by omega) (by omega) ?_
    walk_at "dv"
    split
    · rw [if_pos (.inl (p2.mp (by omega)))] at hq
      exact hq
    refine below_ok (by omega) (by omega) ?_
    walk_at "dv"
    split
    · rw [if_pos (.inl (p2.mp (by omega)))] at hq
      exact hq
    rw [if_neg (fun z => z.elim (fun z => by have := p2.mpr z; omega) (fun z => by have := p1.mpr z; omega))] at hq
    have b1 := prod_b (i := n) (j := c - a) (m := 80000) (n := 200) (by omega) (by omega)
    have b2 := prod_b (i := n) (j := d - b) (m := 80000) (n := 200) (by omega) (by omega)
    refine ⟨mulOk (by omega), lowest_ok (by omega) (by omega) ?_⟩
    obtain ⟨n2, v2, e3, v20, r3, s5, s6, -⟩ := lowD_spec (o := n * (c - a)) (u := v) (by omega)
    rw [e3]
    walk_at "dv"
    refine plus_ok (by decide) (by omega) (by decide) (by omega) ?_
    rw [lowD_eq (o' := a * W + E * (c - a)) (u' := W) (by omega) w0 (frac_sum v0 r1 r3)]
    walk_at "dv"
    refine ⟨mulOk (by omega), lowest_ok (by omega) (by omega) ?_⟩
    obtain ⟨n3, v3, e4, v30, r4, s7, s8, -⟩ := lowD_spec (o := n * (d - b)) (u := v) (by omega)
    rw [e4]
    walk_at "dv"
    refine plus_ok (by decide) (by omega) (by decide) (by omega) ?_
    rw [lowD_eq (o' := b * W + E * (d - b)) (u' := W) (by omega) w0 (frac_sum v0 r1 r4)]
    walk_at "dv"
    exact hq
theorem and_mul {i j : Int} {P : Prop} (h : (-18446744073709551616 < i ∧ i < 18446744073709551616) ∨ (-18446744073709551616 < j ∧ j < 18446744073709551616)) (p : P) : MulOk i j ∧ P := ⟨mulOk h, p⟩
theorem crs_c0 {a b c d e f : Int} : crs a b c d e f = c0 a b c d e f := by unfold crs c0; rfl
theorem crs_c1 {a b c d e f g h : Int} : crs a b c d g h = c0 a b c d e f + wh a b c d e f g h := by unfold crs c0 wh; grind
theorem crs_e0 {a b e f g h : Int} : crs e f g h a b = e0 a b e f g h := by unfold crs e0; grind
theorem crs_e1 {a b c d e f g h : Int} : crs e f g h c d = e0 a b e f g h - wh a b c d e f g h := by unfold crs e0 wh; grind
theorem law_meet_ok {Q : D → Prop} {a b c d e f g h : Int} (ha : In100 a) (hb : In100 b) (hc : In100 c) (hd : In100 d) (he : In100 e) (hf : In100 f) (hg : In100 g) (hh : In100 h) (hq : Q (meetD a b c d e f g h)) : c_law_meet [.tup [.int a, .int b, .int c, .int d], .tup [.int e, .int f, .int g, .int h]] Q := by
  unfold In100 at *
  unfold c_law_meet
  walk_at "dv"
  refine cross_ok (by omega) (by omega) ?_
  walk_at "dv"
  refine cross_ok (by omega) (by omega) ?_
  walk_at "dv"
  refine cross_ok (by omega) (by omega) ?_
  walk_at "dv"
  refine cross_ok (by omega) (by omega) ?_
  walk_at "dv"
  refine ⟨by rfl, by rfl, ?_⟩
  have bC : (c0 a b c d e f).natAbs ≤ 80000 := by
    unfold c0
    have := prod_b (i := c - a) (j := f - b) (m := 200) (n := 200) (by omega) (by omega)
    have := prod_b (i := d - b) (j := e - a) (m := 200) (n := 200) (by omega) (by omega)
    omega
  have bW : (wh a b c d e f g h).natAbs ≤ 80000 := by
    unfold wh
    have := prod_b (i := c - a) (j := h - f) (m := 200) (n := 200) (by omega) (by omega)
    have := prod_b (i := d - b) (j := g - e) (m := 200) (n := 200) (by omega) (by omega)
    omega
  have bE : (e0 a b e f g h).natAbs ≤ 80000 := by
    unfold e0
    have := prod_b (i := e - a) (j := h - f) (m := 200) (n := 200) (by omega) (by omega)
    have := prod_b (i := f - b) (j := g - e) (m := 200) (n := 200) (by omega) (by omega)
    omega
  have ex := ec_x (a := a) (b := b) (c := c) (d := d) (e := e) (f := f) (g := g) (h := h)
  have ey := ec_y (a := a) (b := b) (c := c) (d := d) (e := e) (f := f) (g := g) (h := h)
  rw [show crs a b c d e f = c0 a b c d e f from crs_c0, show crs a b c d g h = c0 a b c d e f + wh a b c d e f g h from crs_c1, show crs e f g h a b = e0 a b e f g h from crs_e0, show crs e f g h c d = e0 a b e f g h - wh a b c d e f g h from crs_e1]
  unfold meetD at hq
  generalize wh a b c d e f g h = W at *
  generalize c0 a b c d e f = C at *
  generalize e0 a b e f g h = E at *
  simp only [Bool.and_eq_true, beq_iff_eq]
  by_cases w0 : W = 0
  · rw [if_pos w0] at hq
    by_cases k0 : C = 0
    · rw [if_pos k0] at hq
      rw [if_pos ⟨k0, by omega⟩]
      unfold commonD comD at hq
      generalize mxx (mnx a b c d) (mny a b c d) (mnx e f g h) (mny e f g h) = p at *
      generalize mxy (mnx a b c d) (mny a b c d) (mnx e f g h) (mny e f g h) = q at *
      generalize mnx (mxx a b c d) (mxy a b c d) (mxx e f g h) (mxy e f g h) = r at *
      generalize mny (mxx a b c d) (mxy a b c d) (mxx e f g h) (mxy e f g h) = t at *
      split
      · rw [if_neg (by omega), if_neg (by omega)] at hq
        exact hq
      · split
        · rw [if_neg (by omega), if_pos (by omega)] at hq
          exact hq
        · rw [if_pos (by omega)] at hq
          exact hq
    · rw [if_neg k0] at hq
      rw [if_neg (fun z => k0 z.1)]
      refine ⟨mulOk (by omega), ?_⟩
      have p : 0 < C * (C + W) := by
        rw [w0, Int.add_zero]
        rcases Int.lt_or_gt_of_ne k0 with h | h
        · exact Int.mul_pos_of_neg_of_neg h h
        · exact Int.mul_pos h h
      rw [if_pos p]
      exact hq
  · rw [if_neg w0] at hq
    rw [if_neg (by omega)]
    refine ⟨mulOk (by omega), ?_⟩
    split
    · rename_i p
      rw [if_pos (.inl p)] at hq
      exact hq
    rename_i p1
    refine ⟨mulOk (by omega), ?_⟩
    split
    · rename_i p
      rw [if_pos (.inr p)] at hq
      exact hq
    rename_i p2
    rw [if_neg (fun z => z.elim p1 p2)] at hq
    refine ⟨mulOk (by omega), mulOk (by omega), law_low_ok (by omega) (by omega) ?_⟩
    rw [lowD_eq (o' := a * W + E * (c - a)) (u' := W) (by omega) w0 (by grind)]
    walk_at "dv"
    refine ⟨mulOk (by omega), mulOk (by omega), law_low_ok (by omega) (by omega) ?_⟩
    rw [lowD_eq (o := f * (C - (C + W)) + (h - f) * C) (u := C - (C + W)) (o' := b * W + E * (d - b)) (u' := W) (by omega) w0 (by grind)]
    walk_at "dv"
    exact hq
def StrokeOk (d : D) : Prop := ∃ a b c e : Int, d = .tup [.int a, .int b, .int c, .int e] ∧ -40 ≤ a ∧ a ≤ 40 ∧ -40 ≤ b ∧ b ≤ 40 ∧ -40 ≤ c ∧ c ≤ 40 ∧ -40 ≤ e ∧ e ≤ 40 ∧ ¬(c = a ∧ e = b)
theorem lk_int {n : Nat} {i : Int} : Lk (n + 1) (.int i) := True.intro
theorem lk_two {n : Nat} {a b : D} (ha : Lk n a) (hb : Lk n b) : Lk (n + 1) (.tup [a, b]) := ⟨by simp, fun d hd => by
  simp only [List.mem_cons, List.not_mem_nil, or_false] at hd
  rcases hd with rfl | rfl
  · exact ha
  · exact hb⟩
theorem in100 {i : Int} (h1 : -40 ≤ i) (h2 : i ≤ 40) : In100 i := ⟨by omega, by omega⟩
local macro_rules | `(tactic| walk_at "dw") => `(tactic| simp (config := { failIfUnchanged := false, implicitDefEqProofs := false }) only [↓k_for_q, ↓k_sAppend1_q, ↓k_sAppend_q, ↓k_sRetOwn_q, ↓k_sPar2_q, ↓k_sPar_q, ↓k_sPar33_q, ↓k_sPar3_q, ↓k_some_q, ↓k_asI_q, ↓k_asS_q, ↓k_rng1_q, ↓k_one_q, ↓k_rng22_q, ↓k_rng21_q, ↓k_rng2_q, ↓k_two_q, ↓k_non_q, ↓k_no_q, ↓k_sSet_q, ↓k_sAsg_q, ↓k_sAsg2_q, ↓k_sIf_q, ↓k_sDrop_q, ↓k_sOwn_q, ↓k_sFor_q, ↓k_gs_q, ↓k_dOp2_q, ↓k_dOp_q, ↓k_dCh4_q, ↓k_dCh3_q, ↓k_dCh2_q, ↓k_dCh1_q, ↓k_dUn_q, ↓k_dTest_q, ↓k_dAnd_q, ↓k_dOr_q, ↓k_dNot_q, ↓k_dAndV_q, ↓k_dOrV_q, ↓k_dIf_q, ↓k_dCons2_q, ↓k_dCons_q, ↓k_dTup_q, ↓k_dLst_q, ↓k_dCall_q, ↓k_dIsi_q, ↓k_dIsi2_q, ↓k_dSl3_q, ↓k_dSl2_q, ↓k_dSl_q, ↓k_dRev_q, ↓k_dLc_q, ↓k_dB_q, ↓chB_b, ↓tsB_b, ↓dVar_s, ↓ownL_o, ↓ownD_o, ↓roL_l, ↓e_sAppend, ↓e_sRetOwn, ↓two_2, ↓three_3, ↓e_sPar, ↓e_sPar3, ↓asI_i, ↓e_dPart, ↓asS_l, ↓asS_t, ↓e_iSeq, ↓one_1, ↓e_iRng1D, ↓e_iRng2D, ↓wipeD_n, ↓wipeD_c, ↓frz_0, ↓frz_0v, ↓frz_s, ↓e_fnD, ↓e_sSeq, ↓e_sNext, ↓e_sBreak, ↓e_sCont, ↓e_sSet, ↓e_sAsg, ↓e_sAsg2, ↓e_sIf, ↓e_sRet, ↓e_sRetN, ↓e_sDrop, ↓e_sNever, ↓e_sOwn, ↓e_sFrz, ↓e_sFor, ↓e_gN, ↓e_gT_t, ↓e_gsNil_n, ↓e_gsCons_c, ↓e_dVar_0, ↓e_dVar_0t, ↓e_dC, ↓e_dOp, ↓e_dChain, ↓e_dUn, ↓e_dTest, ↓e_dAnd, ↓e_dOr, ↓e_dNot, ↓e_dAndV, ↓e_dOrV, ↓e_dIf, ↓e_dNil, ↓e_dCons, ↓e_dTup, ↓e_dLst, ↓e_dCall, ↓e_dB, ↓e_dIsi, ↓e_dIsi2, ↓e_dSl, ↓e_dRev, ↓e_dNo, ↓e_dYes, ↓e_dLc,
  ↓addD_ii, ↓addD_tt, ↓addD_ll, ↓subD_ii, ↓mulD_ii, ↓fdivD_ii, ↓modD_ii, ↓powD_10_9, ↓powD_10_6, ↓ltA_ii, ↓leA_ii, ↓gtA_ii, ↓geA_ii, ↓ltA_t2, ↓leA_t2, ↓gtA_t2, ↓geA_t2, ↓max2A_ii, ↓min2A_ii, ↓slh4, ↓slt4', ↓max2A_c, ↓min2A_c, ↓revD_l, ↓isNon_n, ↓isNon_t, ↓isNon_l, ↓notNon_n, ↓notNon_t, ↓isBD_bb, ↓negD_i, ↓notD_b, ↓absD_i, ↓intC_i, ↓intC_b, ↓lenD_l, ↓lenD_t, ↓listD_l, ↓listD_t, ↓tupleD_l, ↓tupleD_t, ↓allD_l, ↓anyD_l, ↓ixT0, ↓ixT1, ↓ixT2, ↓ixT3, ↓ixL0, ↓ixL1, ↓ixL2, ↓ixL3, ↓slD_l,
  eqD, neD, notInD, sl0, sl1, sl2, sl3, sl4, sl5, sl6, sl7, sl8, sl9, sl10, sl11, sl12, slt0, slt1, slt2, slt3, slt4, slt5, slt6, slt7, slt8, slt9, slt10, slt11, slt12, lay_i, lay_b, lay_n, lay_t0, lay_l0, lay_t2, lay_t4, eqb_ii, eqb_bb, eqb_ss, eqb_nn, eqb_tt, eqb_ll, eqbs_nn, eqbs_cc, eqbs_nc, eqbs_cn, tyOk_n, tyOk_b, tyOk_i, tyOk_s, tyOk_t, tyOk_l, isi_n, isi_b, isi_i, isi_s, isi_t, isi_l,
  List.map_cons, List.map_nil, List.cons_append, List.nil_append, List.append_nil, List.append_assoc, List.length_cons, List.length_nil, List.getElem?_cons_zero, List.getElem?_cons_succ, List.set_cons_zero, List.set_cons_succ, List.replicate, Nat.reduceAdd, Nat.reduceSub, Nat.zero_add, Nat.reduceLeDiff, Nat.reduceEqDiff,
  if_true, if_false, true_and, and_true, and_self, Bool.not_true, Bool.not_false, Bool.false_eq_true, Bool.and_true, Bool.true_and, Bool.or_false, Bool.false_or, Bool.or_true, Bool.true_or, decide_eq_true_eq, decide_true, decide_false, beq_self_eq_true, beq_iff_eq, String.reduceEq, reduceIte, reduceCtorEq])
/-! ### a stroke goes through a square -/
def inX (x dx m p q : Int) : Prop := (2 * m - 1) * q ≤ 2 * x * q + 2 * dx * p ∧ 2 * x * q + 2 * dx * p < (2 * m + 1) * q
def GoesP (a b c d m n : Int) : Prop := ∃ p q : Int, 0 < q ∧ 0 ≤ p ∧ p ≤ q ∧ inX a (c - a) m p q ∧ inX b (d - b) n p q
def geL (n v : Int) (k : Bool) (p q : Int) : Prop := if k = true then n * q ≤ p * v else n * q < p * v
def leH (n v : Int) (k : Bool) (p q : Int) : Prop := if k = true then p * v ≤ n * q else p * v < n * q
theorem mul_le_iff {a b c : Int} (hc : 0 < c) : a * c ≤ b * c ↔ a ≤ b := ⟨fun h => Int.le_of_mul_le_mul_right h hc, fun h => Int.mul_le_mul_of_nonneg_right h (by omega)⟩
theorem mul_lt_iff {a b c : Int} (hc : 0 < c) : a * c < b * c ↔ a < b := ⟨fun h => Int.lt_of_mul_lt_mul_right h (by omega), fun h => Int.mul_lt_mul_of_pos_right h hc⟩
theorem frac_le {n v o u p q : Int} (v0 : 0 < v) (u0 : 0 < u) (r : n * u = o * v) : n * q ≤ p * v ↔ o * q ≤ p * u := by
  rw [← mul_le_iff (a := n * q) u0, ← mul_le_iff (a := o * q) v0, show n * q * u = o * q * v by grind, show p * v * u = p * u * v by grind]
theorem frac_ge {n v o u p q : Int} (v0 : 0 < v) (u0 : 0 < u) (r : n * u = o * v) : p * v ≤ n * q ↔ p * u ≤ o * q := by
  rw [← mul_le_iff (b := n * q) u0, ← mul_le_iff (b := o * q) v0, show n * q * u = o * q * v by grind, show p * v * u = p * u * v by grind]
theorem span_ok {Q : D → Prop} {x dx m : Int} (hx : In100 x) (hd : -200 ≤ dx ∧ dx ≤ 200) (hm : In100 m) (h1 : (∀ p q : Int, 0 < q → ¬inX x dx m p q) → Q .non)
    (h2 : ∀ (n v : Int) (k : Bool) (o w : Int) (l : Bool), 0 < v → 0 < w → Int.gcd n v = 1 → Int.gcd o w = 1 → v ≤ 1000 → w ≤ 1000 → (∀ p q : Int, 0 < q → 0 ≤ p → p ≤ q → (inX x dx m p q ↔ geL n v k p q ∧ leH o w l p q)) → Q (.tup [.tup [.int n, .int v], .bl k, .tup [.int o, .int w], .bl l])) :
    c_span [.int x, .int dx, .int m] Q := by
  unfold In100 at *
  unfold c_span
  walk_at "dv"
  split
  · rename_i e
    subst e
    split
    · rename_i e
      subst e
      refine h2 0 1 true 1 1 true (by decide) (by decide) (by decide) (by decide) (by decide) (by decide) fun p q q0 p0 p1 => ?_
      unfold inX geL leH
      rw [if_pos rfl, if_pos rfl]
      have e1 : (2 * m - 1) * q = 2 * m * q - q := by grind
      have e2 : (2 * m + 1) * q = 2 * m * q + q := by grind
      omega
    · rename_i ne
      refine h1 fun p q q0 h => ?_
      unfold inX at h
      rw [Int.mul_zero, Int.zero_mul, Int.add_zero] at h
      have a1 := (mul_le_iff q0).mp h.1
      have a2 := (mul_lt_iff q0).mp h.2
      omega
  · rename_i ne
    refine ⟨mulOk (by omega), mulOk (by omega), lowest_ok (by omega) (by omega) ?_⟩
    obtain ⟨n, v, e1, v0, r1, -, s1, c1⟩ := lowD_spec (o := 2 * (m - x) - 1) (u := 2 * dx) (by omega)
    rw [e1]
    walk_at "dv"
    refine ⟨mulOk (by omega), mulOk (by omega), lowest_ok (by omega) (by omega) ?_⟩
    obtain ⟨o, w, e2, w0, r2, -, s2, c2⟩ := lowD_spec (o := 2 * (m - x) + 1) (u := 2 * dx) (by omega)
    rw [e2]
    walk_at "dv"
    split
    · rename_i dp
      refine h2 n v true o w false v0 w0 c1 c2 (by omega) (by omega) fun p q q0 p0 p1 => ?_
      have f1 := frac_le (p := p) (q := q) v0 (show 0 < 2 * dx by omega) r1
      have f2 := frac_le (p := p) (q := q) w0 (show 0 < 2 * dx by omega) r2
      unfold inX geL leH
      rw [if_pos rfl, if_neg (by decide)]
      rw [show (2 * (m - x) - 1) * q = 2 * (m * q) - 2 * (x * q) - q by grind, show p * (2 * dx) = 2 * (dx * p) by grind] at f1
      rw [show (2 * (m - x) + 1) * q = 2 * (m * q) - 2 * (x * q) + q by grind, show p * (2 * dx) = 2 * (dx * p) by grind] at f2
      rw [show (2 * m - 1) * q = 2 * (m * q) - q by grind, show (2 * m + 1) * q = 2 * (m * q) + q by grind, show 2 * x * q = 2 * (x * q) by grind, show 2 * dx * p = 2 * (dx * p) by grind]
      omega
    · rename_i dp
      refine h2 o w false n v true w0 v0 c2 c1 (by omega) (by omega) fun p q q0 p0 p1 => ?_
      have f1 := frac_ge (n := n) (o := -(2 * (m - x) - 1)) (p := p) (q := q) v0 (show 0 < -(2 * dx) by omega) (by grind)
      have f2 := frac_ge (n := o) (o := -(2 * (m - x) + 1)) (p := p) (q := q) w0 (show 0 < -(2 * dx) by omega) (by grind)
      unfold inX geL leH
      rw [if_pos rfl, if_neg (by decide)]
      rw [show -(2 * (m - x) - 1) * q = -(2 * (m * q)) + 2 * (x * q) + q by grind, show p * -(2 * dx) = -(2 * (dx * p)) by grind] at f1
      rw [show -(2 * (m - x) + 1) * q = -(2 * (m * q)) + 2 * (x * q) - q by grind, show p * -(2 * dx) = -(2 * (dx * p)) by grind] at f2
      rw [show (2 * m - 1) * q = 2 * (m * q) - q by grind, show (2 * m + 1) * q = 2 * (m * q) + q by grind, show 2 * x * q = 2 * (x * q) by grind, show 2 * dx * p = 2 * (dx * p) by grind]
      omega
theorem forD_rest {g : DG} {b : DS} {N : DN} (I : List D → List Slot → Prop) : ∀ (ds : List D) (ρ : List Slot), I ds ρ →
    (∀ (d : D) (ds : List D) (ρ : List Slot) (M : DN), I (d :: ds) ρ → (∀ ρ', I ds ρ' → M.nx ρ') → (∀ ρ', I ds ρ' → M.ct ρ') → M.rt = N.rt → M.bk = N.nx → g d ρ (fun ρ' => b M ρ')) → (∀ ρ, I [] ρ → N.nx ρ) → forD g b N ds ρ
  | [], ρ, h, _, e => e ρ h
  | d :: ds, ρ, h, s, e => s d ds ρ _ h (fun ρ' h' => forD_rest I ds ρ' h' s e) (fun ρ' h' => forD_rest I ds ρ' h' s e) rfl rfl
/-! what stands between two bounds -/
theorem cmp_le {n v w p q : Int} (w0 : 0 < w) : n * q ≤ p * v ↔ n * w * q ≤ p * v * w := by rw [← mul_le_iff (a := n * q) w0, show n * q * w = n * w * q by grind]
theorem cmp_lt {n v w p q : Int} (w0 : 0 < w) : n * q < p * v ↔ n * w * q < p * v * w := by rw [← mul_lt_iff (a := n * q) w0, show n * q * w = n * w * q by grind]
theorem cmp_ge {n v w p q : Int} (w0 : 0 < w) : p * v ≤ n * q ↔ p * v * w ≤ n * w * q := by rw [← mul_le_iff (b := n * q) w0, show n * q * w = n * w * q by grind]
theorem cmp_gt {n v w p q : Int} (w0 : 0 < w) : p * v < n * q ↔ p * v * w < n * w * q := by rw [← mul_lt_iff (b := n * q) w0, show n * q * w = n * w * q by grind]
theorem geL_upd {n v n2 v2 : Int} {k k2 : Bool} {p q : Int} (q0 : 0 < q) (v0 : 0 < v) (w0 : 0 < v2) (h : n * v2 < n2 * v ∨ (n * v2 = n2 * v ∧ k2 = false)) : (geL n v k p q ∧ geL n2 v2 k2 p q) ↔ geL n2 v2 k2 p q := by
  unfold geL
  rw [cmp_le (n := n) (v := v) w0, cmp_lt (n := n) (v := v) w0, cmp_le (n := n2) (v := v2) v0, cmp_lt (n := n2) (v := v2) v0, show p * v2 * v = p * v * v2 by grind]
  have f1 := mul_lt_iff (a := n * v2) (b := n2 * v) q0
  have f2 : n * v2 = n2 * v → n * v2 * q = n2 * v * q := fun e => by rw [e]
  generalize n * v2 * q = A at *
  generalize n2 * v * q = B at *
  generalize p * v * v2 = T at *
  cases k <;> cases k2 <;> simp only [if_true, if_false, Bool.false_eq_true, reduceCtorEq, and_false, or_false, and_true, reduceIte] at * <;> omega
theorem geL_stay {n v n2 v2 : Int} {k k2 : Bool} {p q : Int} (q0 : 0 < q) (v0 : 0 < v) (w0 : 0 < v2) (h1 : ¬n * v2 < n2 * v) (h2 : ¬(n * v2 = n2 * v ∧ k2 = false)) : (geL n v k p q ∧ geL n2 v2 k2 p q) ↔ geL n v k p q := by
  unfold geL
  rw [cmp_le (n := n) (v := v) w0, cmp_lt (n := n) (v := v) w0, cmp_le (n := n2) (v := v2) v0, cmp_lt (n := n2) (v := v2) v0, show p * v2 * v = p * v * v2 by grind]
  have f1 := mul_lt_iff (a := n2 * v) (b := n * v2) q0
  have f2 : n * v2 = n2 * v → n * v2 * q = n2 * v * q := fun e => by rw [e]
  generalize n * v2 * q = A at *
  generalize n2 * v * q = B at *
  generalize p * v * v2 = T at *
  cases k <;> cases k2 <;> simp only [if_true, if_false, Bool.false_eq_true, reduceCtorEq, and_false, and_true, reduceIte] at * <;> omega
theorem leH_upd {n v n2 v2 : Int} {k k2 : Bool} {p q : Int} (q0 : 0 < q) (v0 : 0 < v) (w0 : 0 < v2) (h : n2 * v < n * v2 ∨ (n * v2 = n2 * v ∧ k2 = false)) : (leH n v k p q ∧ leH n2 v2 k2 p q) ↔ leH n2 v2 k2 p q := by
  unfold leH
  rw [cmp_ge (n := n) (v := v) w0, cmp_gt (n := n) (v := v) w0, cmp_ge (n := n2) (v := v2) v0, cmp_gt (n := n2) (v := v2) v0, show p * v2 * v = p * v * v2 by grind]
  have f1 := mul_lt_iff (a := n2 * v) (b := n * v2) q0
  have f2 : n * v2 = n2 * v → n * v2 * q = n2 * v * q := fun e => by rw [e]
  generalize n * v2 * q = A at *
  generalize n2 * v * q = B at *
  generalize p * v * v2 = T at *
  cases k <;> cases k2 <;> simp only [if_true, if_false, Bool.false_eq_true, reduceCtorEq, and_false, or_false, and_true, reduceIte] at * <;> omega
theorem leH_stay {n v n2 v2 : Int} {k k2 : Bool} {p q : Int} (q0 : 0 < q) (v0 : 0 < v) (w0 : 0 < v2) (h1 : ¬n2 * v < n * v2) (h2 : ¬(n * v2 = n2 * v ∧ k2 = false)) : (leH n v k p q ∧ leH n2 v2 k2 p q) ↔ leH n v k p q := by
  unfold leH
  rw [cmp_ge (n := n) (v := v) w0, cmp_gt (n := n) (v := v) w0, cmp_ge (n := n2) (v := v2) v0, cmp_gt (n := n2) (v := v2) v0, show p * v2 * v = p * v * v2 by grind]
  have f1 := mul_lt_iff (a := n * v2) (b := n2 * v) q0
  have f2 : n * v2 = n2 * v → n * v2 * q = n2 * v * q := fun e => by rw [e]
  generalize n * v2 * q = A at *
  generalize n2 * v * q = B at *
  generalize p * v * v2 = T at *
  cases k <;> cases k2 <;> simp only [if_true, if_false, Bool.false_eq_true, reduceCtorEq, and_false, and_true, reduceIte] at * <;> omega
theorem between {n v m w : Int} {k l : Bool} (v0 : 0 < v) (w0 : 0 < w) : (∃ p q : Int, 0 < q ∧ geL n v k p q ∧ leH m w l p q) ↔ (n * w < m * v ∨ (n * w = m * v ∧ k = true ∧ l = true)) := by
  constructor
  · rintro ⟨p, q, q0, h1, h2⟩
    unfold geL at h1
    unfold leH at h2
    rw [cmp_le (n := n) (v := v) w0, cmp_lt (n := n) (v := v) w0] at h1
    rw [cmp_ge (n := m) (v := w) v0, cmp_gt (n := m) (v := w) v0, show p * w * v = p * v * w by grind] at h2
    have f1 := mul_lt_iff (a := n * w) (b := m * v) q0
    have f2 := mul_lt_iff (a := m * v) (b := n * w) q0
    generalize n * w * q = A at *
    generalize m * v * q = B at *
    generalize p * v * w = T at *
    cases k <;> cases l <;> simp only [if_true, if_false, Bool.false_eq_true, reduceCtorEq, and_false, or_false, and_true, reduceIte] at * <;> omega
  · rintro (h | ⟨h, rfl, rfl⟩)
    · refine ⟨n * w + m * v, 2 * (v * w), by have := Int.mul_pos v0 w0; omega, ?_, ?_⟩
      · have : n * (2 * (v * w)) < (n * w + m * v) * v := by
          rw [show n * (2 * (v * w)) = (2 * (n * w)) * v by grind, mul_lt_iff v0]
          omega
        unfold geL
        split
        · omega
        · exact this
      · have : (n * w + m * v) * w < m * (2 * (v * w)) := by
          rw [show m * (2 * (v * w)) = (2 * (m * v)) * w by grind, mul_lt_iff w0]
          omega
        unfold leH
        split
        · omega
        · exact this
    · refine ⟨n, v, v0, ?_, ?_⟩
      · unfold geL
        rw [if_pos rfl]
        omega
      · unfold leH
        rw [if_pos rfl]
        omega
def GoesI (a b c d m n : Int) (Q : D → Prop) (rem : List D) (ρ : List Slot) : Prop :=
  ∃ (n1 v1 : Int) (k1 : Bool) (n2 v2 : Int) (k2 : Bool) (s10 s11 s12 s13 : Slot),
    ρ = [.v (.tup [.int a, .int b, .int c, .int d]), .v (.tup [.int m, .int n]), .v (.bl k1), .v (.bl k2), .v (.int a), .v (.int b), .v (.int c), .v (.int d), .v (.tup [.int n1, .int v1]), .v (.tup [.int n2, .int v2]), s10, s11, s12, s13]
    ∧ 0 < v1 ∧ 0 < v2 ∧ v1 ≤ 1000 ∧ v2 ≤ 1000 ∧ Int.gcd n1 v1 = 1 ∧ Int.gcd n2 v2 = 1
    ∧ (∀ p q : Int, 0 < q → geL n1 v1 k1 p q → leH n2 v2 k2 p q → 0 ≤ p ∧ p ≤ q)
    ∧ ∃ ax : List (Int × Int × Int), rem = ax.map (fun x => .tup [.int x.1, .int x.2.1, .int x.2.2]) ∧ (∀ x ∈ ax, In100 x.1 ∧ (-200 ≤ x.2.1 ∧ x.2.1 ≤ 200) ∧ In100 x.2.2)
      ∧ ∀ p q : Int, 0 < q → 0 ≤ p → p ≤ q → ((inX a (c - a) m p q ∧ inX b (d - b) n p q) ↔ (geL n1 v1 k1 p q ∧ leH n2 v2 k2 p q ∧ ∀ x ∈ ax, inX x.1 x.2.1 x.2.2 p q))
theorem goes_ok {Q : D → Prop} {a b c d m n : Int} (ha : In100 a) (hb : In100 b) (hc : In100 c) (hd : In100 d) (hm : In100 m) (hn : In100 n) (hq : ∀ r : Bool, (r = true ↔ GoesP a b c d m n) → Q (.bl r)) : c_goes [.tup [.int a, .int b, .int c, .int d], .tup [.int m, .int n]] Q := by
  unfold c_goes
  walk_at "dw"
  refine forD_rest (GoesI a b c d m n Q) _ _ ?_ ?_ ?_
  · refine ⟨0, 1, true, 1, 1, true, _, _, _, _, rfl, by decide, by decide, by decide, by decide, by decide, by decide, ?_, [(a, c - a, m), (b, d - b, n)], rfl, ?_, ?_⟩
    · intro p q q0 h1 h2
      unfold geL at h1
      unfold leH at h2
      rw [if_pos rfl] at h1 h2
      omega
    · intro x hx
      simp only [List.mem_cons, List.not_mem_nil, or_false] at hx
      unfold In100 at *
      rcases hx with rfl | rfl <;> dsimp only
      · exact ⟨⟨by omega, by omega⟩, ⟨by omega, by omega⟩, ⟨by omega, by omega⟩⟩
      · exact ⟨⟨by omega, by omega⟩, ⟨by omega, by omega⟩, ⟨by omega, by omega⟩⟩
    · intro p q q0 p0 p1
      unfold geL leH
      rw [if_pos rfl, if_pos rfl]
      simp only [List.mem_cons, List.not_mem_nil, or_false, forall_eq_or_imp, forall_eq]
      constructor
      · exact fun z => ⟨by omega, by omega, z.1, z.2⟩
      · exact fun z => ⟨z.2.2.1, z.2.2.2⟩
  · rintro d0 ds ρ M ⟨n1, v1, k1, n2, v2, k2, s10, s11, s12, s13, rfl, v10, v20, b1, b2, g1, g2, hI, ax, hr, hx, hP⟩ hnx hct hrt hbk
    rcases ax with _ | ⟨⟨x, dx, mm⟩, ax⟩
    · exact absurd hr (by simp)
    rw [List.map_cons, List.cons.injEq] at hr
    obtain ⟨rfl, rfl⟩ := hr
    walk_at "dw"
    have hx0 := hx _ List.mem_cons_self
    refine span_ok hx0.1 hx0.2.1 hx0.2.2 ?_ ?_
    · intro h0
      walk_at "dw"
      rw [hrt]
      walk_at "dw"
      refine hq false ⟨fun z => by simp at z, ?_⟩
      rintro ⟨p, q, q0, p0, p1, i1, i2⟩
      exact absurd (((hP p q q0 p0 p1).mp ⟨i1, i2⟩).2.2 _ List.mem_cons_self) (h0 p q q0)
    · intro n3 v3 k3 n4 v4 k4 v30 v40 g3 g4 b3 b4 hS
      walk_at "dw"
      have Lq : (n1 = n3 ∧ v1 = v3) ↔ n1 * v3 = n3 * v1 := ⟨fun z => by rw [z.1, z.2], fun z => cop_eq v10 v30 g1 g3 z⟩
      have Hq : (n2 = n4 ∧ v2 = v4) ↔ n2 * v4 = n4 * v2 := ⟨fun z => by rw [z.1, z.2], fun z => cop_eq v20 v40 g2 g4 z⟩
      have fin : ∀ (n5 v5 : Int) (k5 : Bool) (n6 v6 : Int) (k6 : Bool) (t10 t11 t12 t13 : Slot), 0 < v5 → 0 < v6 → v5 ≤ 1000 → v6 ≤ 1000 → Int.gcd n5 v5 = 1 → Int.gcd n6 v6 = 1 →
          (∀ p q : Int, 0 < q → ((geL n1 v1 k1 p q ∧ geL n3 v3 k3 p q) ↔ geL n5 v5 k5 p q)) → (∀ p q : Int, 0 < q → ((leH n2 v2 k2 p q ∧ leH n4 v4 k4 p q) ↔ leH n6 v6 k6 p q)) →
          M.nx [.v (.tup [.int a, .int b, .int c, .int d]), .v (.tup [.int m, .int n]), .v (.bl k5), .v (.bl k6), .v (.int a), .v (.int b), .v (.int c), .v (.int d), .v (.tup [.int n5, .int v5]), .v (.tup [.int n6, .int v6]), t10, t11, t12, t13] :=
        fun n5 v5 k5 n6 v6 k6 t10 t11 t12 t13 q1 q2 q3 q4 q5 q6 L H => hnx _ ⟨n5, v5, k5, n6, v6, k6, t10, t11, t12, t13, rfl, q1, q2, q3, q4, q5, q6, fun p q q0 h1 h2 => hI p q q0 ((L p q q0).mpr h1).1 ((H p q q0).mpr h2).1, ax, rfl, fun y hy => hx y (List.mem_cons_of_mem _ hy), fun p q q0 p0 p1 => by
          have e1 := hP p q q0 p0 p1
          have e2 := hS p q q0 p0 p1
          have e3 := L p q q0
          have e4 := H p q q0
          rw [List.forall_mem_cons] at e1
          dsimp only at e1
          rw [e2] at e1
          rw [e1, ← e3, ← e4]
          constructor
          · exact fun z => ⟨⟨z.1, z.2.2.1.1⟩, ⟨z.2.1, z.2.2.1.2⟩, z.2.2.2⟩
          · exact fun z => ⟨z.1.1, z.2.1.1, ⟨z.1.2, z.2.1.2⟩, z.2.2⟩⟩
      refine below_ok (by omega) (by omega) ?_
      walk_at "dw"
      simp only [Bool.and_eq_true, beq_iff_eq, Bool.not_eq_true']
      have high : ∀ (n5 v5 : Int) (k5 : Bool) (t10 t11 t12 t13 : Slot), 0 < v5 → v5 ≤ 1000 → Int.gcd n5 v5 = 1 → (∀ p q : Int, 0 < q → ((geL n1 v1 k1 p q ∧ geL n3 v3 k3 p q) ↔ geL n5 v5 k5 p q)) →
          (if n4 * v2 < n2 * v4 then M.nx [.v (.tup [.int a, .int b, .int c, .int d]), .v (.tup [.int m, .int n]), .v (.bl k5), .v (.bl k4), .v (.int a), .v (.int b), .v (.int c), .v (.int d), .v (.tup [.int n5, .int v5]), .v (.tup [.int n4, .int v4]), t10, t11, t12, t13]
           else if n2 = n4 ∧ v2 = v4 then (if k4 = false then M.nx [.v (.tup [.int a, .int b, .int c, .int d]), .v (.tup [.int m, .int n]), .v (.bl k5), .v (.bl k4), .v (.int a), .v (.int b), .v (.int c), .v (.int d), .v (.tup [.int n5, .int v5]), .v (.tup [.int n4, .int v4]), t10, t11, t12, t13]
             else M.nx [.v (.tup [.int a, .int b, .int c, .int d]), .v (.tup [.int m, .int n]), .v (.bl k5), .v (.bl k2), .v (.int a), .v (.int b), .v (.int c), .v (.int d), .v (.tup [.int n5, .int v5]), .v (.tup [.int n2, .int v2]), t10, t11, t12, t13])
           else M.nx [.v (.tup [.int a, .int b, .int c, .int d]), .v (.tup [.int m, .int n]), .v (.bl k5), .v (.bl k2), .v (.int a), .v (.int b), .v (.int c), .v (.int d), .v (.tup [.int n5, .int v5]), .v (.tup [.int n2, .int v2]), t10, t11, t12, t13]) := by
        intro n5 v5 k5 t10 t11 t12 t13 q1 q3 q5 L
        split
        · rename_i h
          exact fin _ _ _ _ _ _ _ _ _ _ q1 v40 q3 b4 q5 g4 L fun p q q0 => leH_upd q0 v20 v40 (.inl h)
        rename_i h1
        split
        · rename_i h2
          split
          · rename_i h3
            exact fin _ _ _ _ _ _ _ _ _ _ q1 v40 q3 b4 q5 g4 L fun p q q0 => leH_upd q0 v20 v40 (.inr ⟨Hq.mp h2, h3⟩)
          · rename_i h3
            exact fin _ _ _ _ _ _ _ _ _ _ q1 v20 q3 b2 q5 g2 L fun p q q0 => leH_stay q0 v20 v40 h1 fun z => h3 z.2
        · rename_i h2
          exact fin _ _ _ _ _ _ _ _ _ _ q1 v20 q3 b2 q5 g2 L fun p q q0 => leH_stay q0 v20 v40 h1 fun z => h2 (Hq.mpr z.1)
      split
      · rename_i h
        refine below_ok (by omega) (by omega) ?_
        walk_at "dw"
        simp only [Bool.and_eq_true, beq_iff_eq, Bool.not_eq_true']
        exact high _ _ _ _ _ _ _ v30 b3 g3 fun p q q0 => geL_upd q0 v10 v30 (.inl h)
      rename_i h1
      split
      · rename_i h2
        split
        · rename_i h3
          refine below_ok (by omega) (by omega) ?_
          walk_at "dw"
          simp only [Bool.and_eq_true, beq_iff_eq, Bool.not_eq_true']
          exact high _ _ _ _ _ _ _ v30 b3 g3 fun p q q0 => geL_upd q0 v10 v30 (.inr ⟨Lq.mp h2, h3⟩)
        · rename_i h3
          refine below_ok (by omega) (by omega) ?_
          walk_at "dw"
          simp only [Bool.and_eq_true, beq_iff_eq, Bool.not_eq_true']
          exact high _ _ _ _ _ _ _ v10 b1 g1 fun p q q0 => geL_stay q0 v10 v30 h1 fun z => h3 z.2
      · rename_i h2
        refine below_ok (by omega) (by omega) ?_
        walk_at "dw"
        simp only [Bool.and_eq_true, beq_iff_eq, Bool.not_eq_true']
        exact high _ _ _ _ _ _ _ v10 b1 g1 fun p q q0 => geL_stay q0 v10 v30 h1 fun z => h2 (Lq.mpr z.1)
  · rintro ρ ⟨n1, v1, k1, n2, v2, k2, s10, s11, s12, s13, rfl, v10, v20, b1, b2, g1, g2, hI, ax, hr, hx, hP⟩
    walk_at "dw"
    refine below_ok (by omega) (by omega) ?_
    walk_at "dw"
    obtain rfl : ax = [] := by
      cases ax with
      | nil => rfl
      | cons _ _ => simp at hr
    have key : GoesP a b c d m n ↔ (n1 * v2 < n2 * v1 ∨ (n1 * v2 = n2 * v1 ∧ k1 = true ∧ k2 = true)) := by
      rw [← between v10 v20]
      constructor
      · rintro ⟨p, q, q0, p0, p1, i1, i2⟩
        have := (hP p q q0 p0 p1).mp ⟨i1, i2⟩
        exact ⟨p, q, q0, this.1, this.2.1⟩
      · rintro ⟨p, q, q0, h1, h2⟩
        have h3 := hI p q q0 h1 h2
        have := (hP p q q0 h3.1 h3.2).mpr ⟨h1, h2, by simp⟩
        exact ⟨p, q, q0, h3.1, h3.2, this.1, this.2⟩
    have Lq : (n1 = n2 ∧ v1 = v2) ↔ n1 * v2 = n2 * v1 := ⟨fun z => by rw [z.1, z.2], fun z => cop_eq v10 v20 g1 g2 z⟩
    simp only [Bool.and_eq_true, beq_iff_eq]
    split
    · rename_i h
      exact hq true ⟨fun _ => key.mpr (.inl h), fun _ => rfl⟩
    rename_i h1
    split
    · rename_i h2
      split
      · rename_i h3
        refine hq k2 ⟨fun z => key.mpr (.inr ⟨Lq.mp h2, h3, z⟩), fun z => (key.mp z).elim (fun z => absurd z h1) fun z => z.2.2⟩
      · rename_i h3
        refine hq false ⟨fun z => by simp at z, fun z => (key.mp z).elim (fun z => absurd z h1) fun z => absurd z.2.1 h3⟩
    · rename_i h2
      refine hq false ⟨fun z => by simp at z, fun z => (key.mp z).elim (fun z => absurd z h1) fun z => absurd (Lq.mpr z.1) h2⟩
theorem goesP_r {a b c d m n : Int} : GoesP c d a b m n ↔ GoesP a b c d m n := by
  have key : ∀ a b c d : Int, GoesP a b c d m n → GoesP c d a b m n := by
    rintro a b c d ⟨p, q, q0, p0, p1, i1, i2⟩
    refine ⟨q - p, q, q0, by omega, by omega, ?_, ?_⟩
    · unfold inX at *
      rw [show 2 * c * q + 2 * (a - c) * (q - p) = 2 * a * q + 2 * (c - a) * p by grind]
      exact i1
    · unfold inX at *
      rw [show 2 * d * q + 2 * (b - d) * (q - p) = 2 * b * q + 2 * (d - b) * p by grind]
      exact i2
  exact ⟨key _ _ _ _, key _ _ _ _⟩

/-! ### the law's own clipping -/
def cloX (x dx m p q : Int) : Prop := (2 * m - 1) * q ≤ 2 * x * q + 2 * dx * p ∧ 2 * x * q + 2 * dx * p ≤ (2 * m + 1) * q
theorem law_clip_ok {Q : D → Prop} {x dx m : Int} (h1 : (∀ p q : Int, 0 < q → ¬cloX x dx m p q) → Q (.lst []))
    (h2 : ∀ n v o w : Int, 0 < v → 0 < w → v ≤ 2 * dx.natAbs + 1 → w ≤ 2 * dx.natAbs + 1 → (∀ p q : Int, 0 < q → 0 ≤ p → p ≤ q → (cloX x dx m p q ↔ geL n v true p q ∧ leH o w true p q)) → Q (.lst [.tup [.int n, .int v], .tup [.int o, .int w]])) :
    c_law_clip [.int (2 * x), .int (2 * dx), .int (2 * m - 1), .int (2 * m + 1)] Q := by
  unfold c_law_clip
  walk_at "dv"
  split
  · rename_i e
    have e : dx = 0 := by omega
    subst e
    have out : ¬(2 * m - 1 ≤ 2 * x ∧ 2 * x ≤ 2 * m + 1) → Q (.lst []) := by
      intro ne
      refine h1 fun p q q0 h => ?_
      unfold cloX at h
      rw [Int.mul_zero, Int.zero_mul, Int.add_zero] at h
      exact ne ⟨(mul_le_iff q0).mp h.1, (mul_le_iff q0).mp h.2⟩
    split
    · rename_i i1
      split
      · rename_i i2
        refine h2 0 1 1 1 (by decide) (by decide) (by decide) (by decide) fun p q q0 p0 p1 => ?_
        unfold cloX geL leH
        rw [if_pos rfl, if_pos rfl, Int.mul_zero, Int.zero_mul, Int.add_zero, mul_le_iff q0, mul_le_iff q0]
        omega
      · rename_i i2
        exact out fun z => i2 z.2
    · rename_i i1
      exact out fun z => i1 z.1
  · rename_i ne
    split
    · rename_i dn
      refine h2 _ _ _ _ (by omega) (by omega) (by omega) (by omega) fun p q q0 p0 p1 => ?_
      unfold cloX geL leH
      rw [if_pos rfl, if_pos rfl]
      rw [show (2 * x - (2 * m + 1)) * q = 2 * (x * q) - 2 * (m * q) - q by grind, show (2 * x - (2 * m - 1)) * q = 2 * (x * q) - 2 * (m * q) + q by grind, show p * (0 - 2 * dx) = -(2 * (dx * p)) by grind,
        show (2 * m - 1) * q = 2 * (m * q) - q by grind, show (2 * m + 1) * q = 2 * (m * q) + q by grind, show 2 * x * q = 2 * (x * q) by grind, show 2 * dx * p = 2 * (dx * p) by grind]
      omega
    · rename_i dn
      refine h2 _ _ _ _ (by omega) (by omega) (by omega) (by omega) fun p q q0 p0 p1 => ?_
      unfold cloX geL leH
      rw [if_pos rfl, if_pos rfl]
      rw [show (2 * m - 1 - 2 * x) * q = 2 * (m * q) - 2 * (x * q) - q by grind, show (2 * m + 1 - 2 * x) * q = 2 * (m * q) - 2 * (x * q) + q by grind, show p * (2 * dx) = 2 * (dx * p) by grind,
        show (2 * m - 1) * q = 2 * (m * q) - q by grind, show (2 * m + 1) * q = 2 * (m * q) + q by grind, show 2 * x * q = 2 * (x * q) by grind, show 2 * dx * p = 2 * (dx * p) by grind]
      omega
theorem law_later_ok {Q : D → Prop} {a b c d : Int} (hb : b ≤ 1000) (hd : d ≤ 1000) (b0 : 0 < b) (d0 : 0 < d) (h : ∀ n v : Int, 0 < v → v ≤ 1000 → (∀ p q : Int, 0 < q → (geL n v true p q ↔ geL a b true p q ∧ geL c d true p q)) → Q (.tup [.int n, .int v])) : c_law_later [.tup [.int a, .int b], .tup [.int c, .int d]] Q := by
  unfold c_law_later
  walk_at "dv"
  refine ⟨mulOk (by omega), mulOk (by omega), ?_⟩
  split
  · rename_i g
    refine h _ _ b0 hb fun p q q0 => ?_
    rw [and_comm]
    exact (geL_upd q0 d0 b0 (.inl g)).symm
  · rename_i g
    refine h _ _ d0 hd fun p q q0 => ?_
    rw [and_comm]
    exact (geL_stay q0 d0 b0 g fun z => by simp at z).symm
theorem law_sooner_ok {Q : D → Prop} {a b c d : Int} (hb : b ≤ 1000) (hd : d ≤ 1000) (b0 : 0 < b) (d0 : 0 < d) (h : ∀ n v : Int, 0 < v → v ≤ 1000 → (∀ p q : Int, 0 < q → (leH n v true p q ↔ leH a b true p q ∧ leH c d true p q)) → Q (.tup [.int n, .int v])) : c_law_sooner [.tup [.int a, .int b], .tup [.int c, .int d]] Q := by
  unfold c_law_sooner
  walk_at "dv"
  refine ⟨mulOk (by omega), mulOk (by omega), ?_⟩
  split
  · rename_i g
    refine h _ _ b0 hb fun p q q0 => ?_
    rw [and_comm]
    exact (leH_upd q0 d0 b0 (.inl g)).symm
  · rename_i g
    refine h _ _ d0 hd fun p q q0 => ?_
    rw [and_comm]
    exact (leH_stay q0 d0 b0 g fun z => by simp at z).symm
theorem law_inside_ok {Q : D → Prop} {a b c d m n p q : Int} (ha : In100 a) (hb : In100 b) (hc : In100 c) (hd : In100 d) (hm : In100 m) (hn : In100 n) (hq : ∀ r : Bool, (r = true ↔ (inX a (c - a) m p q ∧ inX b (d - b) n p q)) → Q (.bl r)) : c_law_inside [.tup [.int a, .int b, .int c, .int d], .tup [.int p, .int q], .tup [.int m, .int n]] Q := by
  unfold In100 at *
  unfold c_law_inside
  walk_at "dv"
  repeat' (first | split | refine and_mul ?_ ?_)
  all_goals first
    | omega
    | (refine hq _ ?_
       unfold inX
       simp only [decide_eq_true_eq, Bool.false_eq_true, false_iff]
       omega)
theorem no_both {α β l u h w p q : Int} (u0 : 0 < u) (w0 : 0 < w) (g1 : α * u = β * l) (g2 : α * w = β * h) (b1 : l * q ≤ p * u) (b2 : p * w ≤ h * q) (g3 : β * p < α * q) : False := by
  have k1 : 0 < β * (l * q - p * u) := by
    have := Int.mul_pos (show 0 < α * q - β * p by omega) u0
    have e : (α * q - β * p) * u = β * (l * q - p * u) := by grind
    omega
  have k2 : 0 < β * (h * q - p * w) := by
    have := Int.mul_pos (show 0 < α * q - β * p by omega) w0
    have e : (α * q - β * p) * w = β * (h * q - p * w) := by grind
    omega
  rcases Int.lt_or_le β 0 with h1 | h1
  · have := Int.mul_nonneg (show 0 ≤ -β by omega) (show 0 ≤ h * q - p * w by omega)
    rw [Int.neg_mul] at this
    omega
  · have := Int.mul_nonneg h1 (show 0 ≤ p * u - l * q by omega)
    have e : β * (l * q - p * u) = -(β * (p * u - l * q)) := by grind
    omega
theorem mid_in {x dx m l u h w p q : Int} (u0 : 0 < u) (w0 : 0 < w) (q0 : 0 < q) (c1 : cloX x dx m l u) (c2 : cloX x dx m h w) (b1 : l * q ≤ p * u) (b2 : p * w ≤ h * q) (i : inX x dx m p q) : inX x dx m (l * w + h * u) (2 * u * w) := by
  unfold cloX at c1 c2
  unfold inX at *
  have e2 : 2 * x * (2 * u * w) + 2 * dx * (l * w + h * u) = (2 * x * u + 2 * dx * l) * w + (2 * x * w + 2 * dx * h) * u := by grind
  constructor
  · have h1 := Int.mul_le_mul_of_nonneg_right c1.1 (show 0 ≤ w by omega)
    have h2 := Int.mul_le_mul_of_nonneg_right c2.1 (show 0 ≤ u by omega)
    have e1 : (2 * m - 1) * (2 * u * w) = (2 * m - 1) * u * w + (2 * m - 1) * w * u := by grind
    rw [e1, e2]
    omega
  · have h1 := Int.mul_le_mul_of_nonneg_right c1.2 (show 0 ≤ w by omega)
    have h2 := Int.mul_le_mul_of_nonneg_right c2.2 (show 0 ≤ u by omega)
    have e1 : (2 * m + 1) * (2 * u * w) = (2 * m + 1) * u * w + (2 * m + 1) * w * u := by grind
    rw [e1, e2]
    rcases Int.lt_or_le ((2 * x * u + 2 * dx * l) * w + (2 * x * w + 2 * dx * h) * u) ((2 * m + 1) * u * w + (2 * m + 1) * w * u) with z | z
    · exact z
    · exfalso
      have z1 : (2 * x * u + 2 * dx * l) = (2 * m + 1) * u := Int.eq_of_mul_eq_mul_right (a := w) (by omega) (by omega)
      have z2 : (2 * x * w + 2 * dx * h) = (2 * m + 1) * w := Int.eq_of_mul_eq_mul_right (a := u) (by omega) (by omega)
      exact no_both (α := 2 * m + 1 - 2 * x) (β := 2 * dx) u0 w0 (by grind) (by grind) b1 b2 (by have := i.2; grind)
theorem law_goes_ok {Q : D → Prop} {a b c d m n : Int} (ha : In100 a) (hb : In100 b) (hc : In100 c) (hd : In100 d) (hm : In100 m) (hn : In100 n) (hq : ∀ r : Bool, (r = true ↔ GoesP a b c d m n) → Q (.bl r)) : c_law_goes [.tup [.int a, .int b, .int c, .int d], .tup [.int m, .int n]] Q := by
  have inc : ∀ x dx mm p q : Int, inX x dx mm p q → cloX x dx mm p q := fun x dx mm p q z => ⟨z.1, Int.le_of_lt z.2⟩
  unfold c_law_goes
  have ha' := ha
  have hb' := hb
  have hc' := hc
  have hd' := hd
  have hm' := hm
  have hn' := hn
  unfold In100 at ha' hb' hc' hd' hm' hn'
  walk_at "dv"
  refine ⟨mulOk (by omega), mulOk (by omega), mulOk (by omega), mulOk (by omega), law_clip_ok ?_ ?_⟩
  · intro no
    walk_at "dv"
    refine ⟨mulOk (by omega), mulOk (by omega), mulOk (by omega), mulOk (by omega), law_clip_ok ?_ ?_⟩
    · intro no2
      walk_at "dv"
      exact hq false ⟨fun z => by simp at z, fun ⟨p, q, q0, p0, p1, i1, i2⟩ => absurd (inc _ _ _ _ _ i1) (no p q q0)⟩
    · intro n3 v3 n4 v4 v30 v40 b3 b4 hS
      walk_at "dv"
      exact hq false ⟨fun z => by simp at z, fun ⟨p, q, q0, p0, p1, i1, i2⟩ => absurd (inc _ _ _ _ _ i1) (no p q q0)⟩
  · intro n1 v1 n2 v2 v10 v20 b1 b2 hR
    walk_at "dv"
    refine ⟨mulOk (by omega), mulOk (by omega), mulOk (by omega), mulOk (by omega), law_clip_ok ?_ ?_⟩
    · intro no2
      walk_at "dv"
      exact ⟨by rfl, hq false ⟨fun z => by simp at z, fun ⟨p, q, q0, p0, p1, i1, i2⟩ => absurd (inc _ _ _ _ _ i2) (no2 p q q0)⟩⟩
    · intro n3 v3 n4 v4 v30 v40 b3 b4 hS
      walk_at "dv"
      refine ⟨by rfl, by rfl, law_later_ok (by omega) (by omega) v10 v30 fun n5 v5 v50 b5 h5 => ?_⟩
      walk_at "dv"
      refine law_later_ok (by decide) b5 (by decide) v50 fun l u u0 bu hl => ?_
      walk_at "dv"
      refine law_sooner_ok (by omega) (by omega) v20 v40 fun n6 v6 v60 b6 h6 => ?_
      walk_at "dv"
      refine law_sooner_ok (by decide) b6 (by decide) v60 fun h w w0 bw hh => ?_
      walk_at "dv"
      have hA : ∀ p q : Int, 0 < q → ((0 ≤ p ∧ p ≤ q ∧ cloX a (c - a) m p q ∧ cloX b (d - b) n p q) ↔ (geL l u true p q ∧ leH h w true p q)) := by
        intro p q q0
        rw [hl p q q0, hh p q q0, h5 p q q0, h6 p q q0]
        have g0 : geL 0 1 true p q ↔ 0 ≤ p := by
          unfold geL
          rw [if_pos rfl]
          omega
        have g1 : leH 1 1 true p q ↔ p ≤ q := by
          unfold leH
          rw [if_pos rfl]
          omega
        rw [g0, g1]
        constructor
        · rintro ⟨p0, p1, x1, x2⟩
          have y1 := (hR p q q0 p0 p1).mp x1
          have y2 := (hS p q q0 p0 p1).mp x2
          exact ⟨⟨p0, y1.1, y2.1⟩, p1, y1.2, y2.2⟩
        · rintro ⟨⟨p0, y1, y2⟩, p1, y3, y4⟩
          exact ⟨p0, p1, (hR p q q0 p0 p1).mpr ⟨y1, y3⟩, (hS p q q0 p0 p1).mpr ⟨y2, y4⟩⟩
      refine ⟨mulOk (by omega), mulOk (by omega), ?_⟩
      split
      · rename_i lt
        refine hq false ⟨fun z => by simp at z, fun ⟨p, q, q0, p0, p1, i1, i2⟩ => ?_⟩
        have := (between u0 w0).mp ⟨p, q, q0, (hA p q q0).mp ⟨p0, p1, inc _ _ _ _ _ i1, inc _ _ _ _ _ i2⟩⟩
        omega
      · rename_i ge
        refine ⟨mulOk (by omega), mulOk (by omega), mulOk (by omega), mulOk (by omega), ?_⟩
        simp only [lcD, dYes]
        walk_at "dv"
        have SA := (hA l u u0).mpr ⟨by unfold geL; rw [if_pos rfl]; omega, by unfold leH; rw [if_pos rfl]; omega⟩
        have SB := (hA h w w0).mpr ⟨by unfold geL; rw [if_pos rfl]; omega, by unfold leH; rw [if_pos rfl]; omega⟩
        have m0 : 0 < 2 * u * w := Int.mul_pos (by omega) w0
        have SM := (hA (l * w + h * u) (2 * u * w) m0).mpr ⟨by
          unfold geL
          rw [if_pos rfl, show l * (2 * u * w) = (2 * (l * w)) * u by grind, mul_le_iff u0]
          omega, by
          unfold leH
          rw [if_pos rfl, show h * (2 * u * w) = (2 * (h * u)) * w by grind, mul_le_iff w0]
          omega⟩
        refine law_inside_ok ha hb hc hd hm hn fun r1 f1 => ?_
        refine law_inside_ok ha hb hc hd hm hn fun r2 f2 => ?_
        refine law_inside_ok ha hb hc hd hm hn fun r3 f3 => ⟨by rfl, hq _ ?_⟩
        show (r1 || (r2 || (r3 || false))) = true ↔ _
        simp only [Bool.or_false, Bool.or_eq_true, f1, f2, f3]
        constructor
        · rintro (z | z | z)
          · exact ⟨l, u, u0, SA.1, SA.2.1, z.1, z.2⟩
          · exact ⟨h, w, w0, SB.1, SB.2.1, z.1, z.2⟩
          · exact ⟨_, _, m0, SM.1, SM.2.1, z.1, z.2⟩
        · rintro ⟨p, q, q0, p0, p1, i1, i2⟩
          have t := (hA p q q0).mp ⟨p0, p1, inc _ _ _ _ _ i1, inc _ _ _ _ _ i2⟩
          have t1 := t.1
          have t2 := t.2
          unfold geL at t1
          unfold leH at t2
          rw [if_pos rfl] at t1 t2
          exact .inr (.inr ⟨mid_in u0 w0 q0 SA.2.2.1 SB.2.2.1 t1 t2 i1, mid_in u0 w0 q0 SA.2.2.2 SB.2.2.2 t1 t2 i2⟩)
/-! ### places and their squares -/
theorem inX_mono {x dx m m' p q p' q' : Int} (q0 : 0 < q) (q1 : 0 < q') (hd : 0 ≤ dx) (t : p * q' ≤ p' * q) (h : inX x dx m p q) (h' : inX x dx m' p' q') : m ≤ m' := by
  unfold inX at *
  have k1 := Int.mul_le_mul_of_nonneg_right h.1 (show 0 ≤ q' by omega)
  have k2 := Int.mul_lt_mul_of_pos_right h'.2 q0
  have k3 := Int.mul_le_mul_of_nonneg_left t hd
  have e1 : (2 * x * q + 2 * dx * p) * q' = 2 * x * q * q' + 2 * (dx * (p * q')) := by grind
  have e2 : (2 * x * q' + 2 * dx * p') * q = 2 * x * q * q' + 2 * (dx * (p' * q)) := by grind
  have k4 : (2 * m - 1) * (q * q') < (2 * m' + 1) * (q * q') := by
    have f1 : (2 * m - 1) * q * q' = (2 * m - 1) * (q * q') := by grind
    have f2 : (2 * m' + 1) * q' * q = (2 * m' + 1) * (q * q') := by grind
    omega
  have := (mul_lt_iff (Int.mul_pos q0 q1)).mp k4
  omega
theorem inX_anti {x dx m m' p q p' q' : Int} (q0 : 0 < q) (q1 : 0 < q') (hd : dx ≤ 0) (t : p * q' ≤ p' * q) (h : inX x dx m p q) (h' : inX x dx m' p' q') : m' ≤ m := by
  unfold inX at *
  have k1 := Int.mul_le_mul_of_nonneg_right h'.1 (show 0 ≤ q by omega)
  have k2 := Int.mul_lt_mul_of_pos_right h.2 q1
  have k3 := Int.mul_le_mul_of_nonneg_left t (show 0 ≤ -dx by omega)
  rw [Int.neg_mul, Int.neg_mul] at k3
  have e1 : (2 * x * q + 2 * dx * p) * q' = 2 * x * q * q' + 2 * (dx * (p * q')) := by grind
  have e2 : (2 * x * q' + 2 * dx * p') * q = 2 * x * q * q' + 2 * (dx * (p' * q)) := by grind
  have k4 : (2 * m' - 1) * (q * q') < (2 * m + 1) * (q * q') := by
    have f1 : (2 * m' - 1) * q' * q = (2 * m' - 1) * (q * q') := by grind
    have f2 : (2 * m + 1) * q * q' = (2 * m + 1) * (q * q') := by grind
    omega
  have := (mul_lt_iff (Int.mul_pos q0 q1)).mp k4
  omega
def Ahead (dx m m' : Int) : Prop := (0 ≤ dx → m ≤ m') ∧ (dx ≤ 0 → m' ≤ m)
theorem inX_ahead {x dx m m' p q p' q' : Int} (q0 : 0 < q) (q1 : 0 < q') (t : p * q' ≤ p' * q) (h : inX x dx m p q) (h' : inX x dx m' p' q') : Ahead dx m m' := ⟨fun hd => inX_mono q0 q1 hd t h h', fun hd => inX_anti q0 q1 hd t h h'⟩
/-! ### all squares of a stroke -/
def tp (s : Int × Int) : D := .tup [.int s.1, .int s.2]
abbrev Sp2 := Int × Int
def Bef (a b c d : Int) (s t : Sp2) : Prop := Ahead (c - a) s.1 t.1 ∧ Ahead (d - b) s.2 t.2 ∧ ¬(t.1 = s.1 ∧ t.2 = s.2)
theorem Ahead.antis {dx m n : Int} (h : Ahead dx m n) (h' : Ahead dx n m) : m = n := by
  unfold Ahead at *
  rcases Int.le_total 0 dx with z | z
  · have := h.1 z; have := h'.1 z; omega
  · have := h.2 z; have := h'.2 z; omega
theorem Ahead.trans {dx m n o : Int} (h : Ahead dx m n) (h' : Ahead dx n o) : Ahead dx m o := by
  unfold Ahead at *
  exact ⟨fun z => Int.le_trans (h.1 z) (h'.1 z), fun z => Int.le_trans (h'.2 z) (h.2 z)⟩
theorem Ahead.refl {dx m : Int} : Ahead dx m m := ⟨fun _ => Int.le_refl _, fun _ => Int.le_refl _⟩
theorem Bef.asym {a b c d : Int} {s t : Sp2} (h : Bef a b c d s t) (h' : Bef a b c d t s) : False := h.2.2 ⟨(h.1.antis h'.1).symm, (h.2.1.antis h'.2.1).symm⟩
theorem Bef.trans {a b c d : Int} {s t u : Sp2} (h : Bef a b c d s t) (h' : Bef a b c d t u) : Bef a b c d s u := ⟨h.1.trans h'.1, h.2.1.trans h'.2.1, fun z => by
  have e1 : u = s := Prod.ext z.1 z.2
  subst e1
  exact h.asym h'⟩
def Near1 (s t : Sp2) : Prop := (t.1 ≤ s.1 + 1 ∧ s.1 ≤ t.1 + 1) ∧ (t.2 ≤ s.2 + 1 ∧ s.2 ≤ t.2 + 1)
/-- the list of all squares in order along the stroke -/
structure SqOk (a b c d : Int) (L : List Sp2) : Prop where
  mem : ∀ s : Sp2, s ∈ L ↔ GoesP a b c d s.1 s.2
  ord : L.Pairwise (Bef a b c d)
  one : ∀ (i : Nat) (s t : Sp2), L[i]? = some s → L[i + 1]? = some t → Near1 s t
  hd : L.head? = some (a, b)
  lst : L.getLast? = some (c, d)
  few : L.length ≤ 402
theorem sorted_uniq {α : Type} {r : α → α → Prop} (as : ∀ x y, r x y → r y x → False) : ∀ {l l' : List α}, l.Pairwise r → l'.Pairwise r → (∀ x, x ∈ l ↔ x ∈ l') → l = l'
  | [], [], _, _, _ => rfl
  | [], y :: l', _, _, h => by have := (h y).mpr List.mem_cons_self; cases this
  | x :: l, [], _, _, h => by have := (h x).mp List.mem_cons_self; cases this
  | x :: l, y :: l', p, p', h => by
    have q := List.pairwise_cons.mp p
    have q' := List.pairwise_cons.mp p'
    have e : x = y := by
      rcases List.mem_cons.mp ((h x).mp List.mem_cons_self) with e | e
      · exact e
      · rcases List.mem_cons.mp ((h y).mpr List.mem_cons_self) with f | f
        · exact f.symm
        · exact (as _ _ (q'.1 x e) (q.1 y f)).elim
    subst e
    have nx : x ∉ l := fun z => as _ _ (q.1 x z) (q.1 x z)
    have nx' : x ∉ l' := fun z => as _ _ (q'.1 x z) (q'.1 x z)
    rw [sorted_uniq as q.2 q'.2 fun z => ?_]
    constructor
    · intro hz
      rcases List.mem_cons.mp ((h z).mp (List.mem_cons_of_mem _ hz)) with e | e
      · exact absurd (e ▸ hz) nx
      · exact e
    · intro hz
      rcases List.mem_cons.mp ((h z).mpr (List.mem_cons_of_mem _ hz)) with e | e
      · exact absurd (e ▸ hz) nx'
      · exact e
theorem SqOk.uniq {a b c d : Int} {L L' : List Sp2} (h : SqOk a b c d L) (h' : SqOk a b c d L') : L = L' :=
  sorted_uniq (fun _ _ => Bef.asym) h.ord h'.ord fun x => (h.mem x).trans (h'.mem x).symm
/-- what the loop has found -/
structure SqSo (a b c d : Int) (L : List Sp2) (h : Sp2) (m : Nat) : Prop where
  at_ : L.getLast? = some h
  gone : ∀ s ∈ L, GoesP a b c d s.1 s.2
  all : ∀ s : Sp2, GoesP a b c d s.1 s.2 → s ∈ L ∨ Bef a b c d h s
  ord : L.Pairwise (Bef a b c d)
  one : ∀ (i : Nat) (s t : Sp2), L[i]? = some s → L[i + 1]? = some t → Near1 s t
  hd : L.head? = some (a, b)
  left : m = (c - h.1).natAbs + (d - h.2).natAbs
  few : L.length + m ≤ 402
theorem goesP_end {a b c d : Int} : GoesP a b c d a b := ⟨0, 1, by decide, by decide, by decide, by unfold inX; omega, by unfold inX; omega⟩
theorem bef_start {a b c d : Int} {s : Sp2} (g : GoesP a b c d s.1 s.2) (n : s ≠ (a, b)) : Bef a b c d (a, b) s := by
  obtain ⟨p, q, q0, p0, p1, i1, i2⟩ := g
  refine ⟨?_, ?_, fun z => n (Prod.ext z.1 z.2)⟩
  · exact inX_ahead (p := 0) (q := 1) (by decide) q0 (by omega) (by unfold inX; omega) i1
  · exact inX_ahead (p := 0) (q := 1) (by decide) q0 (by omega) (by unfold inX; omega) i2
theorem bef_fin {a b c d : Int} {s : Sp2} (g : GoesP a b c d s.1 s.2) (n : s ≠ (c, d)) : Bef a b c d s (c, d) := by
  obtain ⟨p, q, q0, p0, p1, i1, i2⟩ := g
  refine ⟨?_, ?_, fun z => n (Prod.ext z.1.symm z.2.symm)⟩
  · exact inX_ahead (p' := 1) (q' := 1) q0 (by decide) (by omega) i1 (by unfold inX; omega)
  · exact inX_ahead (p' := 1) (q' := 1) q0 (by decide) (by omega) i2 (by unfold inX; omega)
theorem SqSo.start {a b c d : Int} (ha : In100 a) (hb : In100 b) (hc : In100 c) (hd : In100 d) : SqSo a b c d [(a, b)] (a, b) ((c - a).natAbs + (d - b).natAbs) where
  at_ := rfl
  gone := fun s hs => by rw [List.mem_singleton] at hs; subst hs; exact goesP_end
  all := fun s hs => by
    by_cases e : s = (a, b)
    · exact .inl (by rw [e]; exact List.mem_singleton_self _)
    · exact .inr (bef_start hs e)
  ord := List.pairwise_singleton _ _
  one := fun i s t _ h => by simp at h
  hd := rfl
  left := rfl
  few := by unfold In100 at *; simp only [List.length_singleton]; omega
theorem SqSo.ends {a b c d : Int} {L : List Sp2} {h : Sp2} {m : Nat} (S : SqSo a b c d L h m) (e : h.1 = c ∧ h.2 = d) : SqOk a b c d L := by
  have e' : h = (c, d) := Prod.ext e.1 e.2
  subst e'
  refine ⟨fun s => ⟨S.gone s, fun g => (S.all s g).elim id fun z => ?_⟩, S.ord, S.one, S.hd, S.at_, by have := S.few; omega⟩
  by_cases es : s = (c, d)
  · subst es
    exact List.mem_of_getLast? S.at_
  · exact (z.asym (bef_fin g es)).elim
theorem SqSo.step {a b c d : Int} {L : List Sp2} {h s : Sp2} {m : Nat} (S : SqSo a b c d L h m) (ne : ¬(h.1 = c ∧ h.2 = d)) (gs : GoesP a b c d s.1 s.2) (bs : Bef a b c d h s) (n1 : Near1 h s) (fin : ∀ t : Sp2, GoesP a b c d t.1 t.2 → Bef a b c d h t → t = s ∨ Bef a b c d s t) :
    ∃ m', m' < m ∧ SqSo a b c d (L ++ [s]) s m' := by
  have hl := S.at_
  have sf : s = (c, d) ∨ Bef a b c d s (c, d) := by
    by_cases e : s = (c, d)
    · exact .inl e
    · exact .inr (bef_fin gs e)
  have hm : (c - s.1).natAbs + (d - s.2).natAbs < m := by
    have := S.left
    have hf : h = (c, d) ∨ Bef a b c d h (c, d) := by
      by_cases e : h = (c, d)
      · exact .inl e
      · exact .inr (bef_fin (S.gone h (List.mem_of_getLast? hl)) e)
    obtain ⟨s1, s2⟩ := s
    obtain ⟨h1, h2⟩ := h
    unfold Bef Ahead at bs sf hf
    dsimp only at *
    simp only [Prod.mk.injEq] at sf hf
    omega
  refine ⟨_, hm, ⟨by simp, fun t ht => ?_, fun t gt => ?_, ?_, fun i x y hx hy => ?_, ?_, rfl, ?_⟩⟩
  · rcases List.mem_append.mp ht with z | z
    · exact S.gone t z
    · rw [List.mem_singleton] at z; subst z; exact gs
  · rcases S.all t gt with z | z
    · exact .inl (List.mem_append_left _ z)
    · rcases fin t gt z with e | e
      · exact .inl (by rw [e]; exact List.mem_append_right _ (List.mem_singleton_self _))
      · exact .inr e
  · refine List.pairwise_append.mpr ⟨S.ord, List.pairwise_singleton _ _, fun x hx y hy => ?_⟩
    rw [List.mem_singleton] at hy
    subst hy
    by_cases e : x = h
    · rw [e]; exact bs
    · obtain ⟨L', e'⟩ := List.getLast?_eq_some_iff.mp hl
      have o := S.ord
      rw [e'] at o hx
      rcases List.mem_append.mp hx with z | z
      · exact ((List.pairwise_append.mp o).2.2 x z h (List.mem_singleton_self _)).trans bs
      · exact absurd (List.mem_singleton.mp z) e
  · by_cases hi : i + 1 < L.length
    · rw [List.getElem?_append_left (by omega)] at hx hy
      exact S.one i x y hx hy
    · have h2 : i + 1 = L.length := by
        have := (List.getElem?_eq_some_iff.mp hy).1
        simp at this
        omega
      rw [List.getElem?_append_right (by omega)] at hy
      rw [List.getElem?_append_left (by omega)] at hx
      rw [show i + 1 - L.length = 0 by omega] at hy
      simp at hy
      subst hy
      rw [List.getLast?_eq_getElem?, show L.length - 1 = i by omega, hx] at hl
      cases hl
      exact n1
  · have := S.hd
    cases L with
    | nil => cases this
    | cons x l => exact this
  · have := S.few
    rw [List.length_append, List.length_singleton]
    omega
def In90 (i : Int) : Prop := -90 ≤ i ∧ i ≤ 90
theorem In90.h {i : Int} (h : In90 i) : In100 i := by unfold In90 In100 at *; omega
/-! ### places on strokes -/
/-- the place (x/v, y/w) lies on the stroke -/
def OnS (a b c d x v y w : Int) : Prop := ∃ p q : Int, 0 < q ∧ 0 ≤ p ∧ p ≤ q ∧ x * q = (a * q + (c - a) * p) * v ∧ y * q = (b * q + (d - b) * p) * w
theorem OnS.rev {a b c d x v y w : Int} (h : OnS a b c d x v y w) : OnS c d a b x v y w := by
  obtain ⟨p, q, q0, p0, p1, e1, e2⟩ := h
  refine ⟨q - p, q, q0, by omega, by omega, ?_, ?_⟩
  · rw [e1]; grind
  · rw [e2]; grind
def nearI (x v : Int) : Int := (2 * x + v).fdiv (2 * v)
theorem nearI_between {o u : Int} (h0 : 0 < u) : (2 * nearI o u - 1) * u ≤ 2 * o ∧ 2 * o < (2 * nearI o u + 1) * u := by
  unfold nearI
  rw [Int.fdiv_eq_ediv_of_nonneg _ (by omega)]
  generalize hn : (2 * o + u) / (2 * u) = n
  have h1 := Int.emod_nonneg (2 * o + u) (b := 2 * u) (by omega)
  have h2 := Int.emod_lt_of_pos (2 * o + u) (b := 2 * u) (by omega)
  have h3 := Int.mul_ediv_add_emod (2 * o + u) (2 * u)
  rw [hn] at h3
  have e1 : (2 * n - 1) * u = 2 * u * n - u := by grind
  have e2 : (2 * n + 1) * u = 2 * u * n + u := by grind
  omega
theorem inX_near {a dx x v p q : Int} (v0 : 0 < v) (q0 : 0 < q) (e : x * q = (a * q + dx * p) * v) : inX a dx (nearI x v) p q := by
  have h := nearI_between (o := x) v0
  unfold inX
  generalize nearI x v = n at *
  have k1 := Int.mul_le_mul_of_nonneg_right h.1 (show 0 ≤ q by omega)
  have k2 := Int.mul_lt_mul_of_pos_right h.2 q0
  have e1 : 2 * x * q = (2 * a * q + 2 * dx * p) * v := by grind
  rw [e1] at k1 k2
  refine ⟨?_, ?_⟩
  · refine (mul_le_iff v0).mp ?_
    rw [show (2 * n - 1) * q * v = (2 * n - 1) * v * q by grind]
    exact k1
  · refine (mul_lt_iff v0).mp ?_
    rw [show (2 * n + 1) * q * v = (2 * n + 1) * v * q by grind]
    exact k2
theorem OnS.goes {a b c d x v y w : Int} (v0 : 0 < v) (w0 : 0 < w) (h : OnS a b c d x v y w) : GoesP a b c d (nearI x v) (nearI y w) := by
  obtain ⟨p, q, q0, p0, p1, e1, e2⟩ := h
  exact ⟨p, q, q0, p0, p1, inX_near v0 q0 e1, inX_near w0 q0 e2⟩
theorem nearI_one {x : Int} : nearI x 1 = x := by
  unfold nearI
  rw [Int.fdiv_eq_ediv_of_nonneg _ (by omega)]
  omega
/-- a spot on the line of a stroke and between its ends lies on it -/
theorem onS_line {a b c d x y : Int} (n : ¬(c = a ∧ d = b)) (h : c0 a b c d x y = 0) (h1 : a < x ∨ (a = x ∧ b ≤ y)) (h2 : x < c ∨ (x = c ∧ y ≤ d)) : OnS a b c d x 1 y 1 := by
  unfold c0 at h
  by_cases e : c = a
  · subst e
    have hx : x = c := by omega
    subst hx
    exact ⟨y - b, d - b, by omega, by omega, by omega, by grind, by grind⟩
  · have e2 : (c - a) * (y - b) = (d - b) * (x - a) := by omega
    refine ⟨x - a, c - a, by omega, by omega, by omega, by grind, ?_⟩
    have : y * (c - a) = b * (c - a) + (c - a) * (y - b) := by grind
    rw [this, e2]; grind
theorem c0_ends {a b c d : Int} : c0 a b c d a b = 0 ∧ c0 a b c d c d = 0 := by unfold c0; constructor <;> grind
/-- lexicographic -/
def LexLe (i j k l : Int) : Prop := i < k ∨ (i = k ∧ j ≤ l)
theorem onS_lex {a b c d x y : Int} (n : ¬(c = a ∧ d = b)) (h : c0 a b c d x y = 0) (h1 : LexLe (mnx a b c d) (mny a b c d) x y) (h2 : LexLe x y (mxx a b c d) (mxy a b c d)) : OnS a b c d x 1 y 1 := by
  unfold LexLe mnx mny mxx mxy at *
  by_cases k : c < a ∨ (c = a ∧ d < b)
  · rw [if_pos k, if_pos k] at h1
    rw [if_neg (by omega), if_neg (by omega)] at h2
    refine (onS_line (a := c) (b := d) (c := a) (d := b) (by omega) ?_ h1 h2).rev
    rw [c0_r, h]; rfl
  · rw [if_neg k, if_neg k] at h1
    by_cases k2 : a < c ∨ (a = c ∧ b < d)
    · rw [if_pos k2, if_pos k2] at h2
      exact onS_line n h h1 h2
    · exact absurd ⟨by omega, by omega⟩ n
theorem c0_on {a b c d e f g h : Int} (n1 : ¬(c = a ∧ d = b)) (W : wh a b c d e f g h = 0) (C : c0 a b c d e f = 0) : c0 a b c d g h = 0 ∧ c0 e f g h a b = 0 ∧ c0 e f g h c d = 0 := by
  have ex := ec_x (a := a) (b := b) (c := c) (d := d) (e := e) (f := f) (g := g) (h := h)
  have ey := ec_y (a := a) (b := b) (c := c) (d := d) (e := e) (f := f) (g := g) (h := h)
  rw [W, C] at ex ey
  have z : e0 a b e f g h = 0 := by
    by_cases q : c = a
    · have q2 : d - b ≠ 0 := by omega
      have : e0 a b e f g h * (d - b) = 0 := by omega
      exact (Int.mul_eq_zero.mp this).resolve_right q2
    · have : e0 a b e f g h * (c - a) = 0 := by omega
      exact (Int.mul_eq_zero.mp this).resolve_right (by omega)
  have r1 := crs_c1 (a := a) (b := b) (c := c) (d := d) (e := e) (f := f) (g := g) (h := h)
  have r2 := crs_e0 (a := a) (b := b) (e := e) (f := f) (g := g) (h := h)
  have r3 := crs_e1 (a := a) (b := b) (c := c) (d := d) (e := e) (f := f) (g := g) (h := h)
  rw [crs_c0] at r1 r2 r3
  rw [r1, r2, r3, W, C, z]
  exact ⟨rfl, rfl, rfl⟩
/-- where two strokes meet, both are -/
inductive MeetC (a b c d e f g h : Int) : D → Prop where
  | non : MeetC a b c d e f g h .non
  | at_ (x v y w : Int) : 0 < v → 0 < w → v ≤ 80000 → w ≤ 80000 → Int.gcd x v = 1 → Int.gcd y w = 1 → OnS a b c d x v y w → OnS e f g h x v y w → MeetC a b c d e f g h (.tup [.str (Str.ofString "at"), .tup [.tup [.int x, .int v], .tup [.int y, .int w]]])
  | along (p q r s : Int) : (p < r ∨ (p = r ∧ q < s)) → OnS a b c d p 1 q 1 → OnS e f g h p 1 q 1 → OnS a b c d r 1 s 1 → OnS e f g h r 1 s 1 → MeetC a b c d e f g h (.tup [.str (Str.ofString "along"), .tup [.int p, .int q], .tup [.int r, .int s]])
theorem mx_or (i j k l : Int) : (mxx i j k l = i ∧ mxy i j k l = j ∧ LexLe k l i j) ∨ (mxx i j k l = k ∧ mxy i j k l = l ∧ LexLe i j k l) := by
  unfold mxx mxy LexLe
  by_cases h : i < k ∨ (i = k ∧ j < l)
  · rw [if_pos h, if_pos h]; exact .inr ⟨rfl, rfl, by omega⟩
  · rw [if_neg h, if_neg h]; exact .inl ⟨rfl, rfl, by omega⟩
theorem mn_or (i j k l : Int) : (mnx i j k l = i ∧ mny i j k l = j ∧ LexLe i j k l) ∨ (mnx i j k l = k ∧ mny i j k l = l ∧ LexLe k l i j) := by
  unfold mnx mny LexLe
  by_cases h : k < i ∨ (k = i ∧ l < j)
  · rw [if_pos h, if_pos h]; exact .inr ⟨rfl, rfl, by omega⟩
  · rw [if_neg h, if_neg h]; exact .inl ⟨rfl, rfl, by omega⟩
theorem LexLe.trans {i j k l m n : Int} (h : LexLe i j k l) (h' : LexLe k l m n) : LexLe i j m n := by unfold LexLe at *; omega
theorem LexLe.refl {i j : Int} : LexLe i j i j := .inr ⟨rfl, Int.le_refl _⟩
theorem mx_ge (i j k l : Int) : LexLe i j (mxx i j k l) (mxy i j k l) ∧ LexLe k l (mxx i j k l) (mxy i j k l) := by
  rcases mx_or i j k l with ⟨a, b, h⟩ | ⟨a, b, h⟩ <;> rw [a, b]
  · exact ⟨.refl, h⟩
  · exact ⟨h, .refl⟩
theorem mn_le (i j k l : Int) : LexLe (mnx i j k l) (mny i j k l) i j ∧ LexLe (mnx i j k l) (mny i j k l) k l := by
  rcases mn_or i j k l with ⟨a, b, h⟩ | ⟨a, b, h⟩ <;> rw [a, b]
  · exact ⟨.refl, h⟩
  · exact ⟨h, .refl⟩
theorem common_c {a b c d e f g h : Int} (n1 : ¬(c = a ∧ d = b)) (n2 : ¬(g = e ∧ h = f)) (W : wh a b c d e f g h = 0) (C : c0 a b c d e f = 0) : MeetC a b c d e f g h (commonD a b c d e f g h) := by
  obtain ⟨z1, z2, z3⟩ := c0_on n1 W C
  have y1 := c0_ends (a := a) (b := b) (c := c) (d := d)
  have y2 := c0_ends (a := e) (b := f) (c := g) (d := h)
  unfold commonD
  have lo := mx_or (mnx a b c d) (mny a b c d) (mnx e f g h) (mny e f g h)
  have hi := mn_or (mxx a b c d) (mxy a b c d) (mxx e f g h) (mxy e f g h)
  have l1 := mx_ge (mnx a b c d) (mny a b c d) (mnx e f g h) (mny e f g h)
  have h1 := mn_le (mxx a b c d) (mxy a b c d) (mxx e f g h) (mxy e f g h)
  have m1 := mn_or a b c d
  have m2 := mn_or e f g h
  have m3 := mx_or a b c d
  have m4 := mx_or e f g h
  generalize hp : mxx (mnx a b c d) (mny a b c d) (mnx e f g h) (mny e f g h) = p at *
  generalize hq : mxy (mnx a b c d) (mny a b c d) (mnx e f g h) (mny e f g h) = q at *
  generalize hr : mnx (mxx a b c d) (mxy a b c d) (mxx e f g h) (mxy e f g h) = r at *
  generalize hs : mny (mxx a b c d) (mxy a b c d) (mxx e f g h) (mxy e f g h) = s at *
  have Zp : c0 a b c d p q = 0 ∧ c0 e f g h p q = 0 := by
    rcases lo with ⟨e1, e2, -⟩ | ⟨e1, e2, -⟩ <;> rw [e1, e2]
    · rcases m1 with ⟨f1, f2, -⟩ | ⟨f1, f2, -⟩ <;> rw [f1, f2]
      · exact ⟨y1.1, z2⟩
      · exact ⟨y1.2, z3⟩
    · rcases m2 with ⟨f1, f2, -⟩ | ⟨f1, f2, -⟩ <;> rw [f1, f2]
      · exact ⟨C, y2.1⟩
      · exact ⟨z1, y2.2⟩
  have Zr : c0 a b c d r s = 0 ∧ c0 e f g h r s = 0 := by
    rcases hi with ⟨e1, e2, -⟩ | ⟨e1, e2, -⟩ <;> rw [e1, e2]
    · rcases m3 with ⟨f1, f2, -⟩ | ⟨f1, f2, -⟩ <;> rw [f1, f2]
      · exact ⟨y1.1, z2⟩
      · exact ⟨y1.2, z3⟩
    · rcases m4 with ⟨f1, f2, -⟩ | ⟨f1, f2, -⟩ <;> rw [f1, f2]
      · exact ⟨C, y2.1⟩
      · exact ⟨z1, y2.2⟩
  unfold comD
  by_cases k : r < p ∨ (r = p ∧ s < q)
  · rw [if_pos k]; exact .non
  · rw [if_neg k]
    have pr : LexLe p q r s := by unfold LexLe; omega
    have op1 : OnS a b c d p 1 q 1 := onS_lex n1 Zp.1 l1.1 (pr.trans h1.1)
    have op2 : OnS e f g h p 1 q 1 := onS_lex n2 Zp.2 l1.2 (pr.trans h1.2)
    have or1 : OnS a b c d r 1 s 1 := onS_lex n1 Zr.1 (l1.1.trans pr) h1.1
    have or2 : OnS e f g h r 1 s 1 := onS_lex n2 Zr.2 (l1.2.trans pr) h1.2
    by_cases k2 : p = r ∧ q = s
    · rw [if_pos k2]
      exact .at_ p 1 q 1 (by decide) (by decide) (by decide) (by decide) (Int.gcd_one_right ..) (Int.gcd_one_right ..) op1 op2
    · rw [if_neg k2]
      exact .along p q r s (by unfold LexLe at pr; omega) op1 op2 or1 or2
theorem frac_in {E W : Int} (w0 : W ≠ 0) (h : ¬0 < E * (E - W)) : (0 < W ∧ 0 ≤ E ∧ E ≤ W) ∨ (W < 0 ∧ E ≤ 0 ∧ W ≤ E) := by
  rcases Int.lt_or_gt_of_ne w0 with z | z
  · right
    refine ⟨z, ?_, ?_⟩
    · rcases Int.lt_or_le 0 E with k | k
      · exact absurd (Int.mul_pos k (by omega)) h
      · exact k
    · rcases Int.lt_or_le E W with k | k
      · exact absurd (Int.mul_pos_of_neg_of_neg (by omega) (by omega)) h
      · exact k
  · left
    refine ⟨z, ?_, ?_⟩
    · rcases Int.lt_or_le E 0 with k | k
      · exact absurd (Int.mul_pos_of_neg_of_neg k (by omega)) h
      · exact k
    · rcases Int.lt_or_le W E with k | k
      · exact absurd (Int.mul_pos (by omega) (by omega)) h
      · exact k
theorem onS_frac {a b c d x v y w E W : Int} (v0 : 0 < v) (w0 : 0 < w) (W0 : W ≠ 0) (h : ¬0 < E * (E - W)) (e1 : x * W = (a * W + E * (c - a)) * v) (e2 : y * W = (b * W + E * (d - b)) * w) : OnS a b c d x v y w := by
  rcases frac_in W0 h with ⟨k1, k2, k3⟩ | ⟨k1, k2, k3⟩
  · exact ⟨E, W, k1, k2, k3, by rw [e1]; grind, by rw [e2]; grind⟩
  · exact ⟨-E, -W, by omega, by omega, by omega, by rw [Int.mul_neg, e1]; grind, by rw [Int.mul_neg, e2]; grind⟩
theorem meet_c {a b c d e f g h : Int} (ha : In100 a) (hb : In100 b) (hc : In100 c) (hd : In100 d) (he : In100 e) (hf : In100 f) (hg : In100 g) (hh : In100 h) (n1 : ¬(c = a ∧ d = b)) (n2 : ¬(g = e ∧ h = f)) : MeetC a b c d e f g h (meetD a b c d e f g h) := by
  unfold meetD
  have ex := ec_x (a := a) (b := b) (c := c) (d := d) (e := e) (f := f) (g := g) (h := h)
  have ey := ec_y (a := a) (b := b) (c := c) (d := d) (e := e) (f := f) (g := g) (h := h)
  have cm := common_c (a := a) (b := b) (c := c) (d := d) (e := e) (f := f) (g := g) (h := h) n1 n2
  have bW : (wh a b c d e f g h).natAbs ≤ 80000 := by
    unfold wh In100 at *
    have := prod_b (i := c - a) (j := h - f) (m := 200) (n := 200) (by omega) (by omega)
    have := prod_b (i := d - b) (j := g - e) (m := 200) (n := 200) (by omega) (by omega)
    omega
  generalize hW : wh a b c d e f g h = W at *
  generalize hC : c0 a b c d e f = C at *
  generalize hE : e0 a b e f g h = E at *
  by_cases w0 : W = 0
  · rw [if_pos w0]
    by_cases k0 : C = 0
    · rw [if_pos k0]; exact cm w0 k0
    · rw [if_neg k0]; exact .non
  · rw [if_neg w0]
    by_cases k : 0 < C * (C + W) ∨ 0 < E * (E - W)
    · rw [if_pos k]; exact .non
    · rw [if_neg k]
      obtain ⟨x, v, e1, v0, r1, -, s1, c1⟩ := lowD_spec (o := a * W + E * (c - a)) w0
      obtain ⟨y, w, e2, w1, r2, -, s2, c2⟩ := lowD_spec (o := b * W + E * (d - b)) w0
      rw [e1, e2]
      refine .at_ x v y w v0 w1 (by omega) (by omega) c1 c2 (onS_frac v0 w1 w0 (fun z => k (.inr z)) r1 r2) (onS_frac (E := -C) v0 w1 w0 (fun z => k (.inl ?_)) ?_ ?_)
      · rw [show C * (C + W) = -C * (-C - W) by grind]; exact z
      · rw [r1]; grind
      · rw [r2]; grind
/-! ### lists of spots -/
theorem eqb_tp {s t : Sp2} : D.eqb (tp s) (tp t) = decide (s = t) := by
  obtain ⟨a, b⟩ := s
  obtain ⟨c, d⟩ := t
  simp only [tp, eqb_tt, eqbs_cc, eqb_ii, eqbs_nn, Bool.and_true, Prod.mk.injEq]
  rw [Bool.eq_iff_iff]
  simp
theorem any_tp {s : Sp2} : ∀ L : List Sp2, ((L.map tp).any fun z => D.eqb z (tp s)) = decide (s ∈ L)
  | [] => by simp
  | t :: L => by
    rw [List.map_cons, List.any_cons, any_tp L, eqb_tp, Bool.eq_iff_iff]
    simp only [Bool.or_eq_true, decide_eq_true_eq, List.mem_cons]
    exact or_congr_left ⟨Eq.symm, Eq.symm⟩
theorem layN_tp {s : Sp2} {n : Nat} : LayN (n + 1) (tp s) := fun d hd => by
  simp only [List.mem_cons, List.not_mem_nil, or_false] at hd
  rcases hd with rfl | rfl <;> cases n <;> exact True.intro
theorem layN_tps {L : List Sp2} {n : Nat} : LayN (n + 2) (.lst (L.map tp)) := fun d hd => by
  obtain ⟨s, -, rfl⟩ := List.mem_map.mp hd
  exact layN_tp
theorem lay_tps {L : List Sp2} : (D.lst (L.map tp)).lay = true := lay_of (n := 2) (by decide) layN_tps
theorem notInD_tp {Q : D → Prop} {m n : Int} {L : List Sp2} (h : Q (.bl (!decide ((m, n) ∈ L)))) : notInD (.tup [.int m, .int n]) (.lst (L.map tp)) Q :=
  ⟨lay_t2, lay_tps, by rw [show D.tup [.int m, .int n] = tp (m, n) from rfl, any_tp]; exact h⟩
theorem nearest_of {Q : D → Prop} {o u : Int} (h0 : 0 < u) (h1 : u < 1000000000000000000) (h : Q (.int (nearI o u))) : c_nearest [.tup [.int o, .int u]] Q := by
  unfold c_nearest
  walk_at "dv"
  exact ⟨mulOk (by omega), mulOk (by omega), divOk (by omega) (by omega), h⟩
theorem square_of_ok {Q : D → Prop} {x v y w : Int} (v0 : 0 < v) (v1 : v ≤ 80000) (w0 : 0 < w) (w1 : w ≤ 80000) (h : Q (.tup [.int (nearI x v), .int (nearI y w)])) : c_square_of [.tup [.tup [.int x, .int v], .tup [.int y, .int w]]] Q := by
  unfold c_square_of
  walk_at "dv"
  refine nearest_of v0 (by omega) ?_
  walk_at "dv"
  refine nearest_of w0 (by omega) ?_
  walk_at "dv"
  exact h
end DV

namespace DV
open PySem PySem.Spec PyProof.Rows L2
local macro_rules | `(tactic| walk_at "dv") => `(tactic| simp (config := { failIfUnchanged := false, implicitDefEqProofs := false }) only [↓k_for_q, ↓e_for_n, ↓e_for_c, ↓k_sAppend1_q, ↓k_sAppend_q, ↓k_sRetOwn_q, ↓k_sPar2_q, ↓k_sPar_q, ↓k_sPar33_q, ↓k_sPar3_q, ↓k_some_q, ↓k_asI_q, ↓k_asS_q, ↓k_rng1_q, ↓k_one_q, ↓k_rng22_q, ↓k_rng21_q, ↓k_rng2_q, ↓k_two_q, ↓k_non_q, ↓k_no_q, ↓k_sSet_q, ↓k_sAsg_q, ↓k_sAsg2_q, ↓k_sIf_q, ↓k_sDrop_q, ↓k_sOwn_q, ↓k_sFor_q, ↓k_gs_q, ↓k_dOp2_q, ↓k_dOp_q, ↓k_dCh4_q, ↓k_dCh3_q, ↓k_dCh2_q, ↓k_dCh1_q, ↓k_dUn_q, ↓k_dTest_q, ↓k_dAnd_q, ↓k_dOr_q, ↓k_dNot_q, ↓k_dAndV_q, ↓k_dOrV_q, ↓k_dIf_q, ↓k_dCons2_q, ↓k_dCons_q, ↓k_dTup_q, ↓k_dLst_q, ↓k_dCall_q, ↓k_dIsi_q, ↓k_dIsi2_q, ↓k_dSl3_q, ↓k_dSl2_q, ↓k_dSl_q, ↓k_dRev_q, ↓k_dLc_q, ↓k_dB_q, ↓chB_b, ↓tsB_b, ↓dVar_s, ↓ownL_o, ↓ownD_o, ↓roL_l, ↓e_sAppend, ↓e_sRetOwn, ↓two_2, ↓three_3, ↓e_sPar, ↓e_sPar3, ↓asI_i, ↓e_dPart, ↓asS_l, ↓asS_t, ↓e_iSeq, ↓one_1, ↓e_iRng1D, ↓e_iRng2D, ↓wipeD_n, ↓wipeD_c, ↓frz_0, ↓frz_0v, ↓frz_s, ↓e_fnD, ↓e_sSeq, ↓e_sNext, ↓e_sBreak, ↓e_sCont, ↓e_sSet, ↓e_sAsg, ↓e_sAsg2, ↓e_sIf, ↓e_sRet, ↓e_sRetN, ↓e_sDrop, ↓e_sNever, ↓e_sOwn, ↓e_sFrz, ↓e_sFor, ↓e_gN, ↓e_gT_t, ↓e_gsNil_n, ↓e_gsCons_c, ↓e_dVar_0, ↓e_dVar_0t, ↓e_dC, ↓e_dOp, ↓e_dChain, ↓e_dUn, ↓e_dTest, ↓e_dAnd, ↓e_dOr, ↓e_dNot, ↓e_dAndV, ↓e_dOrV, ↓e_dIf, ↓e_dNil, ↓e_dCons, ↓e_dTup, ↓e_dLst, ↓e_dCall, ↓e_dB, ↓e_dIsi, ↓e_dIsi2, ↓e_dSl, ↓e_dRev, ↓e_dNo, ↓e_dYes, ↓e_dLc,
  ↓addD_ii, ↓addD_tt, ↓addD_ll, ↓subD_ii, ↓mulD_ii, ↓fdivD_ii, ↓modD_ii, ↓powD_10_9, ↓powD_10_6, ↓ltA_ii, ↓leA_ii, ↓gtA_ii, ↓geA_ii, ↓ltA_t2, ↓leA_t2, ↓gtA_t2, ↓geA_t2, ↓max2A_ii, ↓min2A_ii, ↓slh4, ↓slt4', ↓max2A_c, ↓min2A_c, ↓revD_l, ↓isNon_n, ↓isNon_t, ↓isNon_l, ↓notNon_n, ↓notNon_t, ↓isBD_bb, ↓negD_i, ↓notD_b, ↓absD_i, ↓intC_i, ↓intC_b, ↓lenD_l, ↓lenD_t, ↓listD_l, ↓listD_t, ↓tupleD_l, ↓tupleD_t, ↓allD_l, ↓anyD_l, ↓ixT0, ↓ixT1, ↓ixT2, ↓ixT3, ↓ixL0, ↓ixL1, ↓ixL2, ↓ixL3, ↓slD_l,
  eqD, neD,  sl0, sl1, sl2, sl3, sl4, sl5, sl6, sl7, sl8, sl9, sl10, sl11, sl12, slt0, slt1, slt2, slt3, slt4, slt5, slt6, slt7, slt8, slt9, slt10, slt11, slt12, lay_i, lay_b, lay_n, lay_t0, lay_l0, lay_t2, lay_t4, eqb_ii, eqb_bb, eqb_ss, eqb_nn, eqb_tt, eqb_ll, eqbs_nn, eqbs_cc, eqbs_nc, eqbs_cn, tyOk_n, tyOk_b, tyOk_i, tyOk_s, tyOk_t, tyOk_l, isi_n, isi_b, isi_i, isi_s, isi_t, isi_l,
  List.map_cons, List.map_nil, List.cons_append, List.nil_append, List.append_nil, List.append_assoc, List.length_cons, List.length_nil, List.getElem?_cons_zero, List.getElem?_cons_succ, List.set_cons_zero, List.set_cons_succ, List.replicate, Nat.reduceAdd, Nat.reduceSub, Nat.zero_add, Nat.reduceLeDiff, Nat.reduceEqDiff,
  if_true, if_false, true_and, and_true, and_self, Bool.not_true, Bool.not_false, Bool.false_eq_true, Bool.and_true, Bool.true_and, Bool.or_false, Bool.false_or, Bool.or_true, Bool.true_or, decide_eq_true_eq, decide_true, decide_false, beq_self_eq_true, beq_iff_eq, String.reduceEq, reduceIte, reduceCtorEq])
local macro_rules | `(tactic| walk_at "dw") => `(tactic| simp (config := { failIfUnchanged := false, implicitDefEqProofs := false }) only [↓k_for_q, ↓k_sAppend1_q, ↓k_sAppend_q, ↓k_sRetOwn_q, ↓k_sPar2_q, ↓k_sPar_q, ↓k_sPar33_q, ↓k_sPar3_q, ↓k_some_q, ↓k_asI_q, ↓k_asS_q, ↓k_rng1_q, ↓k_one_q, ↓k_rng22_q, ↓k_rng21_q, ↓k_rng2_q, ↓k_two_q, ↓k_non_q, ↓k_no_q, ↓k_sSet_q, ↓k_sAsg_q, ↓k_sAsg2_q, ↓k_sIf_q, ↓k_sDrop_q, ↓k_sOwn_q, ↓k_sFor_q, ↓k_gs_q, ↓k_dOp2_q, ↓k_dOp_q, ↓k_dCh4_q, ↓k_dCh3_q, ↓k_dCh2_q, ↓k_dCh1_q, ↓k_dUn_q, ↓k_dTest_q, ↓k_dAnd_q, ↓k_dOr_q, ↓k_dNot_q, ↓k_dAndV_q, ↓k_dOrV_q, ↓k_dIf_q, ↓k_dCons2_q, ↓k_dCons_q, ↓k_dTup_q, ↓k_dLst_q, ↓k_dCall_q, ↓k_dIsi_q, ↓k_dIsi2_q, ↓k_dSl3_q, ↓k_dSl2_q, ↓k_dSl_q, ↓k_dRev_q, ↓k_dLc_q, ↓k_dB_q, ↓chB_b, ↓tsB_b, ↓dVar_s, ↓ownL_o, ↓ownD_o, ↓roL_l, ↓e_sAppend, ↓e_sRetOwn, ↓two_2, ↓three_3, ↓e_sPar, ↓e_sPar3, ↓asI_i, ↓e_dPart, ↓asS_l, ↓asS_t, ↓e_iSeq, ↓one_1, ↓e_iRng1D, ↓e_iRng2D, ↓wipeD_n, ↓wipeD_c, ↓frz_0, ↓frz_0v, ↓frz_s, ↓e_fnD, ↓e_sSeq, ↓e_sNext, ↓e_sBreak, ↓e_sCont, ↓e_sSet, ↓e_sAsg, ↓e_sAsg2, ↓e_sIf, ↓e_sRet, ↓e_sRetN, ↓e_sDrop, ↓e_sNever, ↓e_sOwn, ↓e_sFrz, ↓e_sFor, ↓e_gN, ↓e_gT_t, ↓e_gsNil_n, ↓e_gsCons_c, ↓e_dVar_0, ↓e_dVar_0t, ↓e_dC, ↓e_dOp, ↓e_dChain, ↓e_dUn, ↓e_dTest, ↓e_dAnd, ↓e_dOr, ↓e_dNot, ↓e_dAndV, ↓e_dOrV, ↓e_dIf, ↓e_dNil, ↓e_dCons, ↓e_dTup, ↓e_dLst, ↓e_dCall, ↓e_dB, ↓e_dIsi, ↓e_dIsi2, ↓e_dSl, ↓e_dRev, ↓e_dNo, ↓e_dYes, ↓e_dLc,
  ↓addD_ii, ↓addD_tt, ↓addD_ll, ↓subD_ii, ↓mulD_ii, ↓fdivD_ii, ↓modD_ii, ↓powD_10_9, ↓powD_10_6, ↓ltA_ii, ↓leA_ii, ↓gtA_ii, ↓geA_ii, ↓ltA_t2, ↓leA_t2, ↓gtA_t2, ↓geA_t2, ↓max2A_ii, ↓min2A_ii, ↓slh4, ↓slt4', ↓max2A_c, ↓min2A_c, ↓revD_l, ↓isNon_n, ↓isNon_t, ↓isNon_l, ↓notNon_n, ↓notNon_t, ↓isBD_bb, ↓negD_i, ↓notD_b, ↓absD_i, ↓intC_i, ↓intC_b, ↓lenD_l, ↓lenD_t, ↓listD_l, ↓listD_t, ↓tupleD_l, ↓tupleD_t, ↓allD_l, ↓anyD_l, ↓ixT0, ↓ixT1, ↓ixT2, ↓ixT3, ↓ixL0, ↓ixL1, ↓ixL2, ↓ixL3, ↓slD_l,
  eqD, neD,  sl0, sl1, sl2, sl3, sl4, sl5, sl6, sl7, sl8, sl9, sl10, sl11, sl12, slt0, slt1, slt2, slt3, slt4, slt5, slt6, slt7, slt8, slt9, slt10, slt11, slt12, lay_i, lay_b, lay_n, lay_t0, lay_l0, lay_t2, lay_t4, eqb_ii, eqb_bb, eqb_ss, eqb_nn, eqb_tt, eqb_ll, eqbs_nn, eqbs_cc, eqbs_nc, eqbs_cn, tyOk_n, tyOk_b, tyOk_i, tyOk_s, tyOk_t, tyOk_l, isi_n, isi_b, isi_i, isi_s, isi_t, isi_l,
  List.map_cons, List.map_nil, List.cons_append, List.nil_append, List.append_nil, List.append_assoc, List.length_cons, List.length_nil, List.getElem?_cons_zero, List.getElem?_cons_succ, List.set_cons_zero, List.set_cons_succ, List.replicate, Nat.reduceAdd, Nat.reduceSub, Nat.zero_add, Nat.reduceLeDiff, Nat.reduceEqDiff,
  if_true, if_false, true_and, and_true, and_self, Bool.not_true, Bool.not_false, Bool.false_eq_true, Bool.and_true, Bool.true_and, Bool.or_false, Bool.false_or, Bool.or_true, Bool.true_or, decide_eq_true_eq, decide_true, decide_false, beq_self_eq_true, beq_iff_eq, String.reduceEq, reduceIte, reduceCtorEq])
/-! ### where strokes meet, told by the places that both have -/
def LoP (p q x v y w : Int) : Prop := p * v < x ∨ (p * v = x ∧ q * w ≤ y)
def HiP (x v y w r s : Int) : Prop := x < r * v ∨ (x = r * v ∧ y ≤ s * w)
abbrev Plc := Int → Int → Int → Int → Prop
inductive MeetF (Com : Plc) : D → Prop where
  | non : (∀ x v y w, 0 < v → 0 < w → ¬Com x v y w) → MeetF Com .non
  | at_ (x v y w : Int) : 0 < v → 0 < w → v ≤ 80000 → w ≤ 80000 → Int.gcd x v = 1 → Int.gcd y w = 1 → Com x v y w → (∀ x' v' y' w', 0 < v' → 0 < w' → Com x' v' y' w' → x' * v = x * v' ∧ y' * w = y * w') → MeetF Com (.tup [.str (Str.ofString "at"), .tup [.tup [.int x, .int v], .tup [.int y, .int w]]])
  | along (p q r s : Int) : (p < r ∨ (p = r ∧ q < s)) → Com p 1 q 1 → Com r 1 s 1 → (∀ x v y w, 0 < v → 0 < w → Com x v y w → LoP p q x v y w ∧ HiP x v y w r s) → MeetF Com (.tup [.str (Str.ofString "along"), .tup [.int p, .int q], .tup [.int r, .int s]])
theorem MeetF.uniq {Com : Plc} {R R' : D} (h : MeetF Com R) (h' : MeetF Com R') : R = R' := by
  cases h with
  | non n =>
    cases h' with
    | non _ => rfl
    | at_ x v y w v0 w0 _ _ _ _ c _ => exact absurd c (n _ _ _ _ v0 w0)
    | along p q r s _ c _ _ => exact absurd c (n _ _ _ _ (by decide) (by decide))
  | at_ x v y w v0 w0 v9 w9 c1 c2 c u =>
    cases h' with
    | non n => exact absurd c (n _ _ _ _ v0 w0)
    | at_ x' v' y' w' v0' w0' v9' w9' c1' c2' c' u' =>
      obtain ⟨e1, e2⟩ := u x' v' y' w' v0' w0' c'
      obtain ⟨rfl, rfl⟩ := cop_eq v0 v0' c1 c1' e1.symm
      obtain ⟨rfl, rfl⟩ := cop_eq w0 w0' c2 c2' e2.symm
      rfl
    | along p q r s l k1 k2 _ =>
      exfalso
      obtain ⟨e1, e2⟩ := u p 1 q 1 (by decide) (by decide) k1
      obtain ⟨e3, e4⟩ := u r 1 s 1 (by decide) (by decide) k2
      have z1 : p = r := Int.eq_of_mul_eq_mul_right (show v ≠ 0 by omega) (by omega)
      have z2 : q = s := Int.eq_of_mul_eq_mul_right (show w ≠ 0 by omega) (by omega)
      omega
  | along p q r s l k1 k2 b =>
    cases h' with
    | non n => exact absurd k1 (n _ _ _ _ (by decide) (by decide))
    | at_ x' v' y' w' v0' w0' _ _ _ _ c' u =>
      exfalso
      obtain ⟨e1, e2⟩ := u p 1 q 1 (by decide) (by decide) k1
      obtain ⟨e3, e4⟩ := u r 1 s 1 (by decide) (by decide) k2
      have z1 : p = r := Int.eq_of_mul_eq_mul_right (show v' ≠ 0 by omega) (by omega)
      have z2 : q = s := Int.eq_of_mul_eq_mul_right (show w' ≠ 0 by omega) (by omega)
      omega
    | along p' q' r' s' l' k1' k2' b' =>
      have f1 := b p' 1 q' 1 (by decide) (by decide) k1'
      have f2 := b r' 1 s' 1 (by decide) (by decide) k2'
      have f3 := b' p 1 q 1 (by decide) (by decide) k1
      have f4 := b' r 1 s 1 (by decide) (by decide) k2
      unfold LoP HiP at *
      obtain ⟨rfl, rfl, rfl, rfl⟩ : p = p' ∧ q = q' ∧ r = r' ∧ s = s' := by omega
      rfl
theorem onS_between {a b c d x v y w : Int} (v0 : 0 < v) (w0 : 0 < w) (o : OnS a b c d x v y w) : LoP (mnx a b c d) (mny a b c d) x v y w ∧ HiP x v y w (mxx a b c d) (mxy a b c d) := by
  obtain ⟨p, q, q0, p0, p1, e1, e2⟩ := o
  -- the place times q
  have key : ∀ m : Int, (m * v < x ↔ m * q < a * q + (c - a) * p) ∧ (m * v = x ↔ m * q = a * q + (c - a) * p) ∧ (x < m * v ↔ a * q + (c - a) * p < m * q) := fun m => by
    have t1 : m * v * q = m * q * v := by grind
    refine ⟨?_, ?_, ?_⟩
    · rw [← mul_lt_iff (a := m * v) q0, e1, t1, mul_lt_iff v0]
    · constructor
      · intro h
        refine Int.eq_of_mul_eq_mul_right (show v ≠ 0 by omega) ?_
        rw [← t1, h, e1]
      · intro h
        refine Int.eq_of_mul_eq_mul_right (show q ≠ 0 by omega) ?_
        rw [e1, t1, h]
    · rw [← mul_lt_iff (b := m * v) q0, e1, t1, mul_lt_iff v0]
  have key2 : ∀ m : Int, (m * w ≤ y ↔ m * q ≤ b * q + (d - b) * p) ∧ (y ≤ m * w ↔ b * q + (d - b) * p ≤ m * q) := fun m => by
    have t1 : m * w * q = m * q * w := by grind
    exact ⟨by rw [← mul_le_iff (a := m * w) q0, e2, t1, mul_le_iff w0], by rw [← mul_le_iff (b := m * w) q0, e2, t1, mul_le_iff w0]⟩
  have lex : ∀ (a b c d : Int), LexLe a b c d → ∀ p q : Int, 0 < q → 0 ≤ p → p ≤ q → (a * q < a * q + (c - a) * p ∨ (a * q = a * q + (c - a) * p ∧ b * q ≤ b * q + (d - b) * p)) ∧ (a * q + (c - a) * p < c * q ∨ (a * q + (c - a) * p = c * q ∧ b * q + (d - b) * p ≤ d * q)) := fun a b c d h p q q0 p0 p1 => by
    have f : c * q - (a * q + (c - a) * p) = (c - a) * (q - p) := by grind
    have g : d * q - (b * q + (d - b) * p) = (d - b) * (q - p) := by grind
    unfold LexLe at h
    rcases h with h | ⟨h1, h2⟩
    · constructor
      · rcases Int.lt_or_le 0 p with z | z
        · left
          have := Int.mul_pos (show 0 < c - a by omega) z
          omega
        · right
          have : p = 0 := by omega
          subst this
          omega
      · rcases Int.lt_or_le p q with z | z
        · left
          have := Int.mul_pos (show 0 < c - a by omega) (show 0 < q - p by omega)
          omega
        · right
          have : q - p = 0 := by omega
          rw [this] at f g
          omega
    · subst h1
      have := Int.mul_nonneg (show 0 ≤ d - b by omega) p0
      have := Int.mul_nonneg (show 0 ≤ d - b by omega) (show 0 ≤ q - p by omega)
      rw [Int.sub_self, Int.zero_mul]
      constructor
      · right; omega
      · right; omega
  unfold LoP HiP
  rw [(key _).1, (key _).2.1, (key2 _).1, (key (mxx a b c d)).2.2, (key2 _).2, show (x = mxx a b c d * v ↔ a * q + (c - a) * p = mxx a b c d * q) from ⟨fun h => ((key _).2.1.mp h.symm).symm, fun h => ((key _).2.1.mpr h.symm).symm⟩]
  have g1 := lex a b c d
  have g2 := lex c d a b
  have r1 : c * q + (a - c) * (q - p) = a * q + (c - a) * p := by grind
  have r2 : d * q + (b - d) * (q - p) = b * q + (d - b) * p := by grind
  rcases Int.lt_trichotomy a c with h | h | h
  · have m1 : mnx a b c d = a ∧ mny a b c d = b ∧ mxx a b c d = c ∧ mxy a b c d = d := by
      unfold mnx mny mxx mxy
      rw [if_neg (by omega), if_neg (by omega), if_pos (by omega), if_pos (by omega)]
      exact ⟨rfl, rfl, rfl, rfl⟩
    rw [m1.1, m1.2.1, m1.2.2.1, m1.2.2.2]
    exact g1 (.inl h) p q q0 p0 p1
  · rcases Int.lt_or_le d b with k | k
    · have m1 : mnx a b c d = c ∧ mny a b c d = d ∧ mxx a b c d = a ∧ mxy a b c d = b := by
        unfold mnx mny mxx mxy
        rw [if_pos (by omega), if_pos (by omega), if_neg (by omega), if_neg (by omega)]
        exact ⟨rfl, rfl, rfl, rfl⟩
      rw [m1.1, m1.2.1, m1.2.2.1, m1.2.2.2]
      have := g2 (.inr ⟨h.symm, by omega⟩) (q - p) q q0 (by omega) (by omega)
      rw [r1, r2] at this
      exact this
    · have m1 : mnx a b c d = a ∧ mny a b c d = b ∧ mxx a b c d = c ∧ mxy a b c d = d := by
        unfold mnx mny mxx mxy
        rw [if_neg (by omega), if_neg (by omega)]
        by_cases z : b < d
        · rw [if_pos (by omega), if_pos (by omega)]; exact ⟨rfl, rfl, rfl, rfl⟩
        · rw [if_neg (by omega), if_neg (by omega)]; exact ⟨rfl, rfl, h, by omega⟩
      rw [m1.1, m1.2.1, m1.2.2.1, m1.2.2.2]
      exact g1 (.inr ⟨h, k⟩) p q q0 p0 p1
  · have m1 : mnx a b c d = c ∧ mny a b c d = d ∧ mxx a b c d = a ∧ mxy a b c d = b := by
      unfold mnx mny mxx mxy
      rw [if_pos (by omega), if_pos (by omega), if_neg (by omega), if_neg (by omega)]
      exact ⟨rfl, rfl, rfl, rfl⟩
    rw [m1.1, m1.2.1, m1.2.2.1, m1.2.2.2]
    have := g2 (.inl h) (q - p) q q0 (by omega) (by omega)
    rw [r1, r2] at this
    exact this
def Both (a b c d e f g h : Int) : Plc := fun x v y w => OnS a b c d x v y w ∧ OnS e f g h x v y w
/-- what a common place says of the reckoned numbers -/
theorem both_num {a b c d e f g h x v y w : Int} (v0 : 0 < v) (w0 : 0 < w) (o : Both a b c d e f g h x v y w) : ∃ p q r t : Int, 0 < q ∧ 0 ≤ p ∧ p ≤ q ∧ 0 < t ∧ 0 ≤ r ∧ r ≤ t ∧ e0 a b e f g h * q = p * wh a b c d e f g h ∧ c0 a b c d e f * t = -(r * wh a b c d e f g h) ∧ x * q = (a * q + (c - a) * p) * v ∧ y * q = (b * q + (d - b) * p) * w := by
  obtain ⟨⟨p, q, q0, p0, p1, e1, e2⟩, ⟨r, t, t0, r0, r1, e3, e4⟩⟩ := o
  have k1 : (a * q + (c - a) * p) * t = (e * t + (g - e) * r) * q := by
    refine Int.eq_of_mul_eq_mul_right (show v ≠ 0 by omega) ?_
    grind
  have k2 : (b * q + (d - b) * p) * t = (f * t + (h - f) * r) * q := by
    refine Int.eq_of_mul_eq_mul_right (show w ≠ 0 by omega) ?_
    grind
  refine ⟨p, q, r, t, q0, p0, p1, t0, r0, r1, ?_, ?_, e1, e2⟩
  · refine Int.eq_of_mul_eq_mul_right (show t ≠ 0 by omega) ?_
    unfold e0 wh
    grind
  · refine Int.eq_of_mul_eq_mul_right (show q ≠ 0 by omega) ?_
    unfold c0 wh
    grind
theorem lo_le {p q x v y w p' q' : Int} (h : LoP p q x v y w) (h' : LoP p' q' x v y w) : LoP (mxx p q p' q') (mxy p q p' q') x v y w := by
  rcases mx_or p q p' q' with ⟨e1, e2, -⟩ | ⟨e1, e2, -⟩ <;> rw [e1, e2]
  · exact h
  · exact h'
theorem hi_le {r s x v y w r' s' : Int} (h : HiP x v y w r s) (h' : HiP x v y w r' s') : HiP x v y w (mnx r s r' s') (mny r s r' s') := by
  rcases mn_or r s r' s' with ⟨e1, e2, -⟩ | ⟨e1, e2, -⟩ <;> rw [e1, e2]
  · exact h
  · exact h'
theorem lohi {p q r s x v y w : Int} (v0 : 0 < v) (w0 : 0 < w) (h : LoP p q x v y w) (h' : HiP x v y w r s) : LexLe p q r s := by
  unfold LoP HiP LexLe at *
  have k1 : p * v < r * v ∨ p * v = r * v := by omega
  rcases k1 with k | k
  · exact .inl ((mul_lt_iff v0).mp k)
  · have e := Int.eq_of_mul_eq_mul_right (show v ≠ 0 by omega) k
    subst e
    right
    refine ⟨rfl, (mul_le_iff w0).mp ?_⟩
    omega
theorem meet_f {a b c d e f g h : Int} (ha : In100 a) (hb : In100 b) (hc : In100 c) (hd : In100 d) (he : In100 e) (hf : In100 f) (hg : In100 g) (hh : In100 h) (n1 : ¬(c = a ∧ d = b)) (n2 : ¬(g = e ∧ h = f)) : MeetF (Both a b c d e f g h) (meetD a b c d e f g h) := by
  have mc := meet_c ha hb hc hd he hf hg hh n1 n2
  have bt := fun x v y w v0 w0 (o : Both a b c d e f g h x v y w) => both_num v0 w0 o
  unfold meetD at mc ⊢
  by_cases w0 : wh a b c d e f g h = 0
  · rw [if_pos w0] at mc ⊢
    by_cases k0 : c0 a b c d e f = 0
    · rw [if_pos k0] at mc ⊢
      unfold commonD comD at mc ⊢
      have bl : ∀ x v y w, 0 < v → 0 < w → Both a b c d e f g h x v y w → _ ∧ _ := fun x v y w v0 w0 o => ⟨lo_le (onS_between v0 w0 o.1).1 (onS_between v0 w0 o.2).1, hi_le (onS_between v0 w0 o.1).2 (onS_between v0 w0 o.2).2⟩
      generalize mxx (mnx a b c d) (mny a b c d) (mnx e f g h) (mny e f g h) = p at *
      generalize mxy (mnx a b c d) (mny a b c d) (mnx e f g h) (mny e f g h) = q at *
      generalize mnx (mxx a b c d) (mxy a b c d) (mxx e f g h) (mxy e f g h) = r at *
      generalize mny (mxx a b c d) (mxy a b c d) (mxx e f g h) (mxy e f g h) = s at *
      by_cases k : r < p ∨ (r = p ∧ s < q)
      · rw [if_pos k]
        refine .non fun x v y w v0 w0 o => ?_
        obtain ⟨l1, l2⟩ := bl x v y w v0 w0 o
        have := lohi v0 w0 l1 l2
        unfold LexLe at this
        omega
      · rw [if_neg k] at mc ⊢
        by_cases k2 : p = r ∧ q = s
        · rw [if_pos k2] at mc ⊢
          obtain ⟨rfl, rfl⟩ := k2
          cases mc with
          | at_ _ _ _ _ _ _ _ _ _ _ o1 o2 =>
            refine .at_ p 1 q 1 (by decide) (by decide) (by decide) (by decide) (Int.gcd_one_right ..) (Int.gcd_one_right ..) ⟨o1, o2⟩ fun x v y w v0 w0 o => ?_
            obtain ⟨l1, l2⟩ := bl x v y w v0 w0 o
            unfold LoP at l1
            unfold HiP at l2
            omega
        · rw [if_neg k2] at mc ⊢
          cases mc with
          | along _ _ _ _ l o1 o2 o3 o4 => exact .along p q r s l ⟨o1, o2⟩ ⟨o3, o4⟩ bl
    · rw [if_neg k0]
      refine .non fun x v y w v0 w1 o => ?_
      obtain ⟨p, q, r, t, q0, p0, p1, t0, r0, r1, b1, b2, -, -⟩ := bt x v y w v0 w1 o
      rw [w0, Int.mul_zero] at b2
      rcases Int.mul_eq_zero.mp (show c0 a b c d e f * t = 0 by omega) with z | z
      · exact k0 z
      · omega
  · rw [if_neg w0] at mc ⊢
    by_cases k : 0 < c0 a b c d e f * (c0 a b c d e f + wh a b c d e f g h) ∨ 0 < e0 a b e f g h * (e0 a b e f g h - wh a b c d e f g h)
    · rw [if_pos k]
      refine .non fun x v y w v0 w1 o => ?_
      obtain ⟨p, q, r, t, q0, p0, p1, t0, r0, r1, b1, b2, -, -⟩ := bt x v y w v0 w1 o
      generalize wh a b c d e f g h = W at *
      generalize c0 a b c d e f = C at *
      generalize e0 a b e f g h = E at *
      have ww : 0 ≤ W * W := by
        rcases Int.le_total 0 W with z | z
        · exact Int.mul_nonneg z z
        · exact Int.mul_nonneg_of_nonpos_of_nonpos z z
      rcases k with k | k
      · have i1 : C * (C + W) * (t * t) = -(W * W * (r * (t - r))) := by grind
        have i2 := Int.mul_nonneg ww (Int.mul_nonneg r0 (show 0 ≤ t - r by omega))
        have i3 := Int.mul_pos k (Int.mul_pos t0 t0)
        omega
      · have i1 : E * (E - W) * (q * q) = -(W * W * (p * (q - p))) := by grind
        have i2 := Int.mul_nonneg ww (Int.mul_nonneg p0 (show 0 ≤ q - p by omega))
        have i3 := Int.mul_pos k (Int.mul_pos q0 q0)
        omega
    · rw [if_neg k] at mc ⊢
      obtain ⟨x, v, e1, v0, r1, -, s1, c1⟩ := lowD_spec (o := a * wh a b c d e f g h + e0 a b e f g h * (c - a)) w0
      obtain ⟨y, w, e2, w1, r2, -, s2, c2⟩ := lowD_spec (o := b * wh a b c d e f g h + e0 a b e f g h * (d - b)) w0
      rw [e1, e2] at mc ⊢
      cases mc with
      | at_ _ _ _ _ _ _ v9 w9 _ _ o1 o2 =>
        refine .at_ x v y w v0 w1 v9 w9 c1 c2 ⟨o1, o2⟩ fun x' v' y' w' v0' w0' o => ?_
        obtain ⟨p, q, r, t, q0, p0, p1, t0, r0, r1', b1, b2, f1, f2⟩ := bt x' v' y' w' v0' w0' o
        generalize wh a b c d e f g h = W at *
        generalize e0 a b e f g h = E at *
        constructor
        · refine Int.eq_of_mul_eq_mul_right (a := q * W) (Int.mul_ne_zero (by omega) w0) ?_
          have : x' * v * (q * W) = (a * q * W + (c - a) * (p * W)) * v' * v := by grind
          rw [this, ← b1]
          grind
        · refine Int.eq_of_mul_eq_mul_right (a := q * W) (Int.mul_ne_zero (by omega) w0) ?_
          have : y' * w * (q * W) = (b * q * W + (d - b) * (p * W)) * w' * w := by grind
          rw [this, ← b1]
          grind

/-! ### strokes as numbers; moved, exchanged -/
abbrev S4 := Int × Int × Int × Int
def sd (s : S4) : D := .tup [.int s.1, .int s.2.1, .int s.2.2.1, .int s.2.2.2]
def S4.ok (s : S4) : Prop := (-40 ≤ s.1 ∧ s.1 ≤ 40) ∧ (-40 ≤ s.2.1 ∧ s.2.1 ≤ 40) ∧ (-40 ≤ s.2.2.1 ∧ s.2.2.1 ≤ 40) ∧ (-40 ≤ s.2.2.2 ∧ s.2.2.2 ≤ 40) ∧ ¬(s.2.2.1 = s.1 ∧ s.2.2.2 = s.2.1)
theorem StrokeOk.s4 {d : D} (h : StrokeOk d) : ∃ s : S4, d = sd s ∧ s.ok := by
  obtain ⟨a, b, c, e, rfl, a1, a2, b1, b2, c1, c2, e1, e2, n⟩ := h
  exact ⟨(a, b, c, e), rfl, ⟨a1, a2⟩, ⟨b1, b2⟩, ⟨c1, c2⟩, ⟨e1, e2⟩, n⟩
theorem S4.ok.sok {s : S4} (h : s.ok) : StrokeOk (sd s) := ⟨_, _, _, _, rfl, h.1.1, h.1.2, h.2.1.1, h.2.1.2, h.2.2.1.1, h.2.2.1.2, h.2.2.2.1.1, h.2.2.2.1.2, h.2.2.2.2⟩
end DV

namespace DV
open PySem PySem.Spec PyProof.Rows L2
/-! ### closures of slices with a step -/
def k_s3c (x : D) (lo hi : Option Int) (Q : D → Prop) (st : Option Int) : Prop := sl3D x lo hi st Q
theorem k_s3c_q {x : D} {lo hi : Option Int} {Q : D → Prop} {st : Option Int} : k_s3c x lo hi Q st = sl3D x lo hi st Q := rfl
def k_s3b (c : DO) (ρ : List Slot) (x : D) (lo : Option Int) (Q : D → Prop) (hi : Option Int) : Prop := c ρ (k_s3c x lo hi Q)
theorem k_s3b_q {c : DO} {ρ : List Slot} {x : D} {lo : Option Int} {Q : D → Prop} {hi : Option Int} : k_s3b c ρ x lo Q hi = c ρ (k_s3c x lo hi Q) := rfl
def k_s3a (h c : DO) (ρ : List Slot) (x : D) (Q : D → Prop) (lo : Option Int) : Prop := h ρ (k_s3b c ρ x lo Q)
theorem k_s3a_q {h c : DO} {ρ : List Slot} {x : D} {Q : D → Prop} {lo : Option Int} : k_s3a h c ρ x Q lo = h ρ (k_s3b c ρ x lo Q) := rfl
def k_s3 (l h c : DO) (ρ : List Slot) (Q : D → Prop) (x : D) : Prop := l ρ (k_s3a h c ρ x Q)
theorem k_s3_q {l h c : DO} {ρ : List Slot} {Q : D → Prop} {x : D} : k_s3 l h c ρ Q x = l ρ (k_s3a h c ρ x Q) := rfl
theorem e_dSl3 {t : DE} {l h c : DO} {ρ : List Slot} {Q : D → Prop} : dSl3 t l h c ρ Q = t ρ (k_s3 l h c ρ Q) := rfl
theorem sl3_r2 {d e : D} {Q : D → Prop} : sl3D (.tup [d, e]) none none (some (-1)) Q = Q (.tup [e, d]) := by
  have e1 : ixs none none (-1) 2 = [1, 0] := by decide
  have e2 : pick [d, e] (ixs none none (-1) [d, e].length) = [e, d] := by
    rw [show [d, e].length = 2 from rfl, e1]; rfl
  show (_ ∧ _ ∧ (pick [d, e] (ixs none none (-1) [d, e].length)).length ≤ sizeLine ∧ Q (.tup (pick [d, e] (ixs none none (-1) [d, e].length)))) = _
  rw [e2]
  exact propext ⟨fun z => z.2.2.2, fun z => ⟨by decide, by decide, by show 2 ≤ sizeLine; decide, z⟩⟩
theorem pick_rev {α : Type} (xs : List α) : pick xs (ixsL none none (-1) xs.length) = xs.reverse := by
  unfold ixsL pick
  rw [PySem.W.krv_bounds]
  show (sliceRange ((xs.length : Int) - 1) (-1) (-1)).filterMap (xs[·]?) = _
  rw [PySem.W.krv_sliceRange, PySem.W.krv_range, List.filterMap_reverse]
  have := PySem.W.krv_all xs.toArray
  simp only [List.size_toArray, List.getElem?_toArray] at this
  rw [this]
theorem sl3_rl {ds : List D} {Q : D → Prop} : sl3D (.lst ds) none none (some (-1)) Q = Q (.lst ds.reverse) := by
  show (_ ∧ Q (.lst (pick ds (ixsL none none (-1) ds.length)))) = _
  rw [pick_rev]
  exact propext ⟨fun z => z.2, fun z => ⟨by decide, z⟩⟩
end DV

namespace DV
open PySem PySem.Spec PyProof.Rows L2
local macro_rules | `(tactic| walk_at "dv") => `(tactic| simp (config := { failIfUnchanged := false, implicitDefEqProofs := false }) only [↓k_rtNl_q, ↓k_sSetO_q, ↓k_sRetO_q, ↓k_nl_q, ↓k_nls_q, ↓k_nlc_q, ↓k_back_q, ↓k_lend_q, ↓k_put2_q, ↓k_put1_q, ↓k_put_q, ↓e_fnO, ↓e_sSetO, ↓e_sRetO, ↓e_dBor, ↓e_dBorO, ↓e_dBorA, ↓e_dBorT, ↓frz_0u, ↓frz_0t, ↓e_sLend, ↓ownK_o, ↓e_sPutD, ↓e_dD0, ↓inKD_d, ↓notInKD_d, ↓k_for_q, ↓e_for_n, ↓e_for_c, ↓k_sAppend1_q, ↓k_sAppend_q, ↓k_sRetOwn_q, ↓k_sPar2_q, ↓k_sPar_q, ↓k_sPar33_q, ↓k_sPar3_q, ↓k_some_q, ↓k_asI_q, ↓k_asS_q, ↓k_rng1_q, ↓k_one_q, ↓k_rng22_q, ↓k_rng21_q, ↓k_rng2_q, ↓k_two_q, ↓k_non_q, ↓k_no_q, ↓k_sSet_q, ↓k_sAsg_q, ↓k_sAsg2_q, ↓k_sIf_q, ↓k_sDrop_q, ↓k_sOwn_q, ↓k_sFor_q, ↓k_gs_q, ↓k_dOp2_q, ↓k_dOp_q, ↓k_dCh4_q, ↓k_dCh3_q, ↓k_dCh2_q, ↓k_dCh1_q, ↓k_dUn_q, ↓k_dTest_q, ↓k_dAnd_q, ↓k_dOr_q, ↓k_dNot_q, ↓k_dAndV_q, ↓k_dOrV_q, ↓k_dIf_q, ↓k_dCons2_q, ↓k_dCons_q, ↓k_dTup_q, ↓k_dLst_q, ↓k_dCall_q, ↓k_dIsi_q, ↓k_dIsi2_q, ↓k_dSl3_q, ↓k_dSl2_q, ↓k_dSl_q, ↓k_dRev_q, ↓k_s3_q, ↓k_s3a_q, ↓k_s3b_q, ↓k_s3c_q, ↓e_dSl3, ↓sl3_r2, ↓sl3_rl, ↓k_dLc_q, ↓k_dB_q, ↓chB_b, ↓tsB_b, ↓dVar_s, ↓ownL_o, ↓ownD_o, ↓roL_l, ↓e_sAppend, ↓e_sRetOwn, ↓two_2, ↓three_3, ↓e_sPar, ↓e_sPar3, ↓asI_i, ↓e_dPart, ↓asS_l, ↓asS_t, ↓e_iSeq, ↓one_1, ↓e_iRng1D, ↓e_iRng2D, ↓wipeD_n, ↓wipeD_c, ↓frz_0, ↓frz_0v, ↓frz_s, ↓e_fnD, ↓e_sSeq, ↓e_sNext, ↓e_sBreak, ↓e_sCont, ↓e_sSet, ↓e_sAsg, ↓e_sAsg2, ↓e_sIf, ↓e_sRet, ↓e_sRetN, ↓e_sDrop, ↓e_sNever, ↓e_sOwn, ↓e_sFrz, ↓e_sFor, ↓e_gN, ↓e_gT_t, ↓e_gsNil_n, ↓e_gsCons_c, ↓e_dVar_0, ↓e_dVar_0t, ↓e_dC, ↓e_dOp, ↓e_dChain, ↓e_dUn, ↓e_dTest, ↓e_dAnd, ↓e_dOr, ↓e_dNot, ↓e_dAndV, ↓e_dOrV, ↓e_dIf, ↓e_dNil, ↓e_dCons, ↓e_dTup, ↓e_dLst, ↓e_dCall, ↓e_dB, ↓e_dIsi, ↓e_dIsi2, ↓e_dSl, ↓e_dRev, ↓e_dNo, ↓e_dYes, ↓e_dLc,
  ↓addD_ii, ↓addD_tt, ↓addD_ll, ↓subD_ii, ↓mulD_ii, ↓fdivD_ii, ↓modD_ii, ↓powD_10_9, ↓powD_10_6, ↓ltA_ii, ↓leA_ii, ↓gtA_ii, ↓geA_ii, ↓ltA_t2, ↓leA_t2, ↓gtA_t2, ↓geA_t2, ↓max2A_ii, ↓min2A_ii, ↓slh4, ↓slt4', ↓max2A_c, ↓min2A_c, ↓revD_l, ↓isNon_n, ↓isNon_t, ↓isNon_l, ↓notNon_n, ↓notNon_t, ↓isBD_bb, ↓negD_i, ↓notD_b, ↓absD_i, ↓intC_i, ↓intC_b, ↓lenD_l, ↓lenD_t, ↓listD_l, ↓listD_t, ↓tupleD_l, ↓tupleD_t, ↓allD_l, ↓anyD_l, ↓ixT0, ↓ixT1, ↓ixT2, ↓ixT3, ↓ixL0, ↓ixL1, ↓ixL2, ↓ixL3, ↓slD_l,
  eqD, neD,  sl0, sl1, sl2, sl3, sl4, sl5, sl6, sl7, sl8, sl9, sl10, sl11, sl12, slt0, slt1, slt2, slt3, slt4, slt5, slt6, slt7, slt8, slt9, slt10, slt11, slt12, lay_i, lay_b, lay_n, lay_t0, lay_l0, lay_t2, lay_t4, eqb_ii, eqb_bb, eqb_ss, eqb_nn, eqb_tt, eqb_ll, eqbs_nn, eqbs_cc, eqbs_nc, eqbs_cn, tag_n, tag_c, tagS_v, tagS_u, tagS_o, tagS_t, back_n, back_c, backS_vt, backS_tt, backS_ot, backS_ut, backS_u, backS_v, backS_l, backS_d, ownS_l, ownS_d, ownS_t, ownS_i, ownS_n, noLst_l, noLst_i, noLst_b, noLst_s, noLst_n, noLst_d, noLst_t, noLsts_n, noLsts_c, nlc_l, nlc_d, nlc_i, nlc_b, nlc_t, tyOk_n, tyOk_b, tyOk_i, tyOk_s, tyOk_t, tyOk_l, isi_n, isi_b, isi_i, isi_s, isi_t, isi_l,
  List.map_cons, List.map_nil, List.cons_append, List.nil_append, List.append_nil, List.append_assoc, List.length_cons, List.length_nil, List.getElem?_cons_zero, List.getElem?_cons_succ, List.set_cons_zero, List.set_cons_succ, List.replicate, Nat.reduceAdd, Nat.reduceSub, Nat.zero_add, Nat.reduceLeDiff, Nat.reduceEqDiff,
  if_true, if_false, true_and, and_true, and_self, Bool.not_true, Bool.not_false, Bool.false_eq_true, Bool.and_true, Bool.true_and, Bool.or_false, Bool.false_or, Bool.or_true, Bool.true_or, decide_eq_true_eq, decide_true, decide_false, beq_self_eq_true, beq_iff_eq, String.reduceEq, reduceIte, reduceCtorEq])
local macro_rules | `(tactic| walk_at "dw") => `(tactic| simp (config := { failIfUnchanged := false, implicitDefEqProofs := false }) only [↓k_rtNl_q, ↓k_sSetO_q, ↓k_sRetO_q, ↓k_nl_q, ↓k_nls_q, ↓k_nlc_q, ↓k_back_q, ↓k_lend_q, ↓k_put2_q, ↓k_put1_q, ↓k_put_q, ↓e_fnO, ↓e_sSetO, ↓e_sRetO, ↓e_dBor, ↓e_dBorO, ↓e_dBorA, ↓e_dBorT, ↓frz_0u, ↓frz_0t, ↓e_sLend, ↓ownK_o, ↓e_sPutD, ↓e_dD0, ↓inKD_d, ↓notInKD_d, ↓k_for_q, ↓k_sAppend1_q, ↓k_sAppend_q, ↓k_sRetOwn_q, ↓k_sPar2_q, ↓k_sPar_q, ↓k_sPar33_q, ↓k_sPar3_q, ↓k_some_q, ↓k_asI_q, ↓k_asS_q, ↓k_rng1_q, ↓k_one_q, ↓k_rng22_q, ↓k_rng21_q, ↓k_rng2_q, ↓k_two_q, ↓k_non_q, ↓k_no_q, ↓k_sSet_q, ↓k_sAsg_q, ↓k_sAsg2_q, ↓k_sIf_q, ↓k_sDrop_q, ↓k_sOwn_q, ↓k_sFor_q, ↓k_gs_q, ↓k_dOp2_q, ↓k_dOp_q, ↓k_dCh4_q, ↓k_dCh3_q, ↓k_dCh2_q, ↓k_dCh1_q, ↓k_dUn_q, ↓k_dTest_q, ↓k_dAnd_q, ↓k_dOr_q, ↓k_dNot_q, ↓k_dAndV_q, ↓k_dOrV_q, ↓k_dIf_q, ↓k_dCons2_q, ↓k_dCons_q, ↓k_dTup_q, ↓k_dLst_q, ↓k_dCall_q, ↓k_dIsi_q, ↓k_dIsi2_q, ↓k_dSl3_q, ↓k_dSl2_q, ↓k_dSl_q, ↓k_dRev_q, ↓k_s3_q, ↓k_s3a_q, ↓k_s3b_q, ↓k_s3c_q, ↓e_dSl3, ↓sl3_r2, ↓sl3_rl, ↓k_dLc_q, ↓k_dB_q, ↓chB_b, ↓tsB_b, ↓dVar_s, ↓ownL_o, ↓ownD_o, ↓roL_l, ↓e_sAppend, ↓e_sRetOwn, ↓two_2, ↓three_3, ↓e_sPar, ↓e_sPar3, ↓asI_i, ↓e_dPart, ↓asS_l, ↓asS_t, ↓e_iSeq, ↓one_1, ↓e_iRng1D, ↓e_iRng2D, ↓wipeD_n, ↓wipeD_c, ↓frz_0, ↓frz_0v, ↓frz_s, ↓e_fnD, ↓e_sSeq, ↓e_sNext, ↓e_sBreak, ↓e_sCont, ↓e_sSet, ↓e_sAsg, ↓e_sAsg2, ↓e_sIf, ↓e_sRet, ↓e_sRetN, ↓e_sDrop, ↓e_sNever, ↓e_sOwn, ↓e_sFrz, ↓e_sFor, ↓e_gN, ↓e_gT_t, ↓e_gsNil_n, ↓e_gsCons_c, ↓e_dVar_0, ↓e_dVar_0t, ↓e_dC, ↓e_dOp, ↓e_dChain, ↓e_dUn, ↓e_dTest, ↓e_dAnd, ↓e_dOr, ↓e_dNot, ↓e_dAndV, ↓e_dOrV, ↓e_dIf, ↓e_dNil, ↓e_dCons, ↓e_dTup, ↓e_dLst, ↓e_dCall, ↓e_dB, ↓e_dIsi, ↓e_dIsi2, ↓e_dSl, ↓e_dRev, ↓e_dNo, ↓e_dYes, ↓e_dLc,
  ↓addD_ii, ↓addD_tt, ↓addD_ll, ↓subD_ii, ↓mulD_ii, ↓fdivD_ii, ↓modD_ii, ↓powD_10_9, ↓powD_10_6, ↓ltA_ii, ↓leA_ii, ↓gtA_ii, ↓geA_ii, ↓ltA_t2, ↓leA_t2, ↓gtA_t2, ↓geA_t2, ↓max2A_ii, ↓min2A_ii, ↓slh4, ↓slt4', ↓max2A_c, ↓min2A_c, ↓revD_l, ↓isNon_n, ↓isNon_t, ↓isNon_l, ↓notNon_n, ↓notNon_t, ↓isBD_bb, ↓negD_i, ↓notD_b, ↓absD_i, ↓intC_i, ↓intC_b, ↓lenD_l, ↓lenD_t, ↓listD_l, ↓listD_t, ↓tupleD_l, ↓tupleD_t, ↓allD_l, ↓anyD_l, ↓ixT0, ↓ixT1, ↓ixT2, ↓ixT3, ↓ixL0, ↓ixL1, ↓ixL2, ↓ixL3, ↓slD_l,
  eqD, neD,  sl0, sl1, sl2, sl3, sl4, sl5, sl6, sl7, sl8, sl9, sl10, sl11, sl12, slt0, slt1, slt2, slt3, slt4, slt5, slt6, slt7, slt8, slt9, slt10, slt11, slt12, lay_i, lay_b, lay_n, lay_t0, lay_l0, lay_t2, lay_t4, eqb_ii, eqb_bb, eqb_ss, eqb_nn, eqb_tt, eqb_ll, eqbs_nn, eqbs_cc, eqbs_nc, eqbs_cn, tag_n, tag_c, tagS_v, tagS_u, tagS_o, tagS_t, back_n, back_c, backS_vt, backS_tt, backS_ot, backS_ut, backS_u, backS_v, backS_l, backS_d, ownS_l, ownS_d, ownS_t, ownS_i, ownS_n, noLst_l, noLst_i, noLst_b, noLst_s, noLst_n, noLst_d, noLst_t, noLsts_n, noLsts_c, nlc_l, nlc_d, nlc_i, nlc_b, nlc_t, tyOk_n, tyOk_b, tyOk_i, tyOk_s, tyOk_t, tyOk_l, isi_n, isi_b, isi_i, isi_s, isi_t, isi_l,
  List.map_cons, List.map_nil, List.cons_append, List.nil_append, List.append_nil, List.append_assoc, List.length_cons, List.length_nil, List.getElem?_cons_zero, List.getElem?_cons_succ, List.set_cons_zero, List.set_cons_succ, List.replicate, Nat.reduceAdd, Nat.reduceSub, Nat.zero_add, Nat.reduceLeDiff, Nat.reduceEqDiff,
  if_true, if_false, true_and, and_true, and_self, Bool.not_true, Bool.not_false, Bool.false_eq_true, Bool.and_true, Bool.true_and, Bool.or_false, Bool.false_or, Bool.or_true, Bool.true_or, decide_eq_true_eq, decide_true, decide_false, beq_self_eq_true, beq_iff_eq, String.reduceEq, reduceIte, reduceCtorEq])
end DV

namespace DV
open PySem PySem.Spec PyProof.Rows L2
/-! ### dicts as data, plain laws -/
theorem nk_inj : ∀ {d e : D}, d.kin = true → e.kin = true → d.nk = e.nk → d = e
  | .int i, .int j, _, _, h => by simp only [D.nk, NestedKey.num.injEq] at h; rw [h]
  | .int i, .tup es, _, _, h => by simp [D.nk] at h
  | .tup ds, .int j, _, _, h => by simp [D.nk] at h
  | .tup ds, .tup es, h, g, e => by
    simp only [D.kin] at h g
    simp only [D.nk, NestedKey.tup.injEq] at e
    have key : ∀ (ds es : List D), (∀ x ∈ ds, ∀ y : D, x.kin = true → y.kin = true → x.nk = y.nk → x = y) → D.kins ds = true → D.kins es = true → D.nks ds = D.nks es → ds = es := by
      intro ds
      induction ds with
      | nil => intro es _ _ _ e; cases es <;> simp [D.nks] at e ⊢
      | cons d ds ih =>
        intro es hx h g e
        cases es with
        | nil => simp [D.nks] at e
        | cons y es =>
          simp only [D.nks, List.cons.injEq] at e
          simp only [D.kins, Bool.and_eq_true] at h g
          rw [hx d List.mem_cons_self y h.1 g.1 e.1, ih es (fun x hx' => hx x (List.mem_cons_of_mem _ hx')) h.2 g.2 e.2]
    rw [key ds es (fun x _ y a b c => nk_inj a b c) h g e]
  | .non, _, h, _, _ => by simp [D.kin] at h
  | .bl _, _, h, _, _ => by simp [D.kin] at h
  | .str _, _, h, _, _ => by simp [D.kin] at h
  | .lst _, _, h, _, _ => by simp [D.kin] at h
  | .dic _, _, h, _, _ => by simp [D.kin] at h
  | .bag, _, h, _, _ => by simp [D.kin] at h
  | .scr, _, h, _, _ => by simp [D.kin] at h
  | .int _, .non, _, h, _ => by simp [D.kin] at h
  | .int _, .bl _, _, h, _ => by simp [D.kin] at h
  | .int _, .str _, _, h, _ => by simp [D.kin] at h
  | .int _, .lst _, _, h, _ => by simp [D.kin] at h
  | .int _, .dic _, _, h, _ => by simp [D.kin] at h
  | .int _, .bag, _, h, _ => by simp [D.kin] at h
  | .int _, .scr, _, h, _ => by simp [D.kin] at h
  | .tup _, .non, _, h, _ => by simp [D.kin] at h
  | .tup _, .bl _, _, h, _ => by simp [D.kin] at h
  | .tup _, .str _, _, h, _ => by simp [D.kin] at h
  | .tup _, .lst _, _, h, _ => by simp [D.kin] at h
  | .tup _, .dic _, _, h, _ => by simp [D.kin] at h
  | .tup _, .bag, _, h, _ => by simp [D.kin] at h
  | .tup _, .scr, _, h, _ => by simp [D.kin] at h
theorem kin_eq {d e : D} (h : d.kin = true) (g : e.kin = true) : (D.eqb d e = true ↔ d = e) := by
  rw [eqb_nk h g, decide_eq_true_eq]
  exact ⟨nk_inj h g, fun z => by rw [z]⟩
/-- keys -/
def Ky (d : D) : Prop := d.flt = true ∨ d.kok = true
theorem Ky.eq {d e : D} (h : Ky d) (g : Ky e) : (D.eqb d e = true ↔ d = e) := by
  rcases h with h | h <;> rcases g with g | g
  · obtain ⟨k, rfl⟩ := flt_key h
    obtain ⟨j, rfl⟩ := flt_key g
    rw [eqb_key, decide_eq_true_eq]
    exact ⟨fun z => by rw [z], fun z => by rcases k with k | k <;> rcases j with j | j <;> first | (injection z with z; rw [z]) | cases z⟩
  · refine ⟨fun z => ?_, fun z => by rw [z, kok_flt g] at h; cases h⟩
    cases d <;> first | (simp [D.flt] at h; done) | skip
    all_goals cases e <;> first | (simp [D.kok] at g; done) | (simp [D.eqb] at z; done)
  · refine ⟨fun z => ?_, fun z => by rw [← z, kok_flt h] at g; cases g⟩
    cases e <;> first | (simp [D.flt] at g; done) | skip
    all_goals cases d <;> first | (simp [D.kok] at h; done) | (simp [D.eqb] at z; done)
  · exact kin_eq (kok_kin h) (kok_kin g)
theorem dgetD_pos {p : D × D} {r : List (D × D)} {k : D} (e : D.eqb p.1 k = true) : dgetD (p :: r) k = some p.2 := by simp [dgetD, e]
theorem dgetD_neg {p : D × D} {r : List (D × D)} {k : D} (e : ¬D.eqb p.1 k = true) : dgetD (p :: r) k = dgetD r k := by simp [dgetD, e]
/-! spots as keys -/
theorem kok_tp (s : Sp2) : (tp s).kok = true := by simp [tp, D.kok, D.kins, D.kin, D.nks, D.nk, NestedKey.depth, NestedKey.depthAll]
/-! a stroke turned about -/
theorem ahead_r {c a m m' : Int} (h : Ahead (a - c) m m') : Ahead (c - a) m' m := by unfold Ahead at *; omega
theorem SqOk.rev {a b c d : Int} {L : List Sp2} (S : SqOk a b c d L) : SqOk c d a b L.reverse where
  mem := fun s => by rw [List.mem_reverse, S.mem]; exact goesP_r.symm
  ord := by
    rw [List.pairwise_reverse]
    exact S.ord.imp fun h => ⟨ahead_r h.1, ahead_r h.2.1, fun z => h.2.2 ⟨z.1.symm, z.2.symm⟩⟩
  one := fun i s t h1 h2 => by
    have hi : i + 1 < L.length := by have := (List.getElem?_eq_some_iff.mp h2).1; simpa using this
    rw [List.getElem?_reverse (by omega)] at h1
    rw [List.getElem?_reverse (by omega)] at h2
    have := S.one (L.length - 1 - (i + 1)) t s h2 (by rw [← h1]; congr 1; omega)
    unfold Near1 at *
    omega
  hd := by rw [List.head?_reverse]; exact S.lst
  lst := by rw [List.getLast?_reverse]; exact S.hd
  few := by rw [List.length_reverse]; exact S.few
end DV

namespace DV
open PySem PySem.Spec PyProof.Rows L2
/-! ### closures of DxA .. DxG -/
def k_zipL (Q : D → Prop) (ds : List D) : Prop := match ds with
  | [.lst xs, .lst ys] => Q (.lst (zipD xs ys))
  | _ => False
theorem k_zipL_q {Q : D → Prop} {xs ys : List D} : k_zipL Q [.lst xs, .lst ys] = Q (.lst (zipD xs ys)) := rfl
theorem e_dZipL {t : DA} {ρ : List Slot} {Q : D → Prop} : dZipL t ρ Q = t ρ (k_zipL Q) := rfl
def k_zip (Q : List D → Prop) (ds : List D) : Prop := match ds with
  | [.lst xs, .lst ys] => Q (zipD xs ys)
  | _ => False
theorem k_zip_q {Q : List D → Prop} {xs ys : List D} : k_zip Q [.lst xs, .lst ys] = Q (zipD xs ys) := rfl
theorem e_iZipD {t : DA} {ρ : List Slot} {Q : List D → Prop} : iZipD t ρ Q = t ρ (k_zip Q) := rfl
def k_enum (Q : List D → Prop) (ds : List D) : Prop := match ds with
  | [.lst xs] => Q (enumD 0 xs)
  | _ => False
theorem k_enum_q {Q : List D → Prop} {xs : List D} : k_enum Q [.lst xs] = Q (enumD 0 xs) := rfl
theorem e_iEnumD {t : DA} {ρ : List Slot} {Q : List D → Prop} : iEnumD t ρ Q = t ρ (k_enum Q) := rfl
def k_keys (Q : List D → Prop) (d : D) : Prop := match d with
  | .dic kvs => (∀ q ∈ kvs, q.1.flt = true) ∧ Q (kvs.map (·.1))
  | _ => False
theorem k_keys_q {Q : List D → Prop} {kvs : List (D × D)} : k_keys Q (.dic kvs) = ((∀ q ∈ kvs, q.1.flt = true) ∧ Q (kvs.map (·.1))) := rfl
theorem e_iKeysD {t : DE} {ρ : List Slot} {Q : List D → Prop} : iKeysD t ρ Q = t ρ (k_keys Q) := rfl
def k_vals (Q : List D → Prop) (d : D) : Prop := match d with
  | .dic kvs => (∀ q ∈ kvs, q.1.flt = true) ∧ Q (kvs.map (·.2))
  | _ => False
theorem k_vals_q {Q : List D → Prop} {kvs : List (D × D)} : k_vals Q (.dic kvs) = ((∀ q ∈ kvs, q.1.flt = true) ∧ Q (kvs.map (·.2))) := rfl
theorem e_iValsD {t : DE} {ρ : List Slot} {Q : List D → Prop} : iValsD t ρ Q = t ρ (k_vals Q) := rfl
def k_items (Q : List D → Prop) (d : D) : Prop := match d with
  | .dic kvs => (∀ q ∈ kvs, q.1.flt = true) ∧ Q (kvs.map tup2)
  | _ => False
theorem k_items_q {Q : List D → Prop} {kvs : List (D × D)} : k_items Q (.dic kvs) = ((∀ q ∈ kvs, q.1.flt = true) ∧ Q (kvs.map tup2)) := rfl
theorem e_iItemsD {t : DE} {ρ : List Slot} {Q : List D → Prop} : iItemsD t ρ Q = t ρ (k_items Q) := rfl
def k_tru (Q : Bool → Prop) (x : D) : Prop := truD x Q
theorem k_tru_q {Q : Bool → Prop} {x : D} : k_tru Q x = truD x Q := rfl
theorem e_dTru {t : DE} {ρ : List Slot} {Q : Bool → Prop} : dTru t ρ Q = t ρ (k_tru Q) := rfl
theorem truD_l {ds : List D} {Q : Bool → Prop} : truD (.lst ds) Q = Q (!ds.isEmpty) := rfl
theorem truD_t {ds : List D} {Q : Bool → Prop} : truD (.tup ds) Q = Q (!ds.isEmpty) := rfl
theorem truD_b {b : Bool} {Q : Bool → Prop} : truD (.bl b) Q = Q b := rfl
theorem truD_n {Q : Bool → Prop} : truD .non Q = Q false := rfl
def k_rev (i : Nat) (N : DN) (ρ : List Slot) (ds : List D) : Prop := N.nx (ρ.set i (.own (.lst ds.reverse)))
theorem k_rev_q {i : Nat} {N : DN} {ρ : List Slot} {ds : List D} : k_rev i N ρ ds = N.nx (ρ.set i (.own (.lst ds.reverse))) := rfl
theorem e_sRev {i : Nat} {N : DN} {ρ : List Slot} : sRev i N ρ = ownL ρ[i]? (k_rev i N ρ) := rfl
def k_clr (i : Nat) (N : DN) (ρ : List Slot) (ds : List D) : Prop := N.nx (ρ.set i (.own (.lst [])))
theorem k_clr_q {i : Nat} {N : DN} {ρ : List Slot} {ds : List D} : k_clr i N ρ ds = N.nx (ρ.set i (.own (.lst []))) := rfl
theorem e_sClr {i : Nat} {N : DN} {ρ : List Slot} : sClr i N ρ = ownL ρ[i]? (k_clr i N ρ) := rfl
def k_ins3 (i : Nat) (N : DN) (ρ : List Slot) (ds : List D) (j : Int) (d : D) : Prop := (0 ≤ j ∧ j < 2 ^ 63 ∧ ds.length < sizeLine) ∧ N.nx (ρ.set i (.own (.lst (ds.take j.toNat ++ [d] ++ ds.drop j.toNat))))
theorem k_ins3_q {i : Nat} {N : DN} {ρ : List Slot} {ds : List D} {j : Int} {d : D} : k_ins3 i N ρ ds j d = ((0 ≤ j ∧ j < 2 ^ 63 ∧ ds.length < sizeLine) ∧ N.nx (ρ.set i (.own (.lst (ds.take j.toNat ++ [d] ++ ds.drop j.toNat))))) := rfl
def k_ins2 (i : Nat) (tv : DE) (N : DN) (ρ : List Slot) (ds : List D) (k : D) : Prop := match k with
  | .int j => tv ρ (k_ins3 i N ρ ds j)
  | _ => False
theorem k_ins2_q {i : Nat} {tv : DE} {N : DN} {ρ : List Slot} {ds : List D} {j : Int} : k_ins2 i tv N ρ ds (.int j) = tv ρ (k_ins3 i N ρ ds j) := rfl
def k_ins (i : Nat) (ti tv : DE) (N : DN) (ρ : List Slot) (ds : List D) : Prop := ti ρ (k_ins2 i tv N ρ ds)
theorem k_ins_q {i : Nat} {ti tv : DE} {N : DN} {ρ : List Slot} {ds : List D} : k_ins i ti tv N ρ ds = ti ρ (k_ins2 i tv N ρ ds) := rfl
theorem e_sIns {i : Nat} {ti tv : DE} {N : DN} {ρ : List Slot} : sIns i ti tv N ρ = ownL ρ[i]? (k_ins i ti tv N ρ) := rfl
def k_move (i j : Nat) (N : DN) (ρ : List Slot) (d : D) : Prop := i ≠ j ∧ N.nx ((ρ.set j .un).set i (.own d))
theorem k_move_q {i j : Nat} {N : DN} {ρ : List Slot} {d : D} : k_move i j N ρ d = (i ≠ j ∧ N.nx ((ρ.set j .un).set i (.own d))) := rfl
theorem e_sMove {i j : Nat} {N : DN} {ρ : List Slot} : sMove i j N ρ = ownD ρ[j]? (k_move i j N ρ) := rfl
def k_lc2 (g : DG) (tt : DT) (it1 : DI) (g1 : DG) (tt1 : DT) (te : DE) (vs1 : List Nat) (ρ : List Slot) (Q : D → Prop) (ds : List D) : Prop := lc2D g tt it1 g1 tt1 te vs1 ρ ds [] Q
theorem k_lc2_q {g : DG} {tt : DT} {it1 : DI} {g1 : DG} {tt1 : DT} {te : DE} {vs1 : List Nat} {ρ : List Slot} {Q : D → Prop} {ds : List D} : k_lc2 g tt it1 g1 tt1 te vs1 ρ Q ds = lc2D g tt it1 g1 tt1 te vs1 ρ ds [] Q := rfl
theorem e_dLc2 {it : DI} {g : DG} {tt : DT} {it1 : DI} {g1 : DG} {tt1 : DT} {te : DE} {vs vs1 : List Nat} {ρ : List Slot} {Q : D → Prop} : dLc2 it g tt it1 g1 tt1 te vs vs1 ρ Q = it ρ (k_lc2 g tt it1 g1 tt1 te vs1 (wipeD ρ vs) Q) := rfl
theorem inTD_t {x : D} {ds : List D} {Q : D → Prop} : inTD x (.tup ds) Q = (x.lay = true ∧ (D.tup ds).lay = true ∧ Q (.bl (ds.any fun z => D.eqb z x))) := rfl
theorem notBD_bb {a b : Bool} {Q : D → Prop} : notBD (.bl a) (.bl b) Q = Q (.bl (!decide (a = b))) := rfl
theorem dictK_d {kvs : List (D × D)} {Q : D → Prop} : dictK [.dic kvs] Q = ((∀ q ∈ kvs, q.1.flt = true) ∧ Q (.dic kvs)) := rfl
theorem sortedC_l {xs : List D} {Q : D → Prop} : sortedC [.lst xs] Q = (SrtD xs ∧ ∀ ys, SortTo xs ys → Q (.lst ys)) := rfl
theorem sortedC_d {kvs : List (D × D)} {Q : D → Prop} : sortedC [.dic kvs] Q = (SrtD (kvs.map (·.1)) ∧ ∀ ys, SortTo (kvs.map (·.1)) ys → Q (.lst ys)) := rfl
theorem fgs_n : fgs [] = [] := rfl
theorem fgs_c {s : Slot} {ρ : List Slot} : fgs (s :: ρ) = s.fg :: fgs ρ := rfl
theorem fg_v {d : D} : Slot.fg (.v d) = .v d := rfl
theorem fg_t {u : V} {d : D} : Slot.fg (.tg u d) = .tg u d := rfl
theorem fg_u : Slot.fg .un = .un := rfl
theorem fg_o {d : D} : Slot.fg (.own d) = .un := rfl
/-! ### what may be sorted -/
theorem srt_strs {xs : List Str} : SrtD (xs.map D.str) := by
  refine ⟨⟨⟨1, fun k hk => ?_⟩, fun k hk j hj => ?_, fun k hk => ?_⟩, fun d hd => ?_⟩
  · obtain ⟨d, hd, rfl⟩ := List.mem_map.mp hk
    obtain ⟨x, _, rfl⟩ := List.mem_map.mp hd
    rfl
  · obtain ⟨d, hd, rfl⟩ := List.mem_map.mp hk
    obtain ⟨x, _, rfl⟩ := List.mem_map.mp hd
    obtain ⟨e, he, rfl⟩ := List.mem_map.mp hj
    obtain ⟨y, _, rfl⟩ := List.mem_map.mp he
    simp [D.nt, LOk]
  · obtain ⟨d, hd, rfl⟩ := List.mem_map.mp hk
    obtain ⟨x, _, rfl⟩ := List.mem_map.mp hd
    simp [D.nt, NestedKey.depth]
  · obtain ⟨x, _, rfl⟩ := List.mem_map.mp hd
    rfl
theorem lok_pair {a b c d : Int} : LOk (tp (a, b)).nt (tp (c, d)).nt := by
  simp only [tp, D.nt, D.nts, LOk, LOks]
  exact ⟨fun _ => ⟨fun _ => True.intro, fun _ => True.intro⟩, fun _ => True.intro⟩
theorem srt_tps {L : List Sp2} : SrtD (L.map tp) := by
  refine ⟨⟨⟨2, fun k hk => ?_⟩, fun k hk j hj => ?_, fun k hk => ?_⟩, fun d hd => ?_⟩
  · obtain ⟨d, hd, rfl⟩ := List.mem_map.mp hk
    obtain ⟨x, _, rfl⟩ := List.mem_map.mp hd
    simp [tp, D.nt, D.nts, kindN]
  · obtain ⟨d, hd, rfl⟩ := List.mem_map.mp hk
    obtain ⟨x, _, rfl⟩ := List.mem_map.mp hd
    obtain ⟨e, he, rfl⟩ := List.mem_map.mp hj
    obtain ⟨y, _, rfl⟩ := List.mem_map.mp he
    exact lok_pair
  · obtain ⟨d, hd, rfl⟩ := List.mem_map.mp hk
    obtain ⟨x, _, rfl⟩ := List.mem_map.mp hd
    simp [tp, D.nt, D.nts, NestedKey.depth, NestedKey.depthAll]
  · obtain ⟨x, _, rfl⟩ := List.mem_map.mp hd
    simp [tp, D.srt, D.srts]
end DV

namespace DV
open PySem PySem.Spec PyProof.Rows L2
local macro_rules | `(tactic| walk_at "dv") => `(tactic| simp (config := { failIfUnchanged := false, implicitDefEqProofs := false }) only [↓k_zipL_q, ↓e_dZipL, ↓k_zip_q, ↓e_iZipD, ↓k_enum_q, ↓e_iEnumD, ↓k_keys_q, ↓e_iKeysD, ↓k_vals_q, ↓e_iValsD, ↓k_items_q, ↓e_iItemsD, ↓k_tru_q, ↓e_dTru, ↓truD_l, ↓truD_t, ↓truD_b, ↓truD_n, ↓k_rev_q, ↓e_sRev, ↓k_clr_q, ↓e_sClr, ↓k_ins3_q, ↓k_ins2_q, ↓k_ins_q, ↓e_sIns, ↓k_move_q, ↓e_sMove, ↓k_lc2_q, ↓e_dLc2, ↓inTD_t, ↓notBD_bb, ↓dictK_d, fgs_n, fgs_c, fg_v, fg_t, fg_u, fg_o, ↓k_rtNl_q, ↓k_sSetO_q, ↓k_sRetO_q, ↓k_nl_q, ↓k_nls_q, ↓k_nlc_q, ↓k_back_q, ↓k_lend_q, ↓k_put2_q, ↓k_put1_q, ↓k_put_q, ↓e_fnO, ↓e_sSetO, ↓e_sRetO, ↓e_dBor, ↓e_dBorO, ↓e_dBorA, ↓e_dBorT, ↓frz_0u, ↓frz_0t, ↓e_sLend, ↓ownK_o, ↓e_sPutD, ↓e_dD0, ↓inKD_d, ↓notInKD_d, ↓k_for_q, ↓e_for_n, ↓e_for_c, ↓k_sAppend1_q, ↓k_sAppend_q, ↓k_sRetOwn_q, ↓k_sPar2_q, ↓k_sPar_q, ↓k_sPar33_q, ↓k_sPar3_q, ↓k_some_q, ↓k_asI_q, ↓k_asS_q, ↓k_rng1_q, ↓k_one_q, ↓k_rng22_q, ↓k_rng21_q, ↓k_rng2_q, ↓k_two_q, ↓k_non_q, ↓k_no_q, ↓k_sSet_q, ↓k_sAsg_q, ↓k_sAsg2_q, ↓k_sIf_q, ↓k_sDrop_q, ↓k_sOwn_q, ↓k_sFor_q, ↓k_gs_q, ↓k_dOp2_q, ↓k_dOp_q, ↓k_dCh4_q, ↓k_dCh3_q, ↓k_dCh2_q, ↓k_dCh1_q, ↓k_dUn_q, ↓k_dTest_q, ↓k_dAnd_q, ↓k_dOr_q, ↓k_dNot_q, ↓k_dAndV_q, ↓k_dOrV_q, ↓k_dIf_q, ↓k_dCons2_q, ↓k_dCons_q, ↓k_dTup_q, ↓k_dLst_q, ↓k_dCall_q, ↓k_dIsi_q, ↓k_dIsi2_q, ↓k_dSl3_q, ↓k_dSl2_q, ↓k_dSl_q, ↓k_dRev_q, ↓k_s3_q, ↓k_s3a_q, ↓k_s3b_q, ↓k_s3c_q, ↓e_dSl3, ↓sl3_r2, ↓sl3_rl, ↓k_dLc_q, ↓k_dB_q, ↓chB_b, ↓tsB_b, ↓dVar_s, ↓ownL_o, ↓ownD_o, ↓roL_l, ↓e_sAppend, ↓e_sRetOwn, ↓two_2, ↓three_3, ↓e_sPar, ↓e_sPar3, ↓asI_i, ↓e_dPart, ↓asS_l, ↓asS_t, ↓e_iSeq, ↓one_1, ↓e_iRng1D, ↓e_iRng2D, ↓wipeD_n, ↓wipeD_c, ↓frz_0, ↓frz_0v, ↓frz_s, ↓e_fnD, ↓e_sSeq, ↓e_sNext, ↓e_sBreak, ↓e_sCont, ↓e_sSet, ↓e_sAsg, ↓e_sAsg2, ↓e_sIf, ↓e_sRet, ↓e_sRetN, ↓e_sDrop, ↓e_sNever, ↓e_sOwn, ↓e_sFrz, ↓e_sFor, ↓e_gN, ↓e_gT_t, ↓e_gsNil_n, ↓e_gsCons_c, ↓e_dVar_0, ↓e_dVar_0t, ↓e_dC, ↓e_dOp, ↓e_dChain, ↓e_dUn, ↓e_dTest, ↓e_dAnd, ↓e_dOr, ↓e_dNot, ↓e_dAndV, ↓e_dOrV, ↓e_dIf, ↓e_dNil, ↓e_dCons, ↓e_dTup, ↓e_dLst, ↓e_dCall, ↓e_dB, ↓e_dIsi, ↓e_dIsi2, ↓e_dSl, ↓e_dRev, ↓e_dNo, ↓e_dYes, ↓e_dLc,
  ↓addD_ii, ↓addD_tt, ↓addD_ll, ↓subD_ii, ↓mulD_ii, ↓fdivD_ii, ↓modD_ii, ↓powD_10_9, ↓powD_10_6, ↓ltA_ii, ↓leA_ii, ↓gtA_ii, ↓geA_ii, ↓ltA_t2, ↓leA_t2, ↓gtA_t2, ↓geA_t2, ↓max2A_ii, ↓min2A_ii, ↓slh4, ↓slt4', ↓max2A_c, ↓min2A_c, ↓revD_l, ↓isNon_n, ↓isNon_t, ↓isNon_l, ↓notNon_n, ↓notNon_t, ↓isBD_bb, ↓negD_i, ↓notD_b, ↓absD_i, ↓intC_i, ↓intC_b, ↓lenD_l, ↓lenD_t, ↓listD_l, ↓listD_t, ↓tupleD_l, ↓tupleD_t, ↓allD_l, ↓anyD_l, ↓ixT0, ↓ixT1, ↓ixT2, ↓ixT3, ↓ixL0, ↓ixL1, ↓ixL2, ↓ixL3, ↓slD_l,
  eqD, neD,  sl0, sl1, sl2, sl3, sl4, sl5, sl6, sl7, sl8, sl9, sl10, sl11, sl12, slt0, slt1, slt2, slt3, slt4, slt5, slt6, slt7, slt8, slt9, slt10, slt11, slt12, lay_i, lay_b, lay_n, lay_t0, lay_l0, lay_t2, lay_t4, eqb_ii, eqb_bb, eqb_ss, eqb_nn, eqb_tt, eqb_ll, eqbs_nn, eqbs_cc, eqbs_nc, eqbs_cn, tag_n, tag_c, tagS_v, tagS_u, tagS_o, tagS_t, back_n, back_c, backS_vt, backS_tt, backS_ot, backS_ut, backS_u, backS_v, backS_l, backS_d, ownS_l, ownS_d, ownS_t, ownS_i, ownS_n, noLst_l, noLst_i, noLst_b, noLst_s, noLst_n, noLst_d, noLst_t, noLsts_n, noLsts_c, nlc_l, nlc_d, nlc_i, nlc_b, nlc_t, tyOk_n, tyOk_b, tyOk_i, tyOk_s, tyOk_t, tyOk_l, isi_n, isi_b, isi_i, isi_s, isi_t, isi_l,
  List.map_cons, List.map_nil, List.cons_append, List.nil_append, List.append_nil, List.append_assoc, List.length_cons, List.length_nil, List.getElem?_cons_zero, List.getElem?_cons_succ, List.set_cons_zero, List.set_cons_succ, List.replicate, Nat.reduceAdd, Nat.reduceSub, Nat.zero_add, Nat.reduceLeDiff, Nat.reduceEqDiff,
  if_true, if_false, true_and, and_true, and_self, Bool.not_true, Bool.not_false, Bool.false_eq_true, Bool.and_true, Bool.true_and, Bool.or_false, Bool.false_or, Bool.or_true, Bool.true_or, decide_eq_true_eq, decide_true, decide_false, beq_self_eq_true, beq_iff_eq, String.reduceEq, reduceIte, reduceCtorEq])
local macro_rules | `(tactic| walk_at "dw") => `(tactic| simp (config := { failIfUnchanged := false, implicitDefEqProofs := false }) only [↓k_zipL_q, ↓e_dZipL, ↓k_zip_q, ↓e_iZipD, ↓k_enum_q, ↓e_iEnumD, ↓k_keys_q, ↓e_iKeysD, ↓k_vals_q, ↓e_iValsD, ↓k_items_q, ↓e_iItemsD, ↓k_tru_q, ↓e_dTru, ↓truD_l, ↓truD_t, ↓truD_b, ↓truD_n, ↓k_rev_q, ↓e_sRev, ↓k_clr_q, ↓e_sClr, ↓k_ins3_q, ↓k_ins2_q, ↓k_ins_q, ↓e_sIns, ↓k_move_q, ↓e_sMove, ↓k_lc2_q, ↓e_dLc2, ↓inTD_t, ↓notBD_bb, ↓dictK_d, fgs_n, fgs_c, fg_v, fg_t, fg_u, fg_o, ↓k_rtNl_q, ↓k_sSetO_q, ↓k_sRetO_q, ↓k_nl_q, ↓k_nls_q, ↓k_nlc_q, ↓k_back_q, ↓k_lend_q, ↓k_put2_q, ↓k_put1_q, ↓k_put_q, ↓e_fnO, ↓e_sSetO, ↓e_sRetO, ↓e_dBor, ↓e_dBorO, ↓e_dBorA, ↓e_dBorT, ↓frz_0u, ↓frz_0t, ↓e_sLend, ↓ownK_o, ↓e_sPutD, ↓e_dD0, ↓inKD_d, ↓notInKD_d, ↓k_for_q, ↓k_sAppend1_q, ↓k_sAppend_q, ↓k_sRetOwn_q, ↓k_sPar2_q, ↓k_sPar_q, ↓k_sPar33_q, ↓k_sPar3_q, ↓k_some_q, ↓k_asI_q, ↓k_asS_q, ↓k_rng1_q, ↓k_one_q, ↓k_rng22_q, ↓k_rng21_q, ↓k_rng2_q, ↓k_two_q, ↓k_non_q, ↓k_no_q, ↓k_sSet_q, ↓k_sAsg_q, ↓k_sAsg2_q, ↓k_sIf_q, ↓k_sDrop_q, ↓k_sOwn_q, ↓k_sFor_q, ↓k_gs_q, ↓k_dOp2_q, ↓k_dOp_q, ↓k_dCh4_q, ↓k_dCh3_q, ↓k_dCh2_q, ↓k_dCh1_q, ↓k_dUn_q, ↓k_dTest_q, ↓k_dAnd_q, ↓k_dOr_q, ↓k_dNot_q, ↓k_dAndV_q, ↓k_dOrV_q, ↓k_dIf_q, ↓k_dCons2_q, ↓k_dCons_q, ↓k_dTup_q, ↓k_dLst_q, ↓k_dCall_q, ↓k_dIsi_q, ↓k_dIsi2_q, ↓k_dSl3_q, ↓k_dSl2_q, ↓k_dSl_q, ↓k_dRev_q, ↓k_s3_q, ↓k_s3a_q, ↓k_s3b_q, ↓k_s3c_q, ↓e_dSl3, ↓sl3_r2, ↓sl3_rl, ↓k_dLc_q, ↓k_dB_q, ↓chB_b, ↓tsB_b, ↓dVar_s, ↓ownL_o, ↓ownD_o, ↓roL_l, ↓e_sAppend, ↓e_sRetOwn, ↓two_2, ↓three_3, ↓e_sPar, ↓e_sPar3, ↓asI_i, ↓e_dPart, ↓asS_l, ↓asS_t, ↓e_iSeq, ↓one_1, ↓e_iRng1D, ↓e_iRng2D, ↓wipeD_n, ↓wipeD_c, ↓frz_0, ↓frz_0v, ↓frz_s, ↓e_fnD, ↓e_sSeq, ↓e_sNext, ↓e_sBreak, ↓e_sCont, ↓e_sSet, ↓e_sAsg, ↓e_sAsg2, ↓e_sIf, ↓e_sRet, ↓e_sRetN, ↓e_sDrop, ↓e_sNever, ↓e_sOwn, ↓e_sFrz, ↓e_sFor, ↓e_gN, ↓e_gT_t, ↓e_gsNil_n, ↓e_gsCons_c, ↓e_dVar_0, ↓e_dVar_0t, ↓e_dC, ↓e_dOp, ↓e_dChain, ↓e_dUn, ↓e_dTest, ↓e_dAnd, ↓e_dOr, ↓e_dNot, ↓e_dAndV, ↓e_dOrV, ↓e_dIf, ↓e_dNil, ↓e_dCons, ↓e_dTup, ↓e_dLst, ↓e_dCall, ↓e_dB, ↓e_dIsi, ↓e_dIsi2, ↓e_dSl, ↓e_dRev, ↓e_dNo, ↓e_dYes, ↓e_dLc,
  ↓addD_ii, ↓addD_tt, ↓addD_ll, ↓subD_ii, ↓mulD_ii, ↓fdivD_ii, ↓modD_ii, ↓powD_10_9, ↓powD_10_6, ↓ltA_ii, ↓leA_ii, ↓gtA_ii, ↓geA_ii, ↓ltA_t2, ↓leA_t2, ↓gtA_t2, ↓geA_t2, ↓max2A_ii, ↓min2A_ii, ↓slh4, ↓slt4', ↓max2A_c, ↓min2A_c, ↓revD_l, ↓isNon_n, ↓isNon_t, ↓isNon_l, ↓notNon_n, ↓notNon_t, ↓isBD_bb, ↓negD_i, ↓notD_b, ↓absD_i, ↓intC_i, ↓intC_b, ↓lenD_l, ↓lenD_t, ↓listD_l, ↓listD_t, ↓tupleD_l, ↓tupleD_t, ↓allD_l, ↓anyD_l, ↓ixT0, ↓ixT1, ↓ixT2, ↓ixT3, ↓ixL0, ↓ixL1, ↓ixL2, ↓ixL3, ↓slD_l,
  eqD, neD,  sl0, sl1, sl2, sl3, sl4, sl5, sl6, sl7, sl8, sl9, sl10, sl11, sl12, slt0, slt1, slt2, slt3, slt4, slt5, slt6, slt7, slt8, slt9, slt10, slt11, slt12, lay_i, lay_b, lay_n, lay_t0, lay_l0, lay_t2, lay_t4, eqb_ii, eqb_bb, eqb_ss, eqb_nn, eqb_tt, eqb_ll, eqbs_nn, eqbs_cc, eqbs_nc, eqbs_cn, tag_n, tag_c, tagS_v, tagS_u, tagS_o, tagS_t, back_n, back_c, backS_vt, backS_tt, backS_ot, backS_ut, backS_u, backS_v, backS_l, backS_d, ownS_l, ownS_d, ownS_t, ownS_i, ownS_n, noLst_l, noLst_i, noLst_b, noLst_s, noLst_n, noLst_d, noLst_t, noLsts_n, noLsts_c, nlc_l, nlc_d, nlc_i, nlc_b, nlc_t, tyOk_n, tyOk_b, tyOk_i, tyOk_s, tyOk_t, tyOk_l, isi_n, isi_b, isi_i, isi_s, isi_t, isi_l,
  List.map_cons, List.map_nil, List.cons_append, List.nil_append, List.append_nil, List.append_assoc, List.length_cons, List.length_nil, List.getElem?_cons_zero, List.getElem?_cons_succ, List.set_cons_zero, List.set_cons_succ, List.replicate, Nat.reduceAdd, Nat.reduceSub, Nat.zero_add, Nat.reduceLeDiff, Nat.reduceEqDiff,
  if_true, if_false, true_and, and_true, and_self, Bool.not_true, Bool.not_false, Bool.false_eq_true, Bool.and_true, Bool.true_and, Bool.or_false, Bool.false_or, Bool.or_true, Bool.true_or, decide_eq_true_eq, decide_true, decide_false, beq_self_eq_true, beq_iff_eq, String.reduceEq, reduceIte, reduceCtorEq])
/-- a heap: names that are unlike, each with its stroke -/
structure HeapP (P : List (Str × D)) : Prop where
  nd : (P.map (·.1)).Nodup
  st : ∀ p ∈ P, StrokeOk p.2
  few : P.length ≤ 32
  ok : ∀ p ∈ P, PyData.strOk p.1 = true
def hpD (P : List (Str × D)) : List (D × D) := P.map fun p => (D.str p.1, p.2)
theorem eqb_str {x y : Str} : D.eqb (.str x) (.str y) = decide (x = y) := by simp [D.eqb]; rfl
theorem hp_get {P : List (Str × D)} (nd : (P.map (·.1)).Nodup) {n : Str} {s : D} (h : (n, s) ∈ P) : dgetD (hpD P) (.str n) = some s := by
  induction P with
  | nil => cases h
  | cons p P ih =>
    simp only [List.map_cons, List.nodup_cons] at nd
    rcases List.mem_cons.mp h with e | e
    · subst e
      exact dgetD_pos (by rw [eqb_str]; simp)
    · have ne : p.1 ≠ n := fun z => nd.1 (by rw [z]; exact List.mem_map.mpr ⟨_, e, rfl⟩)
      exact (dgetD_neg (by rw [eqb_str]; simpa using ne)).trans (ih nd.2 e)
/-! ### the order of keys is total; what is sorted is told -/
theorem cps_le {a b : List Nat} (h1 : ¬a < b) (h2 : ¬b < a) : a = b := List.le_antisymm (List.not_lt.mp h2) (List.not_lt.mp h1)
theorem str_cps {x y : Str} (h : x.cps.toList = y.cps.toList) : x = y := PySem.W.str_of_cps h
mutual
theorem ltN_tri : ∀ (x y : NestedKey), LOk x y → LOk y x → ltN x y = false → ltN y x = false → x = y
  | .num i, .num j, _, _, a, b => by
    rw [ltN_num] at a b
    have a := of_decide_eq_false a
    have b := of_decide_eq_false b
    rw [show i = j by omega]
  | .text x, .text y, _, _, a, b => by
    rw [ltN_text] at a b
    rw [str_cps (cps_le (of_decide_eq_false a) (of_decide_eq_false b))]
  | .tup xs, .tup ys, h, g, a, b => by
    rw [ltN_tup] at a b
    simp only [LOk] at h g
    rw [ltNs_tri xs ys h g a b]
  | .none, _, h, _, _, _ => by simp [LOk] at h
  | .num _, .none, h, _, _, _ => by simp [LOk] at h
  | .num _, .text _, h, _, _, _ => by simp [LOk] at h
  | .num _, .tup _, h, _, _, _ => by simp [LOk] at h
  | .text _, .none, h, _, _, _ => by simp [LOk] at h
  | .text _, .num _, h, _, _, _ => by simp [LOk] at h
  | .text _, .tup _, h, _, _, _ => by simp [LOk] at h
  | .tup _, .none, h, _, _, _ => by simp [LOk] at h
  | .tup _, .num _, h, _, _, _ => by simp [LOk] at h
  | .tup _, .text _, h, _, _, _ => by simp [LOk] at h
theorem ltNs_tri : ∀ (xs ys : List NestedKey), LOks xs ys → LOks ys xs → lexT (tksN xs) (tksN ys) = false → lexT (tksN ys) (tksN xs) = false → xs = ys
  | [], [], _, _, _, _ => rfl
  | [], _ :: _, _, _, a, _ => by rw [ltNs_nc] at a; cases a
  | _ :: _, [], _, _, _, b => by rw [ltNs_nc] at b; cases b
  | x :: xs, y :: ys, h, g, a, b => by
    simp only [LOks] at h g
    by_cases e : x = y
    · subst e
      rw [ltNs_eq] at a b
      rw [ltNs_tri xs ys (h.1 rfl) (g.1 rfl) a b]
    · rw [ltNs_ne (h.2 e) e] at a
      rw [ltNs_ne (g.2 (Ne.symm e)) (Ne.symm e)] at b
      exact absurd (ltN_tri x y (h.2 e) (g.2 (Ne.symm e)) a b) e
end
theorem sorted_uq {le : D → D → Prop} : ∀ {ys zs : List D}, ys.Perm zs → (∀ a ∈ ys, ∀ b ∈ ys, le a b → le b a → a = b) → ys.Pairwise le → zs.Pairwise le → ys = zs
  | [], zs, p, _, _, _ => (List.Perm.nil_eq p)
  | y :: ys, [], p, _, _, _ => absurd p.length_eq (by simp)
  | y :: ys, z :: zs, p, tri, h1, h2 => by
    have hy : y ∈ z :: zs := p.mem_iff.mp List.mem_cons_self
    have hz : z ∈ y :: ys := p.mem_iff.mpr List.mem_cons_self
    rw [List.pairwise_cons] at h1 h2
    have e : y = z := by
      rcases List.mem_cons.mp hy with e | e
      · exact e
      · rcases List.mem_cons.mp hz with e' | e'
        · exact e'.symm
        · exact tri y List.mem_cons_self z hz (h1.1 z e') (h2.1 y e)
    subst e
    rw [sorted_uq p.cons_inv (fun a ha b hb => tri a (List.mem_cons_of_mem _ ha) b (List.mem_cons_of_mem _ hb)) h1.2 h2.2]
/-- two results of sorting the same things -/
theorem sortTo_uniq {xs xs' ys zs : List D} (S : SrtD xs) (inj : ∀ a ∈ xs, ∀ b ∈ xs, a.nt = b.nt → a = b) (hp : xs.Perm xs') (h1 : SortTo xs ys) (h2 : SortTo xs' zs) : ys = zs := by
  refine sorted_uq (le := fun a b => ltN b.nt a.nt = false) (h1.1.trans (hp.trans h2.1.symm)) (fun a ha b hb l1 l2 => ?_) h1.2 h2.2
  have ha' := h1.1.mem_iff.mp ha
  have hb' := h1.1.mem_iff.mp hb
  exact inj a ha' b hb' (ltN_tri _ _ (S.ok.ok _ (List.mem_map.mpr ⟨a, ha', rfl⟩) _ (List.mem_map.mpr ⟨b, hb', rfl⟩)) (S.ok.ok _ (List.mem_map.mpr ⟨b, hb', rfl⟩) _ (List.mem_map.mpr ⟨a, ha', rfl⟩)) l2 l1)
/-! ### causes -/
inductive Cs where
  | en (n : Str) (b : Int)
  | cr (n m : Str)
abbrev Row := Sp2 × Cs
def csD : Cs → D
  | .en n b => .tup [.str "end", .str n, .int b]
  | .cr n m => .tup [.str "cross", .str n, .str m]
def rowD (r : Row) : D := .tup [tp r.1, csD r.2]
theorem csD_inj {a b : Cs} (h : csD a = csD b) : a = b := by
  cases a <;> cases b <;> simp only [csD, D.tup.injEq, List.cons.injEq, D.str.injEq, D.int.injEq, and_true] at h
  · rw [h.2.1, h.2.2]
  · exact absurd h.1 (by decide)
  · exact absurd h.1 (by decide)
  · rw [h.2.1, h.2.2]
theorem tp_inj {a b : Sp2} (h : tp a = tp b) : a = b := by
  obtain ⟨a1, a2⟩ := a
  obtain ⟨b1, b2⟩ := b
  simp only [tp, D.tup.injEq, List.cons.injEq, D.int.injEq, and_true] at h
  rw [h.1, h.2]
theorem rowD_inj {a b : Row} (h : rowD a = rowD b) : a = b := by
  simp only [rowD, D.tup.injEq, List.cons.injEq, and_true] at h
  exact Prod.ext (tp_inj h.1) (csD_inj h.2)
theorem csD_nt {a b : Cs} (h : (csD a).nt = (csD b).nt) : a = b := by
  cases a <;> cases b <;> simp only [csD, D.nt, D.nts, NestedKey.tup.injEq, List.cons.injEq, NestedKey.text.injEq, NestedKey.num.injEq, and_true] at h
  · rw [h.2.1, h.2.2]
  · exact absurd h.1 (by decide)
  · exact absurd h.1 (by decide)
  · rw [h.2.1, h.2.2]
theorem rowD_nt {a b : Row} (h : (rowD a).nt = (rowD b).nt) : a = b := by
  obtain ⟨⟨a1, a2⟩, a3⟩ := a
  obtain ⟨⟨b1, b2⟩, b3⟩ := b
  simp only [rowD, tp, D.nt, D.nts, NestedKey.tup.injEq, List.cons.injEq, NestedKey.num.injEq, and_true] at h
  rw [h.1.1, h.1.2, csD_nt h.2]
theorem lok_cs (a b : Cs) : LOk (csD a).nt (csD b).nt := by
  have ne : ((("end" : Str)) : Str) ≠ "cross" := by decide
  cases a <;> cases b <;> simp only [csD, D.nt, D.nts, LOk, LOks]
  · exact ⟨fun _ => ⟨fun _ => ⟨fun _ => True.intro, fun _ => True.intro⟩, fun _ => True.intro⟩, fun _ => True.intro⟩
  · exact ⟨fun z => absurd (NestedKey.text.inj z) ne, fun _ => True.intro⟩
  · exact ⟨fun z => absurd (NestedKey.text.inj z).symm ne, fun _ => True.intro⟩
  · exact ⟨fun _ => ⟨fun _ => ⟨fun _ => True.intro, fun _ => True.intro⟩, fun _ => True.intro⟩, fun _ => True.intro⟩
theorem srt_rows {L : List Row} : SrtD (L.map rowD) := by
  refine ⟨⟨⟨4, fun k hk => ?_⟩, fun k hk j hj => ?_, fun k hk => ?_⟩, fun d hd => ?_⟩
  · obtain ⟨d, hd, rfl⟩ := List.mem_map.mp hk
    obtain ⟨x, _, rfl⟩ := List.mem_map.mp hd
    simp [rowD, tp, D.nt, D.nts, kindN]
  · obtain ⟨d, hd, rfl⟩ := List.mem_map.mp hk
    obtain ⟨x, _, rfl⟩ := List.mem_map.mp hd
    obtain ⟨e, he, rfl⟩ := List.mem_map.mp hj
    obtain ⟨y, _, rfl⟩ := List.mem_map.mp he
    have l1 := lok_pair (a := x.1.1) (b := x.1.2) (c := y.1.1) (d := y.1.2)
    have l2 := lok_cs x.2 y.2
    show LOks [(tp x.1).nt, (csD x.2).nt] [(tp y.1).nt, (csD y.2).nt]
    simp only [LOks]
    exact ⟨fun _ => ⟨fun _ => True.intro, fun _ => l2⟩, fun _ => l1⟩
  · obtain ⟨d, hd, rfl⟩ := List.mem_map.mp hk
    obtain ⟨⟨⟨x1, x2⟩, c⟩, _, rfl⟩ := List.mem_map.mp hd
    cases c <;> simp [rowD, tp, csD, D.nt, D.nts, NestedKey.depth, NestedKey.depthAll]
  · obtain ⟨⟨⟨x1, x2⟩, c⟩, _, rfl⟩ := List.mem_map.mp hd
    cases c <;> rfl
/-! ### a heap's names rising, its causes -/
theorem rows_nt {L : List Row} : ∀ a ∈ L.map rowD, ∀ b ∈ L.map rowD, a.nt = b.nt → a = b := fun a ha b hb h => by
  obtain ⟨x, _, rfl⟩ := List.mem_map.mp ha
  obtain ⟨y, _, rfl⟩ := List.mem_map.mp hb
  rw [rowD_nt h]
/-- the heap P, its strokes by rising names -/
structure Ris (P S : List (Str × D)) : Prop where
  perm : S.Perm P
  up : S.Pairwise fun p q => ltN (.text p.1) (.text q.1) = true
theorem ris_of {P : List (Str × D)} (hP : HeapP P) {ys : List D} (h : SortTo ((hpD P).map (·.1)) ys) : ∃ S, Ris P S ∧ ys = S.map fun p => D.str p.1 := by
  have hp := h.1
  have key : ∀ ys : List D, ys.Perm ((hpD P).map (·.1)) → ∃ S : List (Str × D), S.Perm P ∧ ys = S.map fun p => D.str p.1 := fun ys hy => by
    have e : (hpD P).map (·.1) = P.map fun p => D.str p.1 := by unfold hpD; rw [List.map_map]; rfl
    rw [e] at hy
    clear e h hp hP
    induction ys generalizing P with
    | nil =>
      have := hy.length_eq
      have : P = [] := List.eq_nil_of_length_eq_zero (by simpa using this.symm)
      subst this
      exact ⟨[], .nil, rfl⟩
    | cons y ys ih =>
      obtain ⟨p, hpm, e⟩ := List.mem_map.mp (hy.mem_iff.mp (List.mem_cons_self))
      obtain ⟨l1, l2, rfl⟩ := List.append_of_mem hpm
      have h2 : (y :: ys).Perm (y :: ((l1 ++ l2).map fun p => D.str p.1)) := by
        refine hy.trans ?_
        rw [← e, List.map_append, List.map_cons, List.map_append]
        exact List.perm_middle
      obtain ⟨S, h3, h4⟩ := ih h2.cons_inv
      refine ⟨p :: S, (List.Perm.cons p h3).trans List.perm_middle.symm, ?_⟩
      rw [List.map_cons, ← h4, e]
  obtain ⟨S, h1, rfl⟩ := key ys hp
  refine ⟨S, ⟨h1, ?_⟩, rfl⟩
  have hs := List.pairwise_map.mp h.2
  have nd : (S.map (·.1)).Nodup := (h1.map _).nodup_iff.mpr hP.nd
  have nd' : S.Pairwise fun p q => p.1 ≠ q.1 := List.pairwise_map.mp nd
  refine (hs.and nd').imp fun {p q} z => ?_
  have z1 : ltN (.text q.1) (.text p.1) = false := z.1
  cases e : ltN (.text p.1) (.text q.1) with
  | true => rfl
  | false => exact absurd (NestedKey.text.inj (ltN_tri _ _ True.intro True.intro e z1)) z.2
theorem Ris.nd {P S : List (Str × D)} (hP : HeapP P) (h : Ris P S) : (S.map (·.1)).Nodup := (h.perm.map _).nodup_iff.mpr hP.nd
theorem Ris.uniq {P S S' : List (Str × D)} (hP : HeapP P) (h : Ris P S) (h' : Ris P S') : S = S' := by
  have key : ∀ {ys zs : List (Str × D)}, ys.Perm zs → ys.Pairwise (fun p q => ltN (.text p.1) (.text q.1) = true) → zs.Pairwise (fun p q => ltN (.text p.1) (.text q.1) = true) → ys = zs := by
    intro ys
    induction ys with
    | nil => intro zs p _ _; exact List.Perm.nil_eq p
    | cons y ys ih =>
      intro zs p h1 h2
      cases zs with
      | nil => exact absurd p.length_eq (by simp)
      | cons z zs =>
        have hy : y ∈ z :: zs := p.mem_iff.mp List.mem_cons_self
        have hz : z ∈ y :: ys := p.mem_iff.mpr List.mem_cons_self
        rw [List.pairwise_cons] at h1 h2
        have e : y = z := by
          rcases List.mem_cons.mp hy with e | e
          · exact e
          · rcases List.mem_cons.mp hz with e' | e'
            · exact e'.symm
            · have a := h1.1 z e'
              have b := h2.1 y e
              rw [ltN_text] at a b
              exact absurd (of_decide_eq_true b) (List.lt_asymm (of_decide_eq_true a))
        subst e
        rw [ih p.cons_inv h1.2 h2.2]
  exact key (h.perm.trans h'.perm.symm) h.up h'.up
/-- where two strokes meet in one place: its square -/
def placeSp : D → Option Sp2
  | .tup [.str k, .tup [.tup [.int x, .int v], .tup [.int y, .int w]]] => if k = "at" then some (nearI x v, nearI y w) else none
  | _ => none
def meetSp : D → D → Option Sp2
  | .tup [.int a, .int b, .int c, .int d], .tup [.int e, .int f, .int g, .int h] => placeSp (meetD a b c d e f g h)
  | _, _ => none
def oneSp : D → Sp2
  | .tup [.int a, .int b, _, _] => (a, b)
  | _ => (0, 0)
def twoSp : D → Sp2
  | .tup [_, _, .int c, .int d] => (c, d)
  | _ => (0, 0)
def ends (p : Str × D) : List Row := [(oneSp p.2, .en p.1 0), (twoSp p.2, .en p.1 1)]
def crosses (p : Str × D) (r : List (Str × D)) : List Row := r.filterMap fun q => (meetSp p.2 q.2).map fun s => (s, .cr p.1 q.1)
def crossed (r : List (Str × D)) (p : Str × D) : List Row := r.filterMap fun q => (meetSp q.2 p.2).map fun s => (s, .cr q.1 p.1)
def rowsP : List (Str × D) → List Row
  | [] => []
  | p :: r => ends p ++ crosses p r ++ rowsP r
def rowsL (pre : List (Str × D)) : List (Str × D) → List Row
  | [] => []
  | p :: r => ends p ++ crossed pre p ++ rowsL (pre ++ [p]) r
theorem flat_two {α β : Type} (f g : α → List β) : ∀ r : List α, (r.flatMap fun x => f x ++ g x).Perm (r.flatMap f ++ r.flatMap g)
  | [] => .nil
  | x :: r => by
    simp only [List.flatMap_cons]
    have ih := flat_two f g r
    refine ((List.Perm.refl (f x ++ g x)).append ih).trans ?_
    rw [List.append_assoc, List.append_assoc]
    refine (List.Perm.refl (f x)).append ?_
    rw [← List.append_assoc, ← List.append_assoc]
    exact List.perm_append_comm.append (List.Perm.refl _)
theorem rowsL_perm : ∀ (S pre : List (Str × D)), (rowsL pre S).Perm (rowsP S ++ S.flatMap (crossed pre))
  | [], _ => .nil
  | p :: r, pre => by
    have ih := rowsL_perm r (pre ++ [p])
    have e : ∀ y : Str × D, crossed (pre ++ [p]) y = crossed pre y ++ crossed [p] y := fun y => by unfold crossed; rw [List.filterMap_append]
    have e2 : (r.flatMap fun y => crossed (pre ++ [p]) y) = r.flatMap fun y => crossed pre y ++ crossed [p] y := by
      congr 1
      funext y
      exact e y
    have e3 : ∀ r : List (Str × D), r.flatMap (crossed [p]) = crosses p r := by
      intro r
      induction r with
      | nil => rfl
      | cons y r ih =>
        rw [List.flatMap_cons, ih]
        simp only [crosses, crossed, List.filterMap_cons, List.filterMap_nil]
        cases meetSp p.2 y.2 <;> rfl
    have h1 : (r.flatMap (crossed (pre ++ [p]))).Perm (r.flatMap (crossed pre) ++ crosses p r) := by
      have := flat_two (crossed pre) (crossed [p]) r
      rw [← e2, e3 r] at this
      exact this
    show (ends p ++ crossed pre p ++ rowsL (pre ++ [p]) r).Perm (ends p ++ crosses p r ++ rowsP r ++ (crossed pre p ++ r.flatMap (crossed pre)))
    refine ((List.Perm.refl (ends p ++ crossed pre p)).append (ih.trans ((List.Perm.refl _).append h1))).trans ?_
    simp only [List.append_assoc]
    refine (List.Perm.refl (ends p)).append ?_
    generalize crossed pre p = A
    generalize rowsP r = B
    generalize r.flatMap (crossed pre) = C
    generalize crosses p r = Z
    -- A ++ (B ++ (C ++ Z)) ~ Z ++ (B ++ (A ++ C))
    have k1 : (A ++ (B ++ (C ++ Z))).Perm (Z ++ (A ++ (B ++ C))) := by
      have : (A ++ (B ++ C) ++ Z).Perm (Z ++ (A ++ (B ++ C))) := List.perm_append_comm
      simpa only [List.append_assoc] using this
    refine k1.trans ((List.Perm.refl Z).append ?_)
    have k2 : (A ++ B ++ C).Perm (B ++ A ++ C) := List.perm_append_comm.append (List.Perm.refl C)
    simpa only [List.append_assoc] using k2
theorem rowsL_P (S : List (Str × D)) : (rowsL [] S).Perm (rowsP S) := by
  have h := rowsL_perm S []
  have e : S.flatMap (crossed []) = [] := by
    induction S with
    | nil => rfl
    | cons p r ih =>
      rw [List.flatMap_cons, ih (rowsL_perm r [])]
      rfl
  rw [e, List.append_nil] at h
  exact h
/-! ### the two defs -/
theorem forD_cons {g : DG} {b : DS} {N : DN} {d : D} {ds : List D} {ρ : List Slot} : forD g b N (d :: ds) ρ = g d ρ (fun ρ' => b { N with nx := forD g b N ds, ct := forD g b N ds, bk := N.nx } ρ') := rfl
theorem hp_flt {P : List (Str × D)} : ∀ q ∈ hpD P, q.1.flt = true := fun q hq => by
  obtain ⟨p, _, rfl⟩ := List.mem_map.mp hq
  rfl
theorem hp_ix {P : List (Str × D)} (hP : HeapP P) {n : Str} {s : D} {Q : D → Prop} (h : (n, s) ∈ P) (q : Q s) : ixKD (.dic (hpD P)) (.str n) Q := by
  refine ⟨.inl ⟨rfl, hp_flt⟩, ?_⟩
  rw [hp_get hP.nd h]
  exact q
theorem keys_srt {P : List (Str × D)} : SrtD ((hpD P).map (·.1)) := by
  have e : (hpD P).map (·.1) = (P.map (·.1)).map D.str := by unfold hpD; rw [List.map_map, List.map_map]; rfl
  rw [e]
  exact srt_strs
theorem rows_len {p : Str × D} {r : List (Str × D)} : (crosses p r).length ≤ r.length := List.length_filterMap_le _ _
theorem cut_head {ds : List D} {k : Nat} (h : k ≤ ds.length) : cutD ds none (some (k : Int)) = ds.take k := by
  unfold cutD
  rw [HT.sIx_nat, HT.sIx_none, Nat.min_eq_left h, Nat.sub_zero, List.drop_zero]
theorem rowsP_len2 : ∀ {r : List (Str × D)}, 2 * (rowsP r).length ≤ r.length * (r.length + 3)
  | [] => by simp [rowsP]
  | p :: r => by
    have ih := rowsP_len2 (r := r)
    have h2 := rows_len (p := p) (r := r)
    have e : (r.length + 1) * (r.length + 1 + 3) = r.length * (r.length + 3) + 2 * r.length + 4 := by
      simp only [Nat.add_mul, Nat.mul_add]
      omega
    simp only [rowsP, List.length_append, List.length_cons, ends, List.length_nil]
    rw [e]
    omega
/-! ### the law's causes -/
def rngI {α : Type} : Nat → List α → List D
  | _, [] => []
  | k, _ :: r => .int (k : Int) :: rngI (k + 1) r
theorem rngI_eq {α : Type} : ∀ (r : List α) (k : Nat), rngI k r = rngD (k : Int) r.length
  | [], _ => rfl
  | _ :: r, k => by
    rw [rngI, rngI_eq r (k + 1), List.length_cons]
    unfold rngD
    rw [List.range_succ_eq_map, List.map_cons, List.map_map]
    simp only [List.cons.injEq]
    refine ⟨by simp, ?_⟩
    refine List.map_congr_left fun i _ => ?_
    simp only [Function.comp_apply, D.int.injEq]
    omega
theorem ix_mid {α : Type} {pre r : List α} {x : α} {f : α → D} {Q : D → Prop} (h : Q (f x)) : ixD (.lst ((pre ++ x :: r).map f)) (.int (pre.length : Int)) Q := by
  refine ix_nat (by rw [List.length_map, List.length_append, List.length_cons]; omega) ?_
  simpa using h
def bodyY : DS := (sSeq (sSet 6 (dCall c_law_meet [] (dCons (dOp ixKD (dVar 0) (dVar 5)) (dCons (dVar 4) dNil)))) (sIf (dAnd (dTest (dOp notNonD (dVar 6) (dC .non))) (dTest (dOp eqD (dOp ixD (dVar 6) (dC (.int 0))) (dC (.str "at"))))) (sSeq (sAsg (dOp ixD (dVar 6) (dC (.int 1))) (gT 2 (gsCons (gN 7) (gsCons (gN 8) gsNil)))) (sAppend 2 (dTup (dCons (dTup (dCons (dCall c_nearest [] (dCons (dVar 7) dNil)) (dCons (dCall c_nearest [] (dCons (dVar 8) dNil)) dNil))) (dCons (dTup (dCons (dC (.str "cross")) (dCons (dVar 5) (dCons (dOp ixD (dVar 1) (dVar 3)) dNil)))) dNil))))) sNext))
def bodyL : DS := (sSeq (sSet 4 (dOp ixKD (dVar 0) (dOp ixD (dVar 1) (dVar 3)))) (sSeq (sAppend 2 (dTup (dCons (dSl (dVar 4) dNo (dPart (dC (.int 2)))) (dCons (dTup (dCons (dC (.str "end")) (dCons (dOp ixD (dVar 1) (dVar 3)) (dCons (dC (.int 0)) dNil)))) dNil)))) (sSeq (sAppend 2 (dTup (dCons (dSl (dVar 4) (dPart (dC (.int 2))) dNo) (dCons (dTup (dCons (dC (.str "end")) (dCons (dOp ixD (dVar 1) (dVar 3)) (dCons (dC (.int 1)) dNil)))) dNil)))) (sFor (iSeq (dSl (dVar 1) dNo (dPart (dVar 3)))) (gN 5) bodyY))))
theorem crossed_len {p : Str × D} {r : List (Str × D)} : (crossed r p).length ≤ r.length := List.length_filterMap_le _ _
theorem crossed_loop {P : List (Str × D)} (hP : HeapP P) {N : DN} {pre0 r0 : List (Str × D)} {p : Str × D} (hs : StrokeOk p.2) : ∀ (r : List (Str × D)) (acc : List D) (s5 s6 s7 s8 : Slot), (∀ p ∈ r, p ∈ P) → acc.length + r.length ≤ 100000 →
    (∀ s5 s6 s7 s8, N.nx [.v (.dic (hpD P)), .v (.lst ((pre0 ++ p :: r0).map fun p => D.str p.1)), .own (.lst (acc ++ (crossed r p).map rowD)), .v (.int (pre0.length : Int)), .v p.2, s5, s6, s7, s8]) →
    forD (gN 5) bodyY N (r.map fun p => D.str p.1) [.v (.dic (hpD P)), .v (.lst ((pre0 ++ p :: r0).map fun p => D.str p.1)), .own (.lst acc), .v (.int (pre0.length : Int)), .v p.2, s5, s6, s7, s8]
  | [], acc, s5, s6, s7, s8, _, _, h => by
    have := h s5 s6 s7 s8
    simp only [crossed, List.filterMap_nil, List.map_nil, List.append_nil] at this
    exact this
  | q :: r, acc, s5, s6, s7, s8, hm, hl, h => by
    have ih := fun acc s5 s6 s7 s8 => crossed_loop hP (N := N) (pre0 := pre0) (r0 := r0) (p := p) hs r acc s5 s6 s7 s8 (fun q hq => hm q (List.mem_cons_of_mem _ hq))
    obtain ⟨e, f, g, k, ep, e0, e1, f0, f1, g0, g1, k0, k1, n2⟩ := hs
    obtain ⟨a, b, c, d, eq, a0, a1, b0, b1, c0, c1, d0, d1, n1⟩ := hP.st q (hm q List.mem_cons_self)
    have m1 := in100 a0 a1
    have m2 := in100 b0 b1
    have m3 := in100 c0 c1
    have m4 := in100 d0 d1
    have m5 := in100 e0 e1
    have m6 := in100 f0 f1
    have m7 := in100 g0 g1
    have m8 := in100 k0 k1
    have mc := meet_c m1 m2 m3 m4 m5 m6 m7 m8 n1 n2
    have em : meetSp q.2 p.2 = placeSp (meetD a b c d e f g k) := by rw [eq, ep]; rfl
    have hc : crossed (q :: r) p = ((placeSp (meetD a b c d e f g k)).map fun s => (s, Cs.cr q.1 p.1)).toList ++ crossed r p := by
      unfold crossed
      rw [List.filterMap_cons]
      simp only [em]
      cases placeSp (meetD a b c d e f g k) <;> rfl
    rw [hc] at h
    rw [List.map_cons, forD_cons]
    unfold bodyY
    rw [ep] at ih h ⊢
    walk_at "dv"
    refine hp_ix hP (s := q.2) (hm q List.mem_cons_self) ?_
    rw [eq]
    walk_at "dv"
    refine law_meet_ok m1 m2 m3 m4 m5 m6 m7 m8 ?_
    generalize meetD a b c d e f g k = R at *
    have hl' : acc.length + (r.length + 1) ≤ 100000 := hl
    cases mc with
    | non =>
      walk_at "dv"
      refine ih _ _ _ _ _ (by omega) fun s5 s6 s7 s8 => ?_
      have := h s5 s6 s7 s8
      simpa [placeSp] using this
    | at_ x v y w v0 w0 v1 w1 _ _ _ _ =>
      walk_at "dv"
      refine ⟨lay_of (n := 0) (by decide) (show PyData.strOk _ = true by decide +kernel), lay_of (n := 0) (by decide) (show PyData.strOk _ = true by decide +kernel), ?_⟩
      refine nearest_of v0 (by omega) ?_
      walk_at "dv"
      refine nearest_of w0 (by omega) ?_
      walk_at "dv"
      refine ix_mid ?_
      walk_at "dv"
      refine ⟨Nat.lt_of_le_of_lt (show acc.length ≤ 100000 by omega) (by decide), ih _ _ _ _ _ (by rw [List.length_append, List.length_singleton]; omega) fun s5 s6 s7 s8 => ?_⟩
      have := h s5 s6 s7 s8
      rw [show placeSp (.tup [.str (Str.ofString "at"), .tup [.tup [.int x, .int v], .tup [.int y, .int w]]]) = some (nearI x v, nearI y w) by simp [placeSp]] at this
      rw [List.append_assoc]
      exact this
    | along p1 q1 r1 s1' _ _ _ _ _ =>
      walk_at "dv"
      refine ⟨lay_of (n := 0) (by decide) (show PyData.strOk _ = true by decide +kernel), lay_of (n := 0) (by decide) (show PyData.strOk _ = true by decide +kernel), ?_⟩
      rw [if_neg (by decide)]
      walk_at "dv"
      refine ih _ _ _ _ _ (by omega) fun s5 s6 s7 s8 => ?_
      have := h s5 s6 s7 s8
      simpa [placeSp, show (Str.ofString "along" = Str.ofString "at") = False from eq_false (by decide)] using this
theorem rowsL_len : ∀ {r pre : List (Str × D)}, pre.length + r.length ≤ 32 → (rowsL pre r).length ≤ 34 * r.length
  | [], _, _ => by simp [rowsL]
  | p :: r, pre, hl => by
    rw [List.length_cons] at hl
    have ih := rowsL_len (r := r) (pre := pre ++ [p]) (by rw [List.length_append, List.length_singleton]; omega)
    have h2 := crossed_len (p := p) (r := pre)
    simp only [rowsL, List.length_append, List.length_cons, ends, List.length_nil]
    omega
theorem law_causes_loop {P : List (Str × D)} (hP : HeapP P) {N : DN} : ∀ (r pre : List (Str × D)) (acc : List D) (s3 s4 s5 s6 s7 s8 : Slot), (∀ p ∈ r, p ∈ P) → (∀ p ∈ pre, p ∈ P) → pre.length + r.length ≤ 32 → acc.length + (rowsL pre r).length ≤ 2000 →
    (∀ s3 s4 s5 s6 s7 s8, N.nx [.v (.dic (hpD P)), .v (.lst ((pre ++ r).map fun p => D.str p.1)), .own (.lst (acc ++ (rowsL pre r).map rowD)), s3, s4, s5, s6, s7, s8]) →
    forD (gN 3) bodyL N (rngI pre.length r) [.v (.dic (hpD P)), .v (.lst ((pre ++ r).map fun p => D.str p.1)), .own (.lst acc), s3, s4, s5, s6, s7, s8]
  | [], pre, acc, s3, s4, s5, s6, s7, s8, _, _, _, _, h => by
    have := h s3 s4 s5 s6 s7 s8
    simp only [rowsL, List.map_nil, List.append_nil] at this ⊢
    exact this
  | p :: r, pre, acc, s3, s4, s5, s6, s7, s8, hm, hpre, hl, hl2, h => by
    have hs := hP.st p (hm p List.mem_cons_self)
    have hs' := hs
    obtain ⟨a, b, c, d, ek, a0, a1, b0, b1, c0, c1, d0, d1, n1⟩ := hs
    rw [rngI, forD_cons]
    unfold bodyL
    walk_at "dv"
    refine ix_mid ?_
    walk_at "dv"
    refine hp_ix hP (s := p.2) (hm p List.mem_cons_self) ?_
    rw [ek]
    walk_at "dv"
    have hlen : (rowsL pre (p :: r)).length = 2 + (crossed pre p).length + (rowsL (pre ++ [p]) r).length := by
      simp only [rowsL, ends, List.length_append, List.length_cons, List.length_nil]
    have lc := crossed_len (p := p) (r := pre)
    have sz : ∀ n : Nat, n ≤ 2000 → n < sizeLine := fun n h => by rw [sizeLine_eq]; omega
    refine ix_mid ?_
    walk_at "dv"
    refine ⟨sz _ (by omega), ?_⟩
    refine ix_mid ?_
    walk_at "dv"
    refine ⟨sz _ (by rw [List.length_append, List.length_singleton]; omega), ?_⟩
    have ct : cutD ((pre ++ p :: r).map fun p => D.str p.1) none (some (pre.length : Int)) = pre.map fun p => D.str p.1 := by
      rw [cut_head (by rw [List.length_map, List.length_append]; omega), List.map_append, List.take_left' (by rw [List.length_map])]
    rw [ct]
    rw [List.length_cons] at hl
    rw [← ek]
    refine crossed_loop (p := p) (pre0 := pre) (r0 := r) hP hs' pre _ _ _ _ _ hpre (by rw [List.length_append]; simp only [List.length_cons, List.length_nil]; omega) fun s5 s6 s7 s8 => ?_
    have ih := law_causes_loop hP (N := N) r (pre ++ [p]) (acc ++ [D.tup [.tup [.int a, .int b], .tup [.str "end", .str p.1, .int 0]], .tup [.tup [.int c, .int d], .tup [.str "end", .str p.1, .int 1]]] ++ (crossed pre p).map rowD) (.v (.int pre.length)) (.v p.2) s5 s6 s7 s8
      (fun q hq => hm q (List.mem_cons_of_mem _ hq)) (fun q hq => by
        rcases List.mem_append.mp hq with z | z
        · exact hpre q z
        · rw [List.mem_singleton] at z
          subst z
          exact hm q List.mem_cons_self) (by rw [List.length_append, List.length_singleton]; omega) (by simp only [List.length_append, List.length_map, List.length_cons, List.length_nil]; omega) fun s3 s4 s5 s6 s7 s8 => ?_
    · have e1 : (pre ++ [p]) ++ r = pre ++ p :: r := by simp
      rw [e1, List.length_append, List.length_singleton] at ih
      exact ih
    · have := h s3 s4 s5 s6 s7 s8
      have e1 : (pre ++ [p]) ++ r = pre ++ p :: r := by simp
      have e2 : (rowsL pre (p :: r)).map rowD = [D.tup [.tup [.int a, .int b], .tup [.str "end", .str p.1, .int 0]], .tup [.tup [.int c, .int d], .tup [.str "end", .str p.1, .int 1]]] ++ (crossed pre p).map rowD ++ (rowsL (pre ++ [p]) r).map rowD := by
        simp only [rowsL, ends, ek, oneSp, twoSp, List.map_append, List.map_cons, List.map_nil, rowD, tp, csD]
      rw [e1]
      rw [e2] at this
      simpa only [List.append_assoc] using this
theorem law_causes_ok {P : List (Str × D)} {Q : D → Prop} (hP : HeapP P) (h : ∀ S ys, Ris P S → SortTo ((rowsL [] S).map rowD) ys → Q (.lst ys)) : c_law_causes [.dic (hpD P)] Q := by
  unfold c_law_causes
  walk_at "dv"
  rw [sortedC_d]
  refine ⟨keys_srt, fun ys hys => ?_⟩
  obtain ⟨S, hS, rfl⟩ := ris_of hP hys
  walk_at "dv"
  have hl : S.length ≤ 32 := by rw [hS.perm.length_eq]; exact hP.few
  have hl' : (S.map fun p => D.str p.1).length ≤ 32 := by rw [List.length_map]; exact hl
  refine ⟨⟨by omega, by omega⟩, ?_⟩
  rw [show rngD 0 (((S.map fun p => D.str p.1).length : Nat) : Int).toNat = rngI 0 S by rw [rngI_eq, List.length_map]; rfl]
  refine law_causes_loop hP S [] [] _ _ _ _ _ _ (fun p hp => hS.perm.mem_iff.mp hp) (fun _ z => nomatch z) (by simpa using hl) (by have := rowsL_len (r := S) (pre := []) (by simpa using hl); simp only [List.length_nil]; omega) fun s3 s4 s5 s6 s7 s8 => ?_
  walk_at "dv"
  rw [sortedC_l]
  exact ⟨srt_rows, fun ys hy => h S ys hS hy⟩
/-! ### the one row of causes -/
structure Cau (P : List (Str × D)) (R : List Row) : Prop where
  of : ∃ S, Ris P S ∧ R.Perm (rowsP S)
  up : (R.map rowD).Pairwise fun a b => ltN b.nt a.nt = false
theorem cau_of {P S : List (Str × D)} {L : List Row} {ys : List D} (hS : Ris P S) (hp : L.Perm (rowsP S)) (h : SortTo (L.map rowD) ys) : ∃ R, Cau P R ∧ ys = R.map rowD := by
  obtain ⟨R, p, rfl⟩ := perm_lift rowD h.1 L rfl
  exact ⟨R, ⟨⟨S, hS, p.trans hp⟩, h.2⟩, rfl⟩
theorem Cau.uniq {P : List (Str × D)} {R R' : List Row} (hP : HeapP P) (h : Cau P R) (h' : Cau P R') : R = R' := by
  obtain ⟨S, hS, p⟩ := h.of
  obtain ⟨S', hS', p'⟩ := h'.of
  have e := hS.uniq hP hS'
  subst e
  have := sortTo_uniq srt_rows rows_nt (List.Perm.refl ((rowsP S).map rowD)) ⟨p.map _, h.up⟩ ⟨p'.map _, h'.up⟩
  exact (List.map_inj_right fun a b z => rowD_inj z).mp this
theorem law_causes_at {P : List (Str × D)} {Q : D → Prop} (hP : HeapP P) (h : ∀ R, Cau P R → Q (.lst (R.map rowD))) : c_law_causes [.dic (hpD P)] Q := by
  refine law_causes_ok hP fun S ys hS hy => ?_
  obtain ⟨R, hR, rfl⟩ := cau_of hS (rowsL_P S) hy
  exact h R hR
theorem Cau.len {P : List (Str × D)} {R : List Row} (hP : HeapP P) (h : Cau P R) : R.length ≤ 560 := by
  obtain ⟨S, hS, p⟩ := h.of
  have hl : S.length ≤ 32 := by rw [hS.perm.length_eq]; exact hP.few
  have h2 := rowsP_len2 (r := S)
  have : S.length * (S.length + 3) ≤ 32 * 35 := Nat.mul_le_mul hl (by omega)
  rw [p.length_eq]
  omega
/-! ### the hot squares, by the law -/
def hotD (Z : List Sp2) : List (D × D) := Z.map fun s => (tp s, .bl true)
theorem hot_put {Z : List Sp2} {s : Sp2} : dputD (hotD Z) (tp s) (.bl true) = hotD (if s ∈ Z then Z else Z ++ [s]) := by
  have e : ((hotD Z).any fun z => D.eqb z.1 (tp s)) = decide (s ∈ Z) := by
    have := any_tp (s := s) Z
    rw [List.any_map] at this
    unfold hotD
    rw [List.any_map]
    exact this
  unfold dputD
  rw [e]
  by_cases h : s ∈ Z
  · rw [if_pos (by simpa using h), if_pos h]
    unfold hotD
    rw [List.map_map]
    refine List.map_congr_left fun x _ => ?_
    simp only [Function.comp_apply]
    split <;> rfl
  · rw [if_neg (by simpa using h), if_neg h]
    unfold hotD
    rw [List.map_append]
    rfl
theorem hot_kok {Z : List Sp2} : ∀ q ∈ hotD Z, q.1.kok = true := fun q hq => by
  obtain ⟨s, _, rfl⟩ := List.mem_map.mp hq
  exact kok_tp s
def hotZ : List Sp2 → List Row → List Sp2
  | Z, [] => Z
  | Z, r :: R => hotZ (if r.1 ∈ Z then Z else Z ++ [r.1]) R
theorem hotZ_nd : ∀ {R : List Row} {Z : List Sp2}, Z.Nodup → (hotZ Z R).Nodup
  | [], _, h => h
  | r :: R, Z, h => by
    refine hotZ_nd (R := R) ?_
    by_cases m : r.1 ∈ Z
    · rw [if_pos m]; exact h
    · rw [if_neg m, List.nodup_append]
      refine ⟨h, by simp, fun a ha b hb => ?_⟩
      rw [List.mem_singleton] at hb
      rintro rfl
      exact m (hb ▸ ha)
theorem hotZ_mem {s : Sp2} : ∀ {R : List Row} {Z : List Sp2}, s ∈ hotZ Z R ↔ s ∈ Z ∨ s ∈ R.map (·.1)
  | [], _ => by simp [hotZ]
  | r :: R, Z => by
    rw [hotZ, hotZ_mem, List.map_cons, List.mem_cons]
    by_cases m : r.1 ∈ Z
    · rw [if_pos m]
      constructor
      · rintro (h | h)
        · exact .inl h
        · exact .inr (.inr h)
      · rintro (h | rfl | h)
        · exact .inl h
        · exact .inl m
        · exact .inr h
    · rw [if_neg m, List.mem_append, List.mem_singleton]
      constructor
      · rintro ((h | h) | h)
        · exact .inl h
        · exact .inr (.inl h)
        · exact .inr (.inr h)
      · rintro (h | h | h)
        · exact .inl (.inl h)
        · exact .inl (.inr h)
        · exact .inr h
theorem hot_loop {N : DN} {s0 : Slot} : ∀ (R : List Row) (Z : List Sp2) (s2 s3 : Slot), Z.length + R.length ≤ 1000 → (∀ s2 s3, N.nx [s0, .own (.dic (hotD (hotZ Z R))), s2, s3]) →
    forD (gT 2 (gsCons (gN 2) (gsCons (gN 3) gsNil))) (sPutD 1 (dVar 2) (dC (.bl true))) N (R.map rowD) [s0, .own (.dic (hotD Z)), s2, s3]
  | [], _, s2, s3, _, h => h s2 s3
  | r :: R, Z, s2, s3, hl, h => by
    rw [List.length_cons] at hl
    rw [List.map_cons, forD_cons]
    show gT 2 (gsCons (gN 2) (gsCons (gN 3) gsNil)) (.tup [tp r.1, csD r.2]) _ _
    walk_at "dv"
    refine ⟨.inr ⟨kok_tp _, hot_kok⟩, by unfold hotD; rw [List.length_map, sizeLine_eq]; omega, ?_⟩
    rw [hot_put]
    refine hot_loop R _ _ _ ?_ h
    by_cases m : r.1 ∈ Z
    · rw [if_pos m]; omega
    · rw [if_neg m, List.length_append, List.length_singleton]; omega
/-- the hot squares, rising -/
structure Hot (R : List Row) (Z : List Sp2) : Prop where
  nd : Z.Nodup
  mem : ∀ s, s ∈ Z ↔ s ∈ R.map (·.1)
  up : (Z.map tp).Pairwise fun a b => ltN b.nt a.nt = false
theorem hot_of {R : List Row} {Z : List Sp2} {ys : List D} (nd : Z.Nodup) (mem : ∀ s, s ∈ Z ↔ s ∈ R.map (·.1)) (h : SortTo (Z.map tp) ys) : ∃ Y, Hot R Y ∧ ys = Y.map tp := by
  obtain ⟨Y, p, rfl⟩ := perm_lift tp h.1 Z rfl
  exact ⟨Y, ⟨p.nodup_iff.mpr nd, fun s => p.mem_iff.trans (mem s), h.2⟩, rfl⟩
theorem tp_nt {a b : Sp2} (h : (tp a).nt = (tp b).nt) : a = b := by
  obtain ⟨a1, a2⟩ := a
  obtain ⟨b1, b2⟩ := b
  simp only [tp, D.nt, D.nts, NestedKey.tup.injEq, List.cons.injEq, NestedKey.num.injEq, and_true] at h
  rw [h.1, h.2]
theorem Hot.uniq {R : List Row} {Y Z : List Sp2} (h : Hot R Y) (g : Hot R Z) : Y = Z := by
  have p : Y.Perm Z := (List.perm_ext_iff_of_nodup h.nd g.nd).mpr fun s => (h.mem s).trans (g.mem s).symm
  have := sortTo_uniq (xs := Y.map tp) (xs' := Z.map tp) srt_tps (fun a ha b hb e => by
    obtain ⟨x, _, rfl⟩ := List.mem_map.mp ha
    obtain ⟨y, _, rfl⟩ := List.mem_map.mp hb
    rw [tp_nt e]) (p.map tp) ⟨.refl _, h.up⟩ ⟨.refl _, g.up⟩
  exact (List.map_inj_right fun a b z => tp_inj z).mp this
theorem law_hot_ok {P : List (Str × D)} {Q : D → Prop} (hP : HeapP P) (h : ∀ R Z, Cau P R → Hot R Z → Q (.lst (Z.map tp))) : c_law_hot [.dic (hpD P)] Q := by
  unfold c_law_hot
  walk_at "dv"
  refine law_causes_at hP fun R hR => ?_
  walk_at "dv"
  have hl := hR.len hP
  refine hot_loop R [] _ _ (by simp only [List.length_nil]; omega) fun s2 s3 => ?_
  walk_at "dv"
  rw [sortedC_d]
  have e : (hotD (hotZ [] R)).map (·.1) = (hotZ [] R).map tp := by unfold hotD; rw [List.map_map]; rfl
  rw [e]
  refine ⟨srt_tps, fun ys hy => ?_⟩
  obtain ⟨Y, hY, rfl⟩ := hot_of (R := R) (hotZ_nd List.nodup_nil) (fun s => by rw [hotZ_mem]; simp) hy
  exact h R Y hR hY
/-! ### which rows there are -/
theorem lt_asym {x y : Str} (h : ltN (.text x) (.text y) = true) (g : ltN (.text y) (.text x) = true) : False := by
  rw [ltN_text] at h g
  exact absurd (of_decide_eq_true g) (List.lt_asymm (of_decide_eq_true h))
theorem mem_crosses {p : Str × D} {r : List (Str × D)} {x : Row} : x ∈ crosses p r ↔ ∃ q ∈ r, ∃ s, meetSp p.2 q.2 = some s ∧ x = (s, .cr p.1 q.1) := by
  unfold crosses
  rw [List.mem_filterMap]
  constructor
  · rintro ⟨q, hq, e⟩
    obtain ⟨s, e1, e2⟩ := Option.map_eq_some_iff.mp e
    exact ⟨q, hq, s, e1, e2.symm⟩
  · rintro ⟨q, hq, s, e1, rfl⟩
    exact ⟨q, hq, by rw [e1]; rfl⟩
theorem mem_rowsP {x : Row} : ∀ {S : List (Str × D)}, (S.Pairwise fun p q => ltN (.text p.1) (.text q.1) = true) →
    (x ∈ rowsP S ↔ (∃ p ∈ S, x = (oneSp p.2, .en p.1 0) ∨ x = (twoSp p.2, .en p.1 1)) ∨ ∃ p ∈ S, ∃ q ∈ S, ltN (.text p.1) (.text q.1) = true ∧ ∃ s, meetSp p.2 q.2 = some s ∧ x = (s, .cr p.1 q.1))
  | [], _ => by simp [rowsP]
  | p :: r, h => by
    rw [List.pairwise_cons] at h
    have ih := mem_rowsP (x := x) h.2
    rw [rowsP, List.mem_append, List.mem_append, ih, mem_crosses, ends]
    constructor
    · rintro ((e | ⟨q, hq, s, e1, e2⟩) | ⟨q, hq, e⟩ | ⟨q, hq, t, ht, l, e⟩)
      · rcases List.mem_cons.mp e with e | e
        · exact .inl ⟨p, List.mem_cons_self, .inl e⟩
        · exact .inl ⟨p, List.mem_cons_self, .inr (List.mem_singleton.mp e)⟩
      · exact .inr ⟨p, List.mem_cons_self, q, List.mem_cons_of_mem _ hq, h.1 q hq, s, e1, e2⟩
      · exact .inl ⟨q, List.mem_cons_of_mem _ hq, e⟩
      · exact .inr ⟨q, List.mem_cons_of_mem _ hq, t, List.mem_cons_of_mem _ ht, l, e⟩
    · rintro (⟨q, hq, e⟩ | ⟨q, hq, t, ht, l, e⟩)
      · rcases List.mem_cons.mp hq with rfl | hq
        · refine .inl (.inl ?_)
          rcases e with e | e
          · rw [e]; exact List.mem_cons_self
          · rw [e]; exact List.mem_cons_of_mem _ List.mem_cons_self
        · exact .inr (.inl ⟨q, hq, e⟩)
      · rcases List.mem_cons.mp hq with e1 | hq
        · rcases List.mem_cons.mp ht with e2 | ht
          · rw [e1, e2] at l
            exact (lt_asym l l).elim
          · rw [e1] at e
            exact .inl (.inr ⟨t, ht, e⟩)
        · rcases List.mem_cons.mp ht with e2 | ht
          · rw [e2] at l
            exact (lt_asym l (h.1 q hq)).elim
          · exact .inr (.inr ⟨q, hq, t, ht, l, e⟩)
def RowOf (P : List (Str × D)) (x : Row) : Prop := (∃ p ∈ P, x = (oneSp p.2, .en p.1 0) ∨ x = (twoSp p.2, .en p.1 1)) ∨ ∃ p ∈ P, ∃ q ∈ P, ltN (.text p.1) (.text q.1) = true ∧ ∃ s, meetSp p.2 q.2 = some s ∧ x = (s, .cr p.1 q.1)
theorem Cau.mem {P : List (Str × D)} {R : List Row} (h : Cau P R) {x : Row} : x ∈ R ↔ RowOf P x := by
  obtain ⟨S, hS, p⟩ := h.of
  rw [p.mem_iff, mem_rowsP hS.up]
  have e : ∀ p, p ∈ S ↔ p ∈ P := fun p => hS.perm.mem_iff
  unfold RowOf
  simp only [e]
def SpB (s : Sp2) : Prop := (-40 ≤ s.1 ∧ s.1 ≤ 40) ∧ -40 ≤ s.2 ∧ s.2 ≤ 40
theorem near_b {a c x v p q : Int} (v0 : 0 < v) (q0 : 0 < q) (p0 : 0 ≤ p) (p1 : p ≤ q) (a0 : -40 ≤ a) (a1 : a ≤ 40) (c0 : -40 ≤ c) (c1 : c ≤ 40) (e : x * q = (a * q + (c - a) * p) * v) : -40 ≤ nearI x v ∧ nearI x v ≤ 40 := by
  have h := nearI_between (o := x) v0
  generalize nearI x v = n at *
  have k1 : a * q + (c - a) * p = a * (q - p) + c * p := by grind
  have k2 : a * (q - p) ≤ 40 * (q - p) := Int.mul_le_mul_of_nonneg_right a1 (by omega)
  have k3 : c * p ≤ 40 * p := Int.mul_le_mul_of_nonneg_right c1 p0
  have k4 : -40 * (q - p) ≤ a * (q - p) := Int.mul_le_mul_of_nonneg_right a0 (by omega)
  have k5 : -40 * p ≤ c * p := Int.mul_le_mul_of_nonneg_right c0 p0
  generalize a * q + (c - a) * p = T at *
  have t1 : T ≤ 40 * q := by omega
  have t2 : -40 * q ≤ T := by omega
  have x1 : x ≤ 40 * v := by
    refine Int.le_of_mul_le_mul_right (a := q) ?_ q0
    rw [e]
    have := Int.mul_le_mul_of_nonneg_right t1 (Int.le_of_lt v0)
    grind
  have x2 : -40 * v ≤ x := by
    refine Int.le_of_mul_le_mul_right (a := q) ?_ q0
    rw [e]
    have := Int.mul_le_mul_of_nonneg_right t2 (Int.le_of_lt v0)
    grind
  constructor
  · have z : (-81) * v < (2 * n + 1) * v := by omega
    have := Int.lt_of_mul_lt_mul_right z (Int.le_of_lt v0)
    omega
  · have z : (2 * n - 1) * v < 81 * v := by omega
    have := Int.lt_of_mul_lt_mul_right z (Int.le_of_lt v0)
    omega
theorem OnS.near {a b c d x v y w : Int} (v0 : 0 < v) (w0 : 0 < w) (a0 : -40 ≤ a) (a1 : a ≤ 40) (b0 : -40 ≤ b) (b1 : b ≤ 40) (c0 : -40 ≤ c) (c1 : c ≤ 40) (d0 : -40 ≤ d) (d1 : d ≤ 40) (h : OnS a b c d x v y w) : SpB (nearI x v, nearI y w) := by
  obtain ⟨p, q, q0, p0, p1, e1, e2⟩ := h
  exact ⟨near_b v0 q0 p0 p1 a0 a1 c0 c1 e1, near_b w0 q0 p0 p1 b0 b1 d0 d1 e2⟩
theorem nd_len : ∀ {l m : List Sp2}, l.Nodup → (∀ x ∈ l, x ∈ m) → l.length ≤ m.length
  | [], _, _, _ => Nat.zero_le _
  | x :: l, m, nd, h => by
    rw [List.nodup_cons] at nd
    have hx := h x List.mem_cons_self
    have ih := nd_len (l := l) (m := m.erase x) nd.2 fun y hy => (List.mem_erase_of_ne (fun e => nd.1 (by rw [← e]; exact hy))).mpr (h y (List.mem_cons_of_mem _ hy))
    have e := List.length_erase_of_mem hx
    have := List.length_pos_of_mem hx
    rw [List.length_cons]
    omega
theorem Hot.len {P : List (Str × D)} {R : List Row} {Z : List Sp2} (hP : HeapP P) (h : Cau P R) (hZ : Hot R Z) : Z.length ≤ 560 := by
  have := nd_len hZ.nd (m := R.map (·.1)) fun s hs => (hZ.mem s).mp hs
  rw [List.length_map] at this
  have := h.len hP
  omega
/-! ### why -/
theorem lcD_fm {α : Type} {g : DG} {tt : DT} {te : DE} {ρ : List Slot} (e : α → D) (f : α → Option D) : ∀ (xs : List α) (acc : List D) (Q : D → Prop),
    (∀ x ∈ xs, ∀ (Q1 : D → Prop) (Q2 : Prop), (∀ y, f x = some y → Q1 y) → (f x = none → Q2) → g (e x) ρ fun ρ2 => tt ρ2 fun b => if b = true then te ρ2 Q1 else Q2) → acc.length + xs.length ≤ sizeLine → Q (.lst (acc ++ xs.filterMap f)) → lcD g tt te ρ (xs.map e) acc Q
  | [], acc, Q, _, _, q => by simpa [lcD] using q
  | x :: xs, acc, Q, h, hl, q => by
    rw [List.length_cons] at hl
    refine h x List.mem_cons_self (fun y => acc.length < sizeLine ∧ lcD g tt te ρ (xs.map e) (acc ++ [y]) Q) (lcD g tt te ρ (xs.map e) acc Q) (fun y hy => ⟨by omega, ?_⟩) fun hn => ?_
    · refine lcD_fm e f xs _ Q (fun x hx => h x (List.mem_cons_of_mem _ hx)) (by rw [List.length_append, List.length_singleton]; omega) ?_
      rw [List.filterMap_cons_some hy] at q
      rw [List.append_assoc]
      exact q
    · refine lcD_fm e f xs _ Q (fun x hx => h x (List.mem_cons_of_mem _ hx)) (by omega) ?_
      rwa [List.filterMap_cons_none hn] at q
theorem lay_tp (s : Sp2) : (tp s).lay = true := lay_t2
/-! ### who goes through -/
open Classical in
noncomputable def goB (s : D) (z : Sp2) : Bool := match s with
  | .tup [.int a, .int b, .int c, .int d] => decide (GoesP a b c d z.1 z.2)
  | _ => false
theorem goB_iff {a b c d : Int} {z : Sp2} : goB (.tup [.int a, .int b, .int c, .int d]) z = true ↔ GoesP a b c d z.1 z.2 := by simp [goB]
noncomputable def goersL (S : List (Str × D)) (z : Sp2) : List D := S.filterMap fun p => if goB p.2 z = true then some (D.str p.1) else none
theorem goes_at {s : D} {z : Sp2} {Q : D → Prop} (hs : StrokeOk s) (hz : SpB z) (h : Q (.bl (goB s z))) : c_goes [s, tp z] Q := by
  obtain ⟨a, b, c, d, rfl, a0, a1, b0, b1, c0, c1, d0, d1, n1⟩ := hs
  obtain ⟨m, n⟩ := z
  refine goes_ok (in100 a0 a1) (in100 b0 b1) (in100 c0 c1) (in100 d0 d1) (in100 hz.1.1 hz.1.2) (in100 hz.2.1 hz.2.2) fun r hr => ?_
  have e : r = goB (.tup [.int a, .int b, .int c, .int d]) (m, n) := by
    rw [Bool.eq_iff_iff, hr, goB_iff]
  rw [e]
  exact h
theorem law_goes_at {s : D} {z : Sp2} {Q : D → Prop} (hs : StrokeOk s) (hz : SpB z) (h : Q (.bl (goB s z))) : c_law_goes [s, tp z] Q := by
  obtain ⟨a, b, c, d, rfl, a0, a1, b0, b1, c0, c1, d0, d1, n1⟩ := hs
  obtain ⟨m, n⟩ := z
  refine law_goes_ok (in100 a0 a1) (in100 b0 b1) (in100 c0 c1) (in100 d0 d1) (in100 hz.1.1 hz.1.2) (in100 hz.2.1 hz.2.2) fun r hr => ?_
  have e : r = goB (.tup [.int a, .int b, .int c, .int d]) (m, n) := by
    rw [Bool.eq_iff_iff, hr, goB_iff]
  rw [e]
  exact h
theorem goers_at {P : List (Str × D)} {Q : D → Prop} (hP : HeapP P) {z : Sp2} (hz : SpB z) (h : ∀ S, Ris P S → Q (.tup (goersL S z))) : c_goers [.dic (hpD P), tp z] Q := by
  unfold c_goers
  walk_at "dv"
  rw [sortedC_d]
  refine ⟨keys_srt, fun ys hys => ?_⟩
  obtain ⟨S, hS, rfl⟩ := ris_of hP hys
  have hl : S.length ≤ 32 := by rw [hS.perm.length_eq]; exact hP.few
  walk_at "dv"
  refine lcD_fm (fun p : Str × D => D.str p.1) (fun p => if goB p.2 z = true then some (D.str p.1) else none) S [] _ (fun p hp Q1 Q2 k1 k2 => ?_) (by rw [sizeLine_eq, List.length_nil]; omega) ?_
  · have hp' := hS.perm.mem_iff.mp hp
    walk_at "dv"
    refine hp_ix hP (s := p.2) hp' ?_
    walk_at "dv"
    refine goes_at (hP.st p hp') hz ?_
    walk_at "dv"
    cases e : goB p.2 z with
    | true => exact k1 _ (if_pos e)
    | false => exact k2 (if_neg (by rw [e]; decide))
  · walk_at "dv"
    exact h S hS
/-! ### the paper -/
theorem lay_str {x : Str} (h : PyData.strOk x = true) : (D.str x).lay = true := lay_of (n := 0) (by decide) h
theorem ok_end : PyData.strOk (Str.ofString "end") = true := by decide +kernel
theorem ok_cross : PyData.strOk (Str.ofString "cross") = true := by decide +kernel
theorem ok_cold : PyData.strOk (Str.ofString "cold") = true := by decide +kernel
theorem cs_layN {P : List (Str × D)} (hP : HeapP P) {z : Sp2} {c : Cs} (hc : RowOf P (z, c)) : LayN 1 (csD c) := by
  rcases hc with ⟨p, hp, e | e⟩ | ⟨p, hp, q, hq, _, s, e1, e⟩
  · cases e
    intro d hd
    simp only [List.mem_cons, List.not_mem_nil, or_false] at hd
    rcases hd with rfl | rfl | rfl
    · exact ok_end
    · exact hP.ok p hp
    · exact True.intro
  · cases e
    intro d hd
    simp only [List.mem_cons, List.not_mem_nil, or_false] at hd
    rcases hd with rfl | rfl | rfl
    · exact ok_end
    · exact hP.ok p hp
    · exact True.intro
  · cases e
    intro d hd
    simp only [List.mem_cons, List.not_mem_nil, or_false] at hd
    rcases hd with rfl | rfl | rfl
    · exact ok_cross
    · exact hP.ok p hp
    · exact hP.ok q hq
theorem goers_layN {P S : List (Str × D)} (hP : HeapP P) (hS : Ris P S) {z : Sp2} : LayN 1 (.tup (goersL S z)) := by
  intro d hd
  unfold goersL at hd
  obtain ⟨p, hp, e⟩ := List.mem_filterMap.mp hd
  by_cases h : goB p.2 z = true
  · rw [if_pos h] at e
    cases e
    exact hP.ok p (hS.perm.mem_iff.mp hp)
  · rw [if_neg h] at e
    cases e
theorem ne_ec : ¬Str.ofString "end" = Str.ofString "cold" := by decide
theorem ne_cc : ¬Str.ofString "cross" = Str.ofString "cold" := by decide
theorem ne_ce : ¬Str.ofString "cross" = Str.ofString "end" := by decide
theorem rows_layN {P : List (Str × D)} {R : List Row} (hP : HeapP P) (hR : Cau P R) : LayN 3 (.lst (R.map rowD)) := by
  intro d hd
  obtain ⟨x, hx, rfl⟩ := List.mem_map.mp hd
  intro d hd
  simp only [List.mem_cons, List.not_mem_nil, or_false] at hd
  rcases hd with rfl | rfl
  · intro d hd
    simp only [List.mem_cons, List.not_mem_nil, or_false] at hd
    rcases hd with rfl | rfl <;> exact True.intro
  · exact cs_layN hP (hR.mem.mp hx)
theorem eqb_cs {a b : Cs} : D.eqb (csD a) (csD b) = true ↔ a = b := by
  have ne : ¬(Str.ofString "end" = Str.ofString "cross") := by decide
  cases a <;> cases b
  · simp only [csD, eqb_tt, eqbs_cc, eqbs_nn, eqb_ss, eqb_ii, Bool.and_true, Bool.and_eq_true, beq_iff_eq, true_and, Cs.en.injEq]
  · simp only [csD, eqb_tt, eqbs_cc, eqbs_nn, eqb_ss, Bool.and_true, Bool.and_eq_true, beq_iff_eq, reduceCtorEq, iff_false]
    exact fun h => ne h.1
  · simp only [csD, eqb_tt, eqbs_cc, eqbs_nn, eqb_ss, Bool.and_true, Bool.and_eq_true, beq_iff_eq, reduceCtorEq, iff_false]
    exact fun h => ne h.1.symm
  · simp only [csD, eqb_tt, eqbs_cc, eqbs_nn, eqb_ss, Bool.and_true, Bool.and_eq_true, beq_iff_eq, true_and, Cs.cr.injEq]
theorem eqb_row {x y : Row} : D.eqb (rowD x) (rowD y) = true ↔ x = y := by
  simp only [rowD, eqb_tt, eqbs_cc, eqbs_nn, eqb_tp, Bool.and_true, Bool.and_eq_true, decide_eq_true_eq, eqb_cs]
  exact ⟨fun h => Prod.ext h.1 h.2, fun h => by rw [h]; exact ⟨rfl, rfl⟩⟩
theorem any_row {x : Row} {R : List Row} : ((R.map rowD).any fun z => D.eqb z (rowD x)) = true ↔ x ∈ R := by
  rw [List.any_map, List.any_eq_true]
  constructor
  · rintro ⟨y, hy, e⟩
    rw [← eqb_row.mp e]
    exact hy
  · intro h
    exact ⟨x, h, eqb_row.mpr rfl⟩
/-- the law's own judgement of a paper with a cause -/
theorem law_right_c {P : List (Str × D)} {Q : D → Prop} {z : Sp2} {c : Cs} (hP : HeapP P) (hc : LayN 1 (csD c)) (q : ∀ b : Bool, (b = true ↔ RowOf P (z, c)) → Q (.bl b)) : c_law_paper_right [.dic (hpD P), tp z, csD c] Q := by
  have fin : c_law_causes [.dic (hpD P)] (k_dOp2 inD (.tup [tp z, csD c]) Q) := by
    refine law_causes_at hP fun R hR => ?_
    refine ⟨lay_of (n := 2) (by decide) fun d hd => ?_, lay_of (n := 3) (by decide) (rows_layN hP hR), q _ ((any_row (x := (z, c))).trans hR.mem)⟩
    simp only [List.mem_cons, List.not_mem_nil, or_false] at hd
    rcases hd with rfl | rfl
    · intro d hd
      simp only [List.mem_cons, List.not_mem_nil, or_false] at hd
      rcases hd with rfl | rfl <;> exact True.intro
    · exact hc
  unfold c_law_paper_right
  cases c with
  | en n b =>
    simp only [csD] at fin ⊢
    walk_at "dv"
    refine ⟨lay_str ok_end, lay_str ok_cold, ?_⟩
    rw [if_neg ne_ec]
    exact fin
  | cr n m =>
    simp only [csD] at fin ⊢
    walk_at "dv"
    refine ⟨lay_str ok_cross, lay_str ok_cold, ?_⟩
    rw [if_neg ne_cc]
    exact fin
theorem eqbs_strs : ∀ {a b : List Str}, D.eqbs (a.map D.str) (b.map D.str) = true ↔ a = b
  | [], [] => by simp [eqbs_nn]
  | [], _ :: _ => by simp [eqbs_nc]
  | _ :: _, [] => by simp [eqbs_cn]
  | x :: a, y :: b => by
    rw [List.map_cons, List.map_cons, eqbs_cc, Bool.and_eq_true, eqb_ss, beq_iff_eq, eqbs_strs, List.cons.injEq]
noncomputable def goersS (S : List (Str × D)) (z : Sp2) : List Str := S.filterMap fun p => if goB p.2 z = true then some p.1 else none
theorem goers_map {S : List (Str × D)} {z : Sp2} : goersL S z = (goersS S z).map D.str := by
  unfold goersL goersS
  rw [List.map_filterMap]
  congr 1
  funext p
  by_cases h : goB p.2 z = true
  · rw [if_pos h, if_pos h]; rfl
  · rw [if_neg h, if_neg h]; rfl
theorem strs_layN {L : List Str} (h : ∀ x ∈ L, PyData.strOk x = true) : LayN 1 (.tup (L.map D.str)) := by
  intro d hd
  obtain ⟨x, hx, rfl⟩ := List.mem_map.mp hd
  exact h x hx
/-- of one that tells who goes through -/
theorem law_right_n {P : List (Str × D)} {Q : D → Prop} {z : Sp2} {L : List Str} (hP : HeapP P) (hz : SpB z) (hL : ∀ x ∈ L, PyData.strOk x = true) (q : ∀ S, Ris P S → ∀ b : Bool, (b = true ↔ L = goersS S z ∧ ∀ c, ¬RowOf P (z, c)) → Q (.bl b)) :
    c_law_paper_right [.dic (hpD P), tp z, .tup [.str "cold", .tup (L.map D.str)]] Q := by
  unfold c_law_paper_right
  walk_at "dv"
  refine ⟨lay_str ok_cold, lay_str ok_cold, ?_⟩
  rw [sortedC_d]
  refine ⟨keys_srt, fun ys hys => ?_⟩
  obtain ⟨S, hS, rfl⟩ := ris_of hP hys
  have hl : S.length ≤ 32 := by rw [hS.perm.length_eq]; exact hP.few
  walk_at "dv"
  refine lcD_fm (fun p : Str × D => D.str p.1) (fun p => if goB p.2 z = true then some (D.str p.1) else none) S [] _ (fun p hp Q1 Q2 k1 k2 => ?_) (by rw [sizeLine_eq, List.length_nil]; omega) ?_
  · have hp' := hS.perm.mem_iff.mp hp
    walk_at "dv"
    refine hp_ix hP (s := p.2) hp' ?_
    walk_at "dv"
    refine law_goes_at (hP.st p hp') hz ?_
    walk_at "dv"
    cases e : goB p.2 z with
    | true => exact k1 _ (if_pos e)
    | false => exact k2 (if_neg (by rw [e]; decide))
  · show k_dCons _ _ _ (.lst (goersL S z))
    walk_at "dv"
    refine ⟨lay_of (n := 1) (by decide) (strs_layN hL), lay_of (n := 1) (by decide) (goers_layN hP hS), ?_⟩
    by_cases e : D.eqbs (L.map D.str) (goersL S z) = true
    · rw [if_pos e]
      rw [goers_map] at e
      refine law_hot_ok hP fun R Z hR hZ => ?_
      obtain ⟨m, n⟩ := z
      refine notInD_tp (q S hS _ ?_)
      rw [Bool.not_eq_true', decide_eq_false_iff_not, hZ.mem]
      refine ⟨fun h => ⟨eqbs_strs.mp e, fun c hc => h (List.mem_map.mpr ⟨_, hR.mem.mpr hc, rfl⟩)⟩, fun h hm => ?_⟩
      obtain ⟨⟨s, c⟩, hx, e2⟩ := List.mem_map.mp hm
      cases e2
      exact h.2 c (hR.mem.mp hx)
    · rw [if_neg e]
      rw [goers_map] at e
      exact q S hS false ⟨fun h => by simp at h, fun h => (e (eqbs_strs.mpr h.1)).elim⟩
/-! ### the program's judge -/
theorem met_in_ok {s t : D} {z : Sp2} {Q : D → Prop} (hs : StrokeOk s) (ht : StrokeOk t) (q0 : Q (.bl (decide (meetSp s t = some z)))) : c_met_in [s, t, tp z] Q := by
  obtain ⟨a, b, c, d, rfl, a0, a1, b0, b1, c0, c1, d0, d1, n1⟩ := hs
  obtain ⟨e, f, g, k, rfl, e0, e1, f0, f1, g0, g1, k0, k1, n2⟩ := ht
  have mc := meet_c (in100 a0 a1) (in100 b0 b1) (in100 c0 c1) (in100 d0 d1) (in100 e0 e1) (in100 f0 f1) (in100 g0 g1) (in100 k0 k1) n1 n2
  unfold c_met_in
  walk_at "dv"
  refine meet_ok (in100 a0 a1) (in100 b0 b1) (in100 c0 c1) (in100 d0 d1) (in100 e0 e1) (in100 f0 f1) (in100 g0 g1) (in100 k0 k1) ?_
  have q' : ∀ t : Bool, (t = true ↔ placeSp (meetD a b c d e f g k) = some z) → Q (.bl t) := fun t h => by
    have e : t = decide (placeSp (meetD a b c d e f g k) = some z) := by rw [Bool.eq_iff_iff, h, decide_eq_true_eq]
    rw [e]
    exact q0
  clear q0
  generalize meetD a b c d e f g k = R at *
  cases mc with
  | non =>
    walk_at "dv"
    exact q' false (by simp [placeSp])
  | at_ x v y w v0 w0 v1 w1 _ _ _ _ =>
    walk_at "dv"
    refine ⟨lay_of (n := 0) (by decide) (show PyData.strOk _ = true by decide +kernel), lay_of (n := 0) (by decide) (show PyData.strOk _ = true by decide +kernel), ?_⟩
    refine square_of_ok v0 v1 w0 w1 ?_
    walk_at "dv"
    refine ⟨lay_tp _, q' _ ?_⟩
    rw [show placeSp (.tup [.str (Str.ofString "at"), .tup [.tup [.int x, .int v], .tup [.int y, .int w]]]) = some (nearI x v, nearI y w) by simp [placeSp]]
    have := eqb_tp (s := (nearI x v, nearI y w)) (t := z)
    show D.eqb (tp (nearI x v, nearI y w)) (tp z) = true ↔ _
    rw [this, decide_eq_true_eq, Option.some.injEq]
  | along p1 q1 r1 s1' _ _ _ _ _ =>
    walk_at "dv"
    refine ⟨lay_of (n := 0) (by decide) (show PyData.strOk _ = true by decide +kernel), lay_of (n := 0) (by decide) (show PyData.strOk _ = true by decide +kernel), ?_⟩
    rw [if_neg (by decide)]
    exact q' false (by simp [placeSp, show (Str.ofString "along" = Str.ofString "at") = False from eq_false (by decide)])
theorem lcA_fm {α : Type} {g : DG} {tt : DT} {te : DE} {ρ : List Slot} {K : List D → Prop} (e : α → D) (f : α → Option D) : ∀ (xs : List α) (acc : List D),
    (∀ x ∈ xs, ∀ (Q1 : D → Prop) (Q2 : Prop), (∀ y, f x = some y → Q1 y) → (f x = none → Q2) → g (e x) ρ fun ρ2 => tt ρ2 fun b => if b = true then te ρ2 Q1 else Q2) → acc.length + xs.length ≤ sizeLine → K (acc ++ xs.filterMap f) → lcA g tt te ρ (xs.map e) acc K
  | [], acc, _, _, q => by simpa [lcA] using q
  | x :: xs, acc, h, hl, q => by
    rw [List.length_cons] at hl
    refine h x List.mem_cons_self (fun y => acc.length < sizeLine ∧ lcA g tt te ρ (xs.map e) (acc ++ [y]) K) (lcA g tt te ρ (xs.map e) acc K) (fun y hy => ⟨by omega, ?_⟩) fun hn => ?_
    · refine lcA_fm e f xs _ (fun x hx => h x (List.mem_cons_of_mem _ hx)) (by rw [List.length_append, List.length_singleton]; omega) ?_
      rw [List.filterMap_cons_some hy] at q
      rw [List.append_assoc]
      exact q
    · refine lcA_fm e f xs _ (fun x hx => h x (List.mem_cons_of_mem _ hx)) (by omega) ?_
      rwa [List.filterMap_cons_none hn] at q
theorem lc2D_fm {α : Type} {g g1 : DG} {tt tt1 : DT} {it1 : DI} {te : DE} {vs1 : List Nat} {ρ : List Slot} {Q : D → Prop} (e : α → D) (F : α → List D) (n : Nat) : ∀ (xs : List α) (acc : List D),
    (∀ x ∈ xs, ∀ (acc : List D) (K : List D → Prop), acc.length + n ≤ sizeLine → K (acc ++ F x) → g (e x) ρ fun ρ2 => tt ρ2 fun b => if b = true then it1 ρ2 fun ds1 => lcA g1 tt1 te (wipeD (fgs ρ2) vs1) ds1 acc K else K acc) →
    (∀ x ∈ xs, (F x).length ≤ n) → acc.length + n * xs.length ≤ sizeLine → Q (.lst (acc ++ xs.flatMap F)) → lc2D g tt it1 g1 tt1 te vs1 ρ (xs.map e) acc Q
  | [], acc, _, _, _, q => by simpa [lc2D] using q
  | x :: xs, acc, h, hn, hl, q => by
    rw [List.length_cons, Nat.mul_succ] at hl
    refine h x List.mem_cons_self acc (fun acc' => lc2D g tt it1 g1 tt1 te vs1 ρ (xs.map e) acc' Q) (by omega) ?_
    have := hn x List.mem_cons_self
    refine lc2D_fm e F n xs _ (fun y hy => h y (List.mem_cons_of_mem _ hy)) (fun y hy => hn y (List.mem_cons_of_mem _ hy)) (by rw [List.length_append]; omega) ?_
    rw [List.flatMap_cons] at q
    rw [List.append_assoc]
    exact q
theorem goes_end {s : D} (hs : StrokeOk s) : goB s (oneSp s) = true ∧ goB s (twoSp s) = true := by
  obtain ⟨a, b, c, d, rfl, a0, a1, b0, b1, c0, c1, d0, d1, n1⟩ := hs
  have o1 : OnS a b c d a 1 b 1 := ⟨0, 1, by decide, by decide, by decide, by omega, by omega⟩
  have o2 : OnS a b c d c 1 d 1 := ⟨1, 1, by decide, by decide, by decide, by omega, by omega⟩
  have g1 := o1.goes (by decide) (by decide)
  have g2 := o2.goes (by decide) (by decide)
  rw [nearI_one, nearI_one] at g1 g2
  exact ⟨goB_iff.mpr g1, goB_iff.mpr g2⟩
theorem goes_meet {s t : D} (hs : StrokeOk s) (ht : StrokeOk t) {z : Sp2} (h : meetSp s t = some z) : goB s z = true ∧ goB t z = true := by
  obtain ⟨a, b, c, d, rfl, a0, a1, b0, b1, c0, c1, d0, d1, n1⟩ := hs
  obtain ⟨e, f, g, k, rfl, e0, e1, f0, f1, g0, g1, k0, k1, n2⟩ := ht
  have mc := meet_c (in100 a0 a1) (in100 b0 b1) (in100 c0 c1) (in100 d0 d1) (in100 e0 e1) (in100 f0 f1) (in100 g0 g1) (in100 k0 k1) n1 n2
  have h' : placeSp (meetD a b c d e f g k) = some z := h
  generalize meetD a b c d e f g k = R at *
  cases mc with
  | non => simp [placeSp] at h'
  | at_ x v y w v0 w0 v1 w1 _ _ o1 o2 =>
    have e : placeSp (.tup [.str (Str.ofString "at"), .tup [.tup [.int x, .int v], .tup [.int y, .int w]]]) = some (nearI x v, nearI y w) := by simp [placeSp]
    rw [e] at h'
    cases h'
    exact ⟨goB_iff.mpr (o1.goes v0 w0), goB_iff.mpr (o2.goes v0 w0)⟩
  | along p1 q1 r1 s1' _ _ _ _ _ => simp [placeSp, show (Str.ofString "along" = Str.ofString "at") = False from eq_false (by decide)] at h'
noncomputable def goG (S : List (Str × D)) (z : Sp2) : List (Str × D) := S.filter fun p => goB p.2 z
theorem goG_names {S : List (Str × D)} {z : Sp2} : goersS S z = (goG S z).map (·.1) := by
  unfold goersS goG
  induction S with
  | nil => rfl
  | cons p S ih =>
    by_cases h : goB p.2 z = true
    · rw [List.filterMap_cons_some (b := p.1) (by rw [if_pos h]), List.filter_cons, if_pos h, List.map_cons, ih]
    · rw [List.filterMap_cons_none (by rw [if_neg h]), List.filter_cons, if_neg h, ih]
def atEnd (z : Sp2) (p : Str × D) : Bool := decide (oneSp p.2 = z) || decide (twoSp p.2 = z)
def ltS (x y : Str) : Bool := ltN (.text x) (.text y)
theorem ltA_str {x y : Str} {Q : D → Prop} (hx : PyData.strOk x = true) (hy : PyData.strOk y = true) (q : Q (.bl (ltS x y))) : ltA (.str x) (.str y) Q := by
  refine .inr ⟨lay_str hx, lay_str hy, rfl, fun h => by simp [D.toP] at h, ?_⟩
  have e : W.dataLt (D.str x).toP (D.str y).toP = ltS x y := by
    simp only [D.toP, W.dataLt_str]
    unfold ltS
    rw [ltN_text]
  show Q (.bl (W.dataLt (D.str x).toP (D.str y).toP))
  rw [e]
  exact q
/-- no cause of a square: as the judge asks it, of those that go through -/
theorem no_cause {P S : List (Str × D)} (hP : HeapP P) (hS : Ris P S) {z : Sp2} : (∀ c, ¬RowOf P (z, c)) ↔ (∀ p ∈ goG S z, atEnd z p = false) ∧ ∀ p ∈ goG S z, ∀ q ∈ goG S z, ltS p.1 q.1 = true → ¬meetSp p.2 q.2 = some z := by
  have mem : ∀ p, p ∈ goG S z ↔ p ∈ P ∧ goB p.2 z = true := fun p => by unfold goG; rw [List.mem_filter, hS.perm.mem_iff]
  constructor
  · intro h
    refine ⟨fun p hp => ?_, fun p hp q hq l e => h _ (.inr ⟨p, ((mem p).mp hp).1, q, ((mem q).mp hq).1, l, z, e, rfl⟩)⟩
    have hp' := ((mem p).mp hp).1
    unfold atEnd
    rw [Bool.or_eq_false_iff, decide_eq_false_iff_not, decide_eq_false_iff_not]
    exact ⟨fun e => h (.en p.1 0) (.inl ⟨p, hp', .inl (by rw [e])⟩), fun e => h (.en p.1 1) (.inl ⟨p, hp', .inr (by rw [e])⟩)⟩
  · rintro ⟨h1, h2⟩ c hc
    rcases hc with ⟨p, hp, e | e⟩ | ⟨p, hp, q, hq, l, s, e1, e⟩
    · have ez : z = oneSp p.2 := congrArg Prod.fst e
      have := h1 p ((mem p).mpr ⟨hp, by rw [ez]; exact (goes_end (hP.st p hp)).1⟩)
      unfold atEnd at this
      rw [Bool.or_eq_false_iff, decide_eq_false_iff_not] at this
      exact this.1 ez.symm
    · have ez : z = twoSp p.2 := congrArg Prod.fst e
      have := h1 p ((mem p).mpr ⟨hp, by rw [ez]; exact (goes_end (hP.st p hp)).2⟩)
      unfold atEnd at this
      rw [Bool.or_eq_false_iff, decide_eq_false_iff_not, decide_eq_false_iff_not] at this
      exact this.2 ez.symm
    · have ez : z = s := congrArg Prod.fst e
      rw [← ez] at e1
      have := goes_meet (hP.st p hp) (hP.st q hq) e1
      exact h2 p ((mem p).mpr ⟨hp, this.1⟩) q ((mem q).mpr ⟨hq, this.2⟩) l e1
theorem cold_right_ok {P : List (Str × D)} {Q : D → Prop} {z : Sp2} {L : List Str} (hP : HeapP P) (hz : SpB z) (hL : ∀ x ∈ L, PyData.strOk x = true) (q : ∀ S, Ris P S → ∀ b : Bool, (b = true ↔ L = goersS S z ∧ ∀ c, ¬RowOf P (z, c)) → Q (.bl b)) :
    c_cold_right [.dic (hpD P), tp z, .tup (L.map D.str)] Q := by
  unfold c_cold_right
  walk_at "dv"
  refine goers_at hP hz fun S hS => ?_
  walk_at "dv"
  refine ⟨lay_of (n := 1) (by decide) (strs_layN hL), lay_of (n := 1) (by decide) (goers_layN hP hS), ?_⟩
  rw [goers_map]
  by_cases e : D.eqbs (L.map D.str) ((goersS S z).map D.str) = true
  · rw [e, if_neg (by decide)]
    have eL := eqbs_strs.mp e
    have hG : ∀ p ∈ goG S z, p ∈ P := fun p hp => hS.perm.mem_iff.mp (List.mem_filter.mp hp).1
    have lG : (goG S z).length ≤ 32 := Nat.le_trans (List.length_filter_le _ _) (by rw [hS.perm.length_eq]; exact hP.few)
    have nc := no_cause hP hS (z := z)
    have eL' : L.map D.str = (goG S z).map fun p => D.str p.1 := by rw [eL, goG_names, List.map_map]; rfl
    have q' := q S hS
    rw [eL] at q'
    simp only [true_and] at q'
    rw [nc] at q'
    rw [eL']
    generalize goG S z = G at *
    refine lcD_fm (fun p : Str × D => D.str p.1) (fun p => some (.bl (atEnd z p))) G [] _ (fun p hp Q1 Q2 k1 k2 => ?_) (by rw [sizeLine_eq, List.length_nil]; omega) ?_
    · walk_at "dv"
      obtain ⟨a, b, c, d, ek, a0, a1, b0, b1, c0, c1, d0, d1, n1⟩ := hP.st p (hG p hp)
      refine hp_ix hP (s := p.2) (hG p hp) ?_
      rw [ek]
      walk_at "dv"
      refine hp_ix hP (s := p.2) (hG p hp) ?_
      rw [ek]
      walk_at "dv"
      refine ⟨lay_tp _, lay_of (n := 2) (by decide) (fun d hd => ?_), ?_⟩
      · simp only [List.mem_cons, List.not_mem_nil, or_false] at hd
        rcases hd with rfl | rfl
        · intro d hd
          simp only [List.mem_cons, List.not_mem_nil, or_false] at hd
          rcases hd with rfl | rfl <;> exact True.intro
        · intro d hd
          simp only [List.mem_cons, List.not_mem_nil, or_false] at hd
          rcases hd with rfl | rfl <;> exact True.intro
      · refine k1 _ ?_
        have e1 := eqb_tp (s := (a, b)) (t := z)
        have e2 := eqb_tp (s := (c, d)) (t := z)
        simp only [tp] at e1 e2
        simp only [List.any_cons, List.any_nil, Bool.or_false, atEnd, ek, oneSp, twoSp]
        rw [← e1, ← e2]
        rfl
    · walk_at "dv"
      have eA : (G.filterMap fun p => some (D.bl (atEnd z p))) = G.map fun p => D.bl (atEnd z p) := by rw [List.filterMap_eq_map']
      rw [eA]
      refine ⟨by rw [List.all_map, List.all_eq_true]; intro p _; rfl, ?_⟩
      by_cases a1 : ((G.map fun p => D.bl (atEnd z p)).any isT) = true
      · rw [if_pos a1]
        refine q' false ⟨fun h => by simp at h, fun h => ?_⟩
        rw [List.any_map, List.any_eq_true] at a1
        obtain ⟨p, hp, t⟩ := a1
        have := h.1 p hp
        simp only [Function.comp_apply, this] at t
        cases t
      · rw [if_neg a1]
        have nA : ∀ p ∈ G, atEnd z p = false := fun p hp => by
          cases t : atEnd z p with
          | false => rfl
          | true =>
            refine (a1 ?_).elim
            rw [List.any_map, List.any_eq_true]
            exact ⟨p, hp, by simp only [Function.comp_apply, t]; rfl⟩
        refine lc2D_fm (fun p : Str × D => D.str p.1) (fun p => G.filterMap fun q => if ltS p.1 q.1 = true then some (.bl (decide (meetSp p.2 q.2 = some z))) else none) 32 G [] (fun p hp acc K hl hK => ?_) (fun p hp => Nat.le_trans (List.length_filterMap_le _ _) lG) (by rw [sizeLine_eq, List.length_nil]; omega) ?_
        · walk_at "dv"
          refine lcA_fm (fun p : Str × D => D.str p.1) (fun q => if ltS p.1 q.1 = true then some (.bl (decide (meetSp p.2 q.2 = some z))) else none) G acc (fun t ht Q1 Q2 k1 k2 => ?_) (by omega) hK
          walk_at "dv"
          refine ltA_str (hP.ok p (hG p hp)) (hP.ok t (hG t ht)) ?_
          walk_at "dv"
          cases l : ltS p.1 t.1 with
          | false =>
            rw [if_neg (by decide)]
            exact k2 (if_neg (by rw [l]; decide))
          | true =>
            rw [if_pos rfl]
            refine hp_ix hP (s := p.2) (hG p hp) ?_
            walk_at "dv"
            refine hp_ix hP (s := t.2) (hG t ht) ?_
            walk_at "dv"
            exact met_in_ok (hP.st p (hG p hp)) (hP.st t (hG t ht)) (k1 _ (if_pos l))
        · walk_at "dv"
          have allB : (G.flatMap fun p => G.filterMap fun q => if ltS p.1 q.1 = true then some (D.bl (decide (meetSp p.2 q.2 = some z))) else none).all isB = true := by
            rw [List.all_eq_true]
            intro d hd
            obtain ⟨p, _, hd⟩ := List.mem_flatMap.mp hd
            obtain ⟨t, _, e⟩ := List.mem_filterMap.mp hd
            by_cases l : ltS p.1 t.1 = true
            · rw [if_pos l] at e
              cases e
              rfl
            · rw [if_neg l] at e
              cases e
          refine ⟨allB, ?_⟩
          refine q' _ ?_
          rw [Bool.not_eq_true', ← Bool.not_eq_true, List.any_eq_true]
          constructor
          · intro h
            refine ⟨nA, fun p hp t ht l e => h ⟨.bl true, List.mem_flatMap.mpr ⟨p, hp, List.mem_filterMap.mpr ⟨t, ht, ?_⟩⟩, rfl⟩⟩
            rw [if_pos l, decide_eq_true e]
          · rintro h ⟨d, hd, tt⟩
            obtain ⟨p, hp, hd⟩ := List.mem_flatMap.mp hd
            obtain ⟨t, ht, e⟩ := List.mem_filterMap.mp hd
            by_cases l : ltS p.1 t.1 = true
            · rw [if_pos l, decide_eq_false (h.2 p hp t ht l)] at e
              cases e
              cases tt
            · rw [if_neg l] at e
              cases e
  · rw [if_pos (by simpa using e)]
    exact q S hS false ⟨fun h => by simp at h, fun h => (e (eqbs_strs.mpr h.1)).elim⟩
theorem hp_one {P : List (Str × D)} (hP : HeapP P) {n : Str} {s t : D} (h : (n, s) ∈ P) (g : (n, t) ∈ P) : s = t :=
  Option.some.inj ((hp_get hP.nd h).symm.trans (hp_get hP.nd g))
theorem hp_no {P : List (Str × D)} {n : Str} (h : ∀ s, (n, s) ∉ P) : dgetD (hpD P) (.str n) = none := by
  induction P with
  | nil => rfl
  | cons p P ih =>
    have ne : p.1 ≠ n := fun e => h p.2 (by rw [← e]; exact List.mem_cons_self)
    exact (dgetD_neg (by rw [eqb_str]; simpa using ne)).trans (ih fun s z => h s (List.mem_cons_of_mem _ z))
theorem hp_key {P : List (Str × D)} {n : Str} : keyFor (hpD P) (.str n) := .inl ⟨rfl, hp_flt⟩
theorem row_en {P : List (Str × D)} (hP : HeapP P) {n : Str} {s : D} {z : Sp2} {b : Int} (h : (n, s) ∈ P) : RowOf P (z, .en n b) ↔ (z = oneSp s ∧ b = 0) ∨ (z = twoSp s ∧ b = 1) := by
  constructor
  · rintro (⟨⟨n', s'⟩, hp, e | e⟩ | ⟨p, _, q, _, _, s', _, e⟩)
    · cases e
      rw [hp_one hP h hp]
      exact .inl ⟨rfl, rfl⟩
    · cases e
      rw [hp_one hP h hp]
      exact .inr ⟨rfl, rfl⟩
    · cases e
  · rintro (⟨rfl, rfl⟩ | ⟨rfl, rfl⟩)
    · exact .inl ⟨_, h, .inl rfl⟩
    · exact .inl ⟨_, h, .inr rfl⟩
theorem row_cr {P : List (Str × D)} (hP : HeapP P) {n m : Str} {s t : D} {z : Sp2} (h : (n, s) ∈ P) (g : (m, t) ∈ P) : RowOf P (z, .cr n m) ↔ ltS n m = true ∧ meetSp s t = some z := by
  constructor
  · rintro (⟨p, _, e | e⟩ | ⟨⟨n', s'⟩, hp, ⟨m', t'⟩, hq, l, z', e1, e⟩)
    · cases e
    · cases e
    · cases e
      rw [hp_one hP h hp, hp_one hP g hq]
      exact ⟨l, e1⟩
  · rintro ⟨l, e⟩
    exact .inr ⟨_, h, _, g, l, z, e, rfl⟩
theorem row_name {P : List (Str × D)} {z : Sp2} {n : Str} {b : Int} (h : RowOf P (z, .en n b)) : ∃ s, (n, s) ∈ P := by
  rcases h with ⟨⟨n', s'⟩, hp, e | e⟩ | ⟨p, _, q, _, _, s', _, e⟩
  · cases e; exact ⟨_, hp⟩
  · cases e; exact ⟨_, hp⟩
  · cases e
theorem row_names {P : List (Str × D)} {z : Sp2} {n m : Str} (h : RowOf P (z, .cr n m)) : (∃ s, (n, s) ∈ P) ∧ ∃ t, (m, t) ∈ P := by
  rcases h with ⟨p, _, e | e⟩ | ⟨⟨n', s'⟩, hp, ⟨m', t'⟩, hq, _, z', _, e⟩
  · cases e
  · cases e
  · cases e; exact ⟨⟨_, hp⟩, _, hq⟩
/-- the paper of a cause, judged -/
theorem judge_c {P : List (Str × D)} {Q : D → Prop} {z : Sp2} {c : Cs} (hP : HeapP P) (hc : LayN 1 (csD c)) (hb : ∀ n b, c = .en n b → b = 0 ∨ b = 1) (q : ∀ b : Bool, (b = true ↔ RowOf P (z, c)) → Q (.bl b)) : c_judge_heat [.dic (hpD P), tp z, csD c] Q := by
  unfold c_judge_heat
  cases c with
  | en n b =>
    have ok : PyData.strOk n = true := hc (.str n) (List.mem_cons_of_mem _ List.mem_cons_self)
    simp only [csD]
    walk_at "dv"
    refine ⟨lay_str ok_end, lay_str ok_cold, ?_⟩
    rw [if_neg ne_ec]
    refine ⟨hp_key, ?_⟩
    by_cases hn : ∃ s, (n, s) ∈ P
    · obtain ⟨s, hs⟩ := hn
      rw [hp_get hP.nd hs]
      walk_at "dv"
      rw [if_neg (by simp)]
      refine ⟨lay_str ok_end, lay_str ok_end, ?_⟩
      obtain ⟨a, b', c', d, ek, a0, a1, b0, b1, c0, c1, d0, d1, n1⟩ := hP.st _ hs
      refine hp_ix hP hs ?_
      have ek : s = _ := ek
      subst ek
      walk_at "dv"
      refine hp_ix hP hs ?_
      walk_at "dv"
      have rb := row_en hP (z := z) (b := b) hs
      have e1 := eqb_tp (s := z) (t := (a, b'))
      have e2 := eqb_tp (s := z) (t := (c', d))
      rcases hb n b rfl with rfl | rfl
      · walk_at "dv"
        refine ⟨lay_tp _, q _ ?_⟩
        show D.eqb (tp z) (tp (a, b')) = true ↔ _
        rw [e1, decide_eq_true_eq, rb]
        simp [oneSp]
      · walk_at "dv"
        refine ⟨lay_tp _, q _ ?_⟩
        show D.eqb (tp z) (tp (c', d)) = true ↔ _
        rw [e2, decide_eq_true_eq, rb]
        simp [twoSp]
    · rw [hp_no fun s h => hn ⟨s, h⟩]
      walk_at "dv"
      exact q false ⟨fun h => by simp at h, fun h => (hn (row_name h)).elim⟩
  | cr n m =>
    have ok : PyData.strOk n = true := hc (.str n) (List.mem_cons_of_mem _ List.mem_cons_self)
    have ok2 : PyData.strOk m = true := hc (.str m) (List.mem_cons_of_mem _ (List.mem_cons_of_mem _ List.mem_cons_self))
    simp only [csD]
    walk_at "dv"
    refine ⟨lay_str ok_cross, lay_str ok_cold, ?_⟩
    rw [if_neg ne_cc]
    refine ⟨hp_key, ?_⟩
    by_cases hn : ∃ s, (n, s) ∈ P
    · obtain ⟨s, hs⟩ := hn
      rw [hp_get hP.nd hs]
      walk_at "dv"
      rw [if_neg (by simp)]
      refine ⟨lay_str ok_cross, lay_str ok_end, ?_⟩
      rw [if_neg ne_ce]
      refine ⟨hp_key, ?_⟩
      by_cases hm : ∃ t, (m, t) ∈ P
      · obtain ⟨t, ht⟩ := hm
        rw [hp_get hP.nd ht, if_pos (by simp)]
        refine ltA_str ok ok2 ?_
        walk_at "dv"
        have rc := row_cr hP (z := z) hs ht
        by_cases l : ltS n m = true
        · rw [if_pos l]
          refine hp_ix hP hs ?_
          walk_at "dv"
          refine hp_ix hP ht ?_
          walk_at "dv"
          refine met_in_ok (hP.st _ hs) (hP.st _ ht) (q _ ?_)
          rw [decide_eq_true_eq, rc]
          exact ⟨fun e => ⟨l, e⟩, fun e => e.2⟩
        · rw [if_neg l]
          exact q false ⟨fun h => by simp at h, fun h => (l (rc.mp h).1).elim⟩
      · rw [hp_no fun s h => hm ⟨s, h⟩, if_neg (by simp)]
        exact q false ⟨fun h => by simp at h, fun h => (hm (row_names h).2).elim⟩
    · rw [hp_no fun s h => hn ⟨s, h⟩]
      walk_at "dv"
      exact q false ⟨fun h => by simp at h, fun h => (hn (row_names h).1).elim⟩
/-- the paper of a cold square, judged -/
theorem judge_n {P : List (Str × D)} {Q : D → Prop} {z : Sp2} {L : List Str} (hP : HeapP P) (hz : SpB z) (hL : ∀ x ∈ L, PyData.strOk x = true) (q : ∀ S, Ris P S → ∀ b : Bool, (b = true ↔ L = goersS S z ∧ ∀ c, ¬RowOf P (z, c)) → Q (.bl b)) :
    c_judge_heat [.dic (hpD P), tp z, .tup [.str "cold", .tup (L.map D.str)]] Q := by
  unfold c_judge_heat
  walk_at "dv"
  exact ⟨lay_str ok_cold, lay_str ok_cold, cold_right_ok hP hz hL q⟩

/-! ### the program's hot squares -/
/-! ### the squares of all causes, by the strokes alone -/
def spL : List D → List Sp2
  | [] => []
  | s :: r => oneSp s :: twoSp s :: (r.filterMap (meetSp s) ++ spL r)
theorem rows_spL : ∀ S : List (Str × D), (rowsP S).map (·.1) = spL (S.map (·.2))
  | [] => rfl
  | p :: r => by
    have e : (crosses p r).map (·.1) = (r.map (·.2)).filterMap (meetSp p.2) := by
      unfold crosses
      rw [List.map_filterMap, List.filterMap_map]
      congr 1
      funext q
      simp only [Option.map_map, Function.comp_apply]
      cases meetSp p.2 q.2 <;> rfl
    rw [rowsP, List.map_append, List.map_append, rows_spL r, e, List.map_cons, spL]
    rfl
theorem meetSp_c {s t : D} (hs : StrokeOk s) (ht : StrokeOk t) : meetSp t s = meetSp s t := by
  obtain ⟨a, b, c, d, rfl, a0, a1, b0, b1, c0, c1, d0, d1, n1⟩ := hs
  obtain ⟨e, f, g, k, rfl, e0, e1, f0, f1, g0, g1, k0, k1, n2⟩ := ht
  show placeSp _ = placeSp _
  rw [meetD_c n1 n2]
theorem spL_perm {L L' : List D} (h : L.Perm L') : (∀ s ∈ L, StrokeOk s) → (spL L).Perm (spL L') := by
  induction h with
  | nil => intro _; exact .nil
  | cons s p ih =>
    intro hs
    exact ((p.filterMap (meetSp s)).append (ih fun t ht => hs t (List.mem_cons_of_mem _ ht))).cons _ |>.cons _
  | swap a b r =>
    intro hs
    have c := meetSp_c (hs a (List.mem_cons_of_mem _ List.mem_cons_self)) (hs b List.mem_cons_self)
    rw [List.perm_iff_count]
    intro x
    simp only [spL, List.filterMap_cons, c]
    cases meetSp a b <;> simp only [List.count_cons, List.count_append] <;> omega
  | trans p q ih1 ih2 =>
    intro hs
    exact (ih1 hs).trans (ih2 fun t ht => hs t (p.mem_iff.mpr ht))
theorem Cau.spots {P : List (Str × D)} {R : List Row} (hP : HeapP P) (h : Cau P R) : (R.map (·.1)).Perm (spL (P.map (·.2))) := by
  obtain ⟨S, hS, p⟩ := h.of
  refine (p.map (·.1)).trans ?_
  rw [rows_spL]
  refine spL_perm (hS.perm.map (·.2)) fun s hs => ?_
  obtain ⟨q, hq, rfl⟩ := List.mem_map.mp hs
  exact hP.st q (hS.perm.mem_iff.mp hq)
/-! ### tables, calls with keywords, sorted by a lambda key, dict comprehensions: rules -/
theorem e_fnT {T : List (Addr × Str)} {n m : Nat} {t : DS} {ds : List D} {Q : D → Prop} : fnT T n m t ds Q = (ds.length = m ∧ t ⟨k_non Q, Q, k_no, k_no, roL Q⟩ (ds.map Slot.v ++ List.replicate (n - 1 - m) Slot.un ++ [.tb T])) := rfl
theorem e_dCallT {j : Nat} {T : List (Addr × Str)} {f : DSp} {dd : List D} {tr : DA} {ρ : List Slot} {Q : D → Prop} : dCallT j T f dd tr ρ Q = (ρ[j]? = some (.tb T) ∧ tr ρ (k_dCall f dd Q)) := rfl
def k_tk2 (n m : Nat) (f : DSp) (ds : List D) (Q : D → Prop) (zs : List D) : Prop := ds.length = n ∧ zs.length = m ∧ f (ds ++ zs) Q
theorem k_tk2_q {n m : Nat} {f : DSp} {ds : List D} {Q : D → Prop} {zs : List D} : k_tk2 n m f ds Q zs = (ds.length = n ∧ zs.length = m ∧ f (ds ++ zs) Q) := rfl
def k_tk (tk : DA) (ρ : List Slot) (n m : Nat) (f : DSp) (Q : D → Prop) (ds : List D) : Prop := tk ρ (k_tk2 n m f ds Q)
theorem k_tk_q {tk : DA} {ρ : List Slot} {n m : Nat} {f : DSp} {Q : D → Prop} {ds : List D} : k_tk tk ρ n m f Q ds = tk ρ (k_tk2 n m f ds Q) := rfl
theorem e_dCallTK {j n m : Nat} {T : List (Addr × Str)} {f : DSp} {tr tk : DA} {ρ : List Slot} {Q : D → Prop} : dCallTK j T n m f tr tk ρ Q = (ρ[j]? = some (.tb T) ∧ tr ρ (k_tk tk ρ n m f Q)) := rfl
def k_dDc (g : DG) (tt : DT) (tk tv : DE) (ρ : List Slot) (Q : D → Prop) (ds : List D) : Prop := dcD g tt tk tv ρ ds [] Q
theorem k_dDc_q {g : DG} {tt : DT} {tk tv : DE} {ρ : List Slot} {Q : D → Prop} {ds : List D} : k_dDc g tt tk tv ρ Q ds = dcD g tt tk tv ρ ds [] Q := rfl
theorem e_dDc {it : DI} {g : DG} {tt : DT} {tk tv : DE} {vs : List Nat} {ρ : List Slot} {Q : D → Prop} : dDc it g tt tk tv vs ρ Q = it ρ (k_dDc g tt tk tv (wipeD ρ vs) Q) := rfl
def k_sK2 (ds : List D) (Q : D → Prop) (ks : List D) : Prop := KeysOk ks ∧ Q (.lst (sortBy ds ks))
def k_sK (te : DE) (i j : Nat) (T : List (Addr × Str)) (ρ : List Slot) (Q : D → Prop) : D → Prop
  | .lst ds => ρ[j]? = some (.tb T) ∧ keysL te i ρ ds [] (k_sK2 ds Q)
  | _ => False
theorem k_sK_l {te : DE} {i j : Nat} {T : List (Addr × Str)} {ρ : List Slot} {Q : D → Prop} {ds : List D} : k_sK te i j T ρ Q (.lst ds) = (ρ[j]? = some (.tb T) ∧ keysL te i ρ ds [] (k_sK2 ds Q)) := rfl
theorem e_dSortK {t te : DE} {i j : Nat} {T : List (Addr × Str)} {ρ : List Slot} {Q : D → Prop} : dSortK t te i j T ρ Q = t ρ (k_sK te i j T ρ Q) := by
  unfold dSortK
  congr 1
theorem notInTD_t {x : D} {ds : List D} {Q : D → Prop} : notInTD x (.tup ds) Q = (x.lay = true ∧ (D.tup ds).lay = true ∧ Q (.bl (!ds.any fun z => D.eqb z x))) := rfl
/-- rising by the numbers k, stably -/
def byI {α : Type} (k : α → Int) (xs : List α) : List α := xs.mergeSort fun a b => decide (k a ≤ k b)
section
variable {α : Type} {k : α → Int}
theorem leI_tr : ∀ a b c : α, decide (k a ≤ k b) = true → decide (k b ≤ k c) = true → decide (k a ≤ k c) = true := fun a b c h g => by
  simp only [decide_eq_true_eq] at h g ⊢
  omega
theorem leI_to : ∀ a b : α, (decide (k a ≤ k b) || decide (k b ≤ k a)) = true := fun a b => by
  simp only [Bool.or_eq_true, decide_eq_true_eq]
  omega
theorem byI_perm (xs : List α) : (byI k xs).Perm xs := List.mergeSort_perm _ _
theorem mem_byI {xs : List α} {a : α} : a ∈ byI k xs ↔ a ∈ xs := (byI_perm xs).mem_iff
theorem byI_up (xs : List α) : (byI k xs).Pairwise fun a b => k a ≤ k b :=
  (List.pairwise_mergeSort leI_tr leI_to xs).imp fun h => of_decide_eq_true h
end
end DV

namespace DV
open PySem PySem.Spec PyProof.Rows L2
local macro_rules | `(tactic| walk_at "dv") => `(tactic| simp (config := { failIfUnchanged := false, implicitDefEqProofs := false }) only [↓e_fnT, ↓e_dCallT, ↓k_tk2_q, ↓k_tk_q, ↓e_dCallTK, ↓k_dDc_q, ↓e_dDc, ↓k_sK_l, ↓e_dSortK, ↓notInTD_t, ↓k_zipL_q, ↓e_dZipL, ↓k_zip_q, ↓e_iZipD, ↓k_enum_q, ↓e_iEnumD, ↓k_keys_q, ↓e_iKeysD, ↓k_vals_q, ↓e_iValsD, ↓k_items_q, ↓e_iItemsD, ↓k_tru_q, ↓e_dTru, ↓truD_l, ↓truD_t, ↓truD_b, ↓truD_n, ↓k_rev_q, ↓e_sRev, ↓k_clr_q, ↓e_sClr, ↓k_ins3_q, ↓k_ins2_q, ↓k_ins_q, ↓e_sIns, ↓k_move_q, ↓e_sMove, ↓k_lc2_q, ↓e_dLc2, ↓inTD_t, ↓notBD_bb, ↓dictK_d, fgs_n, fgs_c, fg_v, fg_t, fg_u, fg_o, ↓k_rtNl_q, ↓k_sSetO_q, ↓k_sRetO_q, ↓k_nl_q, ↓k_nls_q, ↓k_nlc_q, ↓k_back_q, ↓k_lend_q, ↓k_put2_q, ↓k_put1_q, ↓k_put_q, ↓e_fnO, ↓e_sSetO, ↓e_sRetO, ↓e_dBor, ↓e_dBorO, ↓e_dBorA, ↓e_dBorT, ↓frz_0u, ↓frz_0t, ↓e_sLend, ↓ownK_o, ↓e_sPutD, ↓e_dD0, ↓inKD_d, ↓notInKD_d, ↓k_for_q, ↓e_for_n, ↓e_for_c, ↓k_sAppend1_q, ↓k_sAppend_q, ↓k_sRetOwn_q, ↓k_sPar2_q, ↓k_sPar_q, ↓k_sPar33_q, ↓k_sPar3_q, ↓k_some_q, ↓k_asI_q, ↓k_asS_q, ↓k_rng1_q, ↓k_one_q, ↓k_rng22_q, ↓k_rng21_q, ↓k_rng2_q, ↓k_two_q, ↓k_non_q, ↓k_no_q, ↓k_sSet_q, ↓k_sAsg_q, ↓k_sAsg2_q, ↓k_sIf_q, ↓k_sDrop_q, ↓k_sOwn_q, ↓k_sFor_q, ↓k_gs_q, ↓k_dOp2_q, ↓k_dOp_q, ↓k_dCh4_q, ↓k_dCh3_q, ↓k_dCh2_q, ↓k_dCh1_q, ↓k_dUn_q, ↓k_dTest_q, ↓k_dAnd_q, ↓k_dOr_q, ↓k_dNot_q, ↓k_dAndV_q, ↓k_dOrV_q, ↓k_dIf_q, ↓k_dCons2_q, ↓k_dCons_q, ↓k_dTup_q, ↓k_dLst_q, ↓k_dCall_q, ↓k_dIsi_q, ↓k_dIsi2_q, ↓k_dSl3_q, ↓k_dSl2_q, ↓k_dSl_q, ↓k_dRev_q, ↓k_s3_q, ↓k_s3a_q, ↓k_s3b_q, ↓k_s3c_q, ↓e_dSl3, ↓sl3_r2, ↓sl3_rl, ↓k_dLc_q, ↓k_dB_q, ↓chB_b, ↓tsB_b, ↓dVar_s, ↓ownL_o, ↓ownD_o, ↓roL_l, ↓e_sAppend, ↓e_sRetOwn, ↓two_2, ↓three_3, ↓e_sPar, ↓e_sPar3, ↓asI_i, ↓e_dPart, ↓asS_l, ↓asS_t, ↓e_iSeq, ↓one_1, ↓e_iRng1D, ↓e_iRng2D, ↓wipeD_n, ↓wipeD_c, ↓frz_0, ↓frz_0v, ↓frz_s, ↓e_fnD, ↓e_sSeq, ↓e_sNext, ↓e_sBreak, ↓e_sCont, ↓e_sSet, ↓e_sAsg, ↓e_sAsg2, ↓e_sIf, ↓e_sRet, ↓e_sRetN, ↓e_sDrop, ↓e_sNever, ↓e_sOwn, ↓e_sFrz, ↓e_sFor, ↓e_gN, ↓e_gT_t, ↓e_gsNil_n, ↓e_gsCons_c, ↓e_dVar_0, ↓e_dVar_0t, ↓e_dC, ↓e_dOp, ↓e_dChain, ↓e_dUn, ↓e_dTest, ↓e_dAnd, ↓e_dOr, ↓e_dNot, ↓e_dAndV, ↓e_dOrV, ↓e_dIf, ↓e_dNil, ↓e_dCons, ↓e_dTup, ↓e_dLst, ↓e_dCall, ↓e_dB, ↓e_dIsi, ↓e_dIsi2, ↓e_dSl, ↓e_dRev, ↓e_dNo, ↓e_dYes, ↓e_dLc,
  ↓addD_ii, ↓addD_tt, ↓addD_ll, ↓subD_ii, ↓mulD_ii, ↓fdivD_ii, ↓modD_ii, ↓powD_10_9, ↓powD_10_6, ↓ltA_ii, ↓leA_ii, ↓gtA_ii, ↓geA_ii, ↓ltA_t2, ↓leA_t2, ↓gtA_t2, ↓geA_t2, ↓max2A_ii, ↓min2A_ii, ↓slh4, ↓slt4', ↓max2A_c, ↓min2A_c, ↓revD_l, ↓isNon_n, ↓isNon_t, ↓isNon_l, ↓notNon_n, ↓notNon_t, ↓isBD_bb, ↓negD_i, ↓notD_b, ↓absD_i, ↓intC_i, ↓intC_b, ↓lenD_l, ↓lenD_t, ↓listD_l, ↓listD_t, ↓tupleD_l, ↓tupleD_t, ↓allD_l, ↓anyD_l, ↓ixT0, ↓ixT1, ↓ixT2, ↓ixT3, ↓ixL0, ↓ixL1, ↓ixL2, ↓ixL3, ↓slD_l,
  eqD, neD,  sl0, sl1, sl2, sl3, sl4, sl5, sl6, sl7, sl8, sl9, sl10, sl11, sl12, slt0, slt1, slt2, slt3, slt4, slt5, slt6, slt7, slt8, slt9, slt10, slt11, slt12, lay_i, lay_b, lay_n, lay_t0, lay_l0, lay_t2, lay_t4, eqb_ii, eqb_bb, eqb_ss, eqb_nn, eqb_tt, eqb_ll, eqbs_nn, eqbs_cc, eqbs_nc, eqbs_cn, tag_n, tag_c, tagS_v, tagS_u, tagS_o, tagS_t, back_n, back_c, backS_vt, backS_tt, backS_ot, backS_ut, backS_u, backS_v, backS_l, backS_d, ownS_l, ownS_d, ownS_t, ownS_i, ownS_n, noLst_l, noLst_i, noLst_b, noLst_s, noLst_n, noLst_d, noLst_t, noLsts_n, noLsts_c, nlc_l, nlc_d, nlc_i, nlc_b, nlc_t, tyOk_n, tyOk_b, tyOk_i, tyOk_s, tyOk_t, tyOk_l, isi_n, isi_b, isi_i, isi_s, isi_t, isi_l,
  List.map_cons, List.map_nil, List.cons_append, List.nil_append, List.append_nil, List.append_assoc, List.length_cons, List.length_nil, List.getElem?_cons_zero, List.getElem?_cons_succ, List.set_cons_zero, List.set_cons_succ, List.replicate, Nat.reduceAdd, Nat.reduceSub, Nat.zero_add, Nat.reduceLeDiff, Nat.reduceEqDiff,
  if_true, if_false, true_and, and_true, and_self, Bool.not_true, Bool.not_false, Bool.false_eq_true, Bool.and_true, Bool.true_and, Bool.or_false, Bool.false_or, Bool.or_true, Bool.true_or, decide_eq_true_eq, decide_true, decide_false, beq_self_eq_true, beq_iff_eq, String.reduceEq, reduceIte, reduceCtorEq])
local macro_rules | `(tactic| walk_at "dw") => `(tactic| simp (config := { failIfUnchanged := false, implicitDefEqProofs := false }) only [↓e_fnT, ↓e_dCallT, ↓k_tk2_q, ↓k_tk_q, ↓e_dCallTK, ↓k_dDc_q, ↓e_dDc, ↓k_sK_l, ↓e_dSortK, ↓notInTD_t, ↓k_zipL_q, ↓e_dZipL, ↓k_zip_q, ↓e_iZipD, ↓k_enum_q, ↓e_iEnumD, ↓k_keys_q, ↓e_iKeysD, ↓k_vals_q, ↓e_iValsD, ↓k_items_q, ↓e_iItemsD, ↓k_tru_q, ↓e_dTru, ↓truD_l, ↓truD_t, ↓truD_b, ↓truD_n, ↓k_rev_q, ↓e_sRev, ↓k_clr_q, ↓e_sClr, ↓k_ins3_q, ↓k_ins2_q, ↓k_ins_q, ↓e_sIns, ↓k_move_q, ↓e_sMove, ↓k_lc2_q, ↓e_dLc2, ↓inTD_t, ↓notBD_bb, ↓dictK_d, fgs_n, fgs_c, fg_v, fg_t, fg_u, fg_o, ↓k_rtNl_q, ↓k_sSetO_q, ↓k_sRetO_q, ↓k_nl_q, ↓k_nls_q, ↓k_nlc_q, ↓k_back_q, ↓k_lend_q, ↓k_put2_q, ↓k_put1_q, ↓k_put_q, ↓e_fnO, ↓e_sSetO, ↓e_sRetO, ↓e_dBor, ↓e_dBorO, ↓e_dBorA, ↓e_dBorT, ↓frz_0u, ↓frz_0t, ↓e_sLend, ↓ownK_o, ↓e_sPutD, ↓e_dD0, ↓inKD_d, ↓notInKD_d, ↓k_for_q, ↓k_sAppend1_q, ↓k_sAppend_q, ↓k_sRetOwn_q, ↓k_sPar2_q, ↓k_sPar_q, ↓k_sPar33_q, ↓k_sPar3_q, ↓k_some_q, ↓k_asI_q, ↓k_asS_q, ↓k_rng1_q, ↓k_one_q, ↓k_rng22_q, ↓k_rng21_q, ↓k_rng2_q, ↓k_two_q, ↓k_non_q, ↓k_no_q, ↓k_sSet_q, ↓k_sAsg_q, ↓k_sAsg2_q, ↓k_sIf_q, ↓k_sDrop_q, ↓k_sOwn_q, ↓k_sFor_q, ↓k_gs_q, ↓k_dOp2_q, ↓k_dOp_q, ↓k_dCh4_q, ↓k_dCh3_q, ↓k_dCh2_q, ↓k_dCh1_q, ↓k_dUn_q, ↓k_dTest_q, ↓k_dAnd_q, ↓k_dOr_q, ↓k_dNot_q, ↓k_dAndV_q, ↓k_dOrV_q, ↓k_dIf_q, ↓k_dCons2_q, ↓k_dCons_q, ↓k_dTup_q, ↓k_dLst_q, ↓k_dCall_q, ↓k_dIsi_q, ↓k_dIsi2_q, ↓k_dSl3_q, ↓k_dSl2_q, ↓k_dSl_q, ↓k_dRev_q, ↓k_s3_q, ↓k_s3a_q, ↓k_s3b_q, ↓k_s3c_q, ↓e_dSl3, ↓sl3_r2, ↓sl3_rl, ↓k_dLc_q, ↓k_dB_q, ↓chB_b, ↓tsB_b, ↓dVar_s, ↓ownL_o, ↓ownD_o, ↓roL_l, ↓e_sAppend, ↓e_sRetOwn, ↓two_2, ↓three_3, ↓e_sPar, ↓e_sPar3, ↓asI_i, ↓e_dPart, ↓asS_l, ↓asS_t, ↓e_iSeq, ↓one_1, ↓e_iRng1D, ↓e_iRng2D, ↓wipeD_n, ↓wipeD_c, ↓frz_0, ↓frz_0v, ↓frz_s, ↓e_fnD, ↓e_sSeq, ↓e_sNext, ↓e_sBreak, ↓e_sCont, ↓e_sSet, ↓e_sAsg, ↓e_sAsg2, ↓e_sIf, ↓e_sRet, ↓e_sRetN, ↓e_sDrop, ↓e_sNever, ↓e_sOwn, ↓e_sFrz, ↓e_sFor, ↓e_gN, ↓e_gT_t, ↓e_gsNil_n, ↓e_gsCons_c, ↓e_dVar_0, ↓e_dVar_0t, ↓e_dC, ↓e_dOp, ↓e_dChain, ↓e_dUn, ↓e_dTest, ↓e_dAnd, ↓e_dOr, ↓e_dNot, ↓e_dAndV, ↓e_dOrV, ↓e_dIf, ↓e_dNil, ↓e_dCons, ↓e_dTup, ↓e_dLst, ↓e_dCall, ↓e_dB, ↓e_dIsi, ↓e_dIsi2, ↓e_dSl, ↓e_dRev, ↓e_dNo, ↓e_dYes, ↓e_dLc,
  ↓addD_ii, ↓addD_tt, ↓addD_ll, ↓subD_ii, ↓mulD_ii, ↓fdivD_ii, ↓modD_ii, ↓powD_10_9, ↓powD_10_6, ↓ltA_ii, ↓leA_ii, ↓gtA_ii, ↓geA_ii, ↓ltA_t2, ↓leA_t2, ↓gtA_t2, ↓geA_t2, ↓max2A_ii, ↓min2A_ii, ↓slh4, ↓slt4', ↓max2A_c, ↓min2A_c, ↓revD_l, ↓isNon_n, ↓isNon_t, ↓isNon_l, ↓notNon_n, ↓notNon_t, ↓isBD_bb, ↓negD_i, ↓notD_b, ↓absD_i, ↓intC_i, ↓intC_b, ↓lenD_l, ↓lenD_t, ↓listD_l, ↓listD_t, ↓tupleD_l, ↓tupleD_t, ↓allD_l, ↓anyD_l, ↓ixT0, ↓ixT1, ↓ixT2, ↓ixT3, ↓ixL0, ↓ixL1, ↓ixL2, ↓ixL3, ↓slD_l,
  eqD, neD,  sl0, sl1, sl2, sl3, sl4, sl5, sl6, sl7, sl8, sl9, sl10, sl11, sl12, slt0, slt1, slt2, slt3, slt4, slt5, slt6, slt7, slt8, slt9, slt10, slt11, slt12, lay_i, lay_b, lay_n, lay_t0, lay_l0, lay_t2, lay_t4, eqb_ii, eqb_bb, eqb_ss, eqb_nn, eqb_tt, eqb_ll, eqbs_nn, eqbs_cc, eqbs_nc, eqbs_cn, tag_n, tag_c, tagS_v, tagS_u, tagS_o, tagS_t, back_n, back_c, backS_vt, backS_tt, backS_ot, backS_ut, backS_u, backS_v, backS_l, backS_d, ownS_l, ownS_d, ownS_t, ownS_i, ownS_n, noLst_l, noLst_i, noLst_b, noLst_s, noLst_n, noLst_d, noLst_t, noLsts_n, noLsts_c, nlc_l, nlc_d, nlc_i, nlc_b, nlc_t, tyOk_n, tyOk_b, tyOk_i, tyOk_s, tyOk_t, tyOk_l, isi_n, isi_b, isi_i, isi_s, isi_t, isi_l,
  List.map_cons, List.map_nil, List.cons_append, List.nil_append, List.append_nil, List.append_assoc, List.length_cons, List.length_nil, List.getElem?_cons_zero, List.getElem?_cons_succ, List.set_cons_zero, List.set_cons_succ, List.replicate, Nat.reduceAdd, Nat.reduceSub, Nat.zero_add, Nat.reduceLeDiff, Nat.reduceEqDiff,
  if_true, if_false, true_and, and_true, and_self, Bool.not_true, Bool.not_false, Bool.false_eq_true, Bool.and_true, Bool.true_and, Bool.or_false, Bool.false_or, Bool.or_true, Bool.true_or, decide_eq_true_eq, decide_true, decide_false, beq_self_eq_true, beq_iff_eq, String.reduceEq, reduceIte, reduceCtorEq])
/-! ### bent rows -/
def alI (a b c d : Int) (z : Sp2) : Int := sgn (c - a) * z.1 + sgn (d - b) * z.2
def alS : D → Sp2 → Int
  | .tup [.int a, .int b, .int c, .int d], z => alI a b c d z
  | _, _ => 0
noncomputable def bentL (s : D) (Z : List Sp2) : List Sp2 := byI (alS s) (Z.filter (goB s))
/-! ### all rows -/
/-! ### the heaps of the laws on layings -/
theorem HeapP.flt {P : List (Str × D)} (hP : HeapP P) (p : Str × D → Bool) : HeapP (P.filter p) :=
  ⟨(List.filter_sublist.map _).nodup hP.nd, fun q hq => hP.st q (List.mem_filter.mp hq).1, Nat.le_trans (List.length_filter_le _ _) hP.few, fun q hq => hP.ok q (List.mem_filter.mp hq).1⟩
/-! ### dicts by name -/
/-! ### squares that a stroke goes through, in order along it -/
theorem sgn_p {i : Int} (h : 0 < i) : sgn i = 1 := by
  unfold sgn
  rw [if_pos h, if_neg (by omega)]
  rfl
theorem sgn_n {i : Int} (h : i < 0) : sgn i = -1 := by
  unfold sgn
  rw [if_neg (by omega), if_pos h]
  rfl
theorem sgn_z : sgn 0 = 0 := by
  unfold sgn
  rfl
theorem inX_lo {x dx m p q : Int} (q0 : 0 < q) (p0 : 0 ≤ p) (p1 : p ≤ q) (h : inX x dx m p q) : 0 ≤ sgn dx * (m - x) ∧ 0 ≤ sgn dx * (x + dx - m) ∧ (dx = 0 → m = x) := by
  unfold inX at h
  obtain ⟨h1, h2⟩ := h
  have e1 : 2 * x * q = 2 * (x * q) := by grind
  have e2 : 2 * dx * p = 2 * (dx * p) := by grind
  rcases Int.lt_trichotomy dx 0 with g | g | g
  · rw [sgn_n g]
    have a1 : 0 ≤ (-dx) * p := Int.mul_nonneg (by omega) p0
    have a2 : 0 ≤ (-dx) * (q - p) := Int.mul_nonneg (by omega) (by omega)
    have b1 : (2 * m - 1) * q ≤ (2 * x) * q := by
      have : (-dx) * p = -(dx * p) := by grind
      omega
    have b2 : (2 * x + 2 * dx) * q < (2 * m + 1) * q := by
      have : (-dx) * (q - p) = dx * p - dx * q := by grind
      have : (2 * x + 2 * dx) * q = 2 * (x * q) + 2 * (dx * q) := by grind
      omega
    have c1 := (mul_le_iff q0).mp b1
    have c2 := (mul_lt_iff q0).mp b2
    refine ⟨by omega, by omega, fun z => by omega⟩
  · subst g
    rw [sgn_z]
    rw [Int.mul_zero, Int.zero_mul, Int.add_zero] at h1 h2
    have c1 := (mul_le_iff q0).mp h1
    have c2 := (mul_lt_iff q0).mp h2
    exact ⟨by omega, by omega, fun _ => by omega⟩
  · rw [sgn_p g]
    have a1 : 0 ≤ dx * p := Int.mul_nonneg (by omega) p0
    have a2 : 0 ≤ dx * (q - p) := Int.mul_nonneg (by omega) (by omega)
    have b1 : (2 * x) * q < (2 * m + 1) * q := by omega
    have b2 : (2 * m - 1) * q ≤ (2 * x + 2 * dx) * q := by
      have : dx * (q - p) = dx * q - dx * p := by grind
      have : (2 * x + 2 * dx) * q = 2 * (x * q) + 2 * (dx * q) := by grind
      omega
    have c1 := (mul_lt_iff q0).mp b1
    have c2 := (mul_le_iff q0).mp b2
    refine ⟨by omega, by omega, fun z => by omega⟩
theorem inX_ord {x dx m n p q r u : Int} (q0 : 0 < q) (u0 : 0 < u) (h : inX x dx m p q) (g : inX x dx n r u) (le : p * u ≤ r * q) : 0 ≤ sgn dx * (n - m) := by
  unfold inX at h g
  obtain ⟨h1, h2⟩ := h
  obtain ⟨g1, g2⟩ := g
  have qu : 0 < q * u := Int.mul_pos q0 u0
  have H1 := Int.mul_le_mul_of_nonneg_right h1 (Int.le_of_lt u0)
  have H2 := Int.mul_lt_mul_of_pos_right h2 u0
  have G1 := Int.mul_le_mul_of_nonneg_right g1 (Int.le_of_lt q0)
  have G2 := Int.mul_lt_mul_of_pos_right g2 q0
  have e1 : (2 * x * q + 2 * dx * p) * u = 2 * (x * (q * u)) + 2 * (dx * (p * u)) := by grind
  have e2 : (2 * x * u + 2 * dx * r) * q = 2 * (x * (q * u)) + 2 * (dx * (r * q)) := by grind
  have e3 : (2 * m - 1) * q * u = (2 * m - 1) * (q * u) := by grind
  have e4 : (2 * m + 1) * q * u = (2 * m + 1) * (q * u) := by grind
  have e5 : (2 * n - 1) * u * q = (2 * n - 1) * (q * u) := by grind
  have e6 : (2 * n + 1) * u * q = (2 * n + 1) * (q * u) := by grind
  rw [e1] at H1 H2
  rw [e2] at G1 G2
  rw [e3] at H1
  rw [e4] at H2
  rw [e5] at G1
  rw [e6] at G2
  rcases Int.lt_trichotomy dx 0 with k | k | k
  · rw [sgn_n k]
    have : 0 ≤ (-dx) * (r * q - p * u) := Int.mul_nonneg (by omega) (by omega)
    have : (-dx) * (r * q - p * u) = dx * (p * u) - dx * (r * q) := by grind
    have : (2 * n - 1) * (q * u) < (2 * m + 1) * (q * u) := by omega
    have := (mul_lt_iff qu).mp this
    omega
  · subst k
    rw [sgn_z]
    omega
  · rw [sgn_p k]
    have : 0 ≤ dx * (r * q - p * u) := Int.mul_nonneg (by omega) (by omega)
    have : dx * (r * q - p * u) = dx * (r * q) - dx * (p * u) := by grind
    have : (2 * m - 1) * (q * u) < (2 * n + 1) * (q * u) := by omega
    have := (mul_lt_iff qu).mp this
    omega
/-- between the ends, by the stroke's own directions -/
theorem goes_lo {a b c d m n : Int} (h : GoesP a b c d m n) : (0 ≤ sgn (c - a) * (m - a) ∧ 0 ≤ sgn (c - a) * (c - m) ∧ (c = a → m = a)) ∧ 0 ≤ sgn (d - b) * (n - b) ∧ 0 ≤ sgn (d - b) * (d - n) ∧ (d = b → n = b) := by
  obtain ⟨p, q, q0, p0, p1, h1, h2⟩ := h
  obtain ⟨a1, a2, a3⟩ := inX_lo q0 p0 p1 h1
  obtain ⟨b1, b2, b3⟩ := inX_lo q0 p0 p1 h2
  rw [show a + (c - a) - m = c - m by omega] at a2
  rw [show b + (d - b) - n = d - n by omega] at b2
  exact ⟨⟨a1, a2, fun e => a3 (by omega)⟩, b1, b2, fun e => b3 (by omega)⟩
theorem goes_ord {a b c d m n k l : Int} (h : GoesP a b c d m n) (g : GoesP a b c d k l) : (0 ≤ sgn (c - a) * (k - m) ∧ 0 ≤ sgn (d - b) * (l - n)) ∨ (0 ≤ sgn (c - a) * (m - k) ∧ 0 ≤ sgn (d - b) * (n - l)) := by
  obtain ⟨p, q, q0, p0, p1, h1, h2⟩ := h
  obtain ⟨r, u, u0, r0, r1, g1, g2⟩ := g
  rcases Int.le_total (p * u) (r * q) with le | le
  · exact .inl ⟨inX_ord q0 u0 h1 g1 le, inX_ord q0 u0 h2 g2 le⟩
  · exact .inr ⟨inX_ord u0 q0 g1 h1 le, inX_ord u0 q0 g2 h2 le⟩
theorem sgn_ne {i : Int} (h : i ≠ 0) : sgn i = 1 ∨ sgn i = -1 := by
  rcases Int.lt_trichotomy i 0 with g | g | g
  · exact .inr (sgn_n g)
  · exact absurd g h
  · exact .inl (sgn_p g)
theorem sgn_0 {i m k : Int} (h : sgn i * (k - m) = 0) (g : i = 0 → m = k) : m = k := by
  by_cases e : i = 0
  · exact g e
  · rcases sgn_ne e with s | s <;> rw [s] at h <;> omega
theorem alI_eq {a b c d : Int} {z w : Sp2} : alI a b c d w - alI a b c d z = sgn (c - a) * (w.1 - z.1) + sgn (d - b) * (w.2 - z.2) := by
  unfold alI
  grind
theorem al_le {a b c d : Int} {z w : Sp2} (h : GoesP a b c d z.1 z.2) (g : GoesP a b c d w.1 w.2) (le : alI a b c d z ≤ alI a b c d w) : 0 ≤ sgn (c - a) * (w.1 - z.1) ∧ 0 ≤ sgn (d - b) * (w.2 - z.2) := by
  have e := alI_eq (a := a) (b := b) (c := c) (d := d) (z := z) (w := w)
  rcases goes_ord h g with r | ⟨r1, r2⟩
  · exact r
  · have e1 : sgn (c - a) * (z.1 - w.1) = -(sgn (c - a) * (w.1 - z.1)) := by grind
    have e2 : sgn (d - b) * (z.2 - w.2) = -(sgn (d - b) * (w.2 - z.2)) := by grind
    omega
theorem al_inj {a b c d : Int} {z w : Sp2} (h : GoesP a b c d z.1 z.2) (g : GoesP a b c d w.1 w.2) (e : alI a b c d z = alI a b c d w) : z = w := by
  have e0 := alI_eq (a := a) (b := b) (c := c) (d := d) (z := z) (w := w)
  obtain ⟨l1, l2⟩ := al_le h g (Int.le_of_eq e)
  have z1 : sgn (c - a) * (w.1 - z.1) = 0 := by omega
  have z2 : sgn (d - b) * (w.2 - z.2) = 0 := by omega
  obtain ⟨⟨_, _, h1⟩, _, _, h2⟩ := goes_lo h
  obtain ⟨⟨_, _, g1⟩, _, _, g2⟩ := goes_lo g
  exact Prod.ext (sgn_0 z1 fun k => by rw [h1 (by omega), g1 (by omega)]) (sgn_0 z2 fun k => by rw [h2 (by omega), g2 (by omega)])
/-! ### a bent row: from end to end, along the stroke -/
theorem mem_bent {s : D} {Z : List Sp2} {z : Sp2} : z ∈ bentL s Z ↔ z ∈ Z ∧ goB s z = true := by
  unfold bentL
  rw [mem_byI, List.mem_filter]
theorem bent_up {s : D} {Z : List Sp2} : (bentL s Z).Pairwise fun z w => alS s z ≤ alS s w := byI_up _
theorem alS_min {s : D} (hs : StrokeOk s) {z : Sp2} (h : goB s z = true) : alS s (oneSp s) ≤ alS s z ∧ alS s z ≤ alS s (twoSp s) := by
  obtain ⟨a, b, c, d, rfl, _⟩ := hs
  obtain ⟨⟨h1, h2, _⟩, h3, h4, _⟩ := goes_lo (goB_iff.mp h)
  have e1 := alI_eq (a := a) (b := b) (c := c) (d := d) (z := (a, b)) (w := z)
  have e2 := alI_eq (a := a) (b := b) (c := c) (d := d) (z := z) (w := (c, d))
  have e1 : alI a b c d z - alI a b c d (a, b) = sgn (c - a) * (z.1 - a) + sgn (d - b) * (z.2 - b) := e1
  have e2 : alI a b c d (c, d) - alI a b c d z = sgn (c - a) * (c - z.1) + sgn (d - b) * (d - z.2) := e2
  show alI a b c d (a, b) ≤ alI a b c d z ∧ alI a b c d z ≤ alI a b c d (c, d)
  omega
theorem alS_inj {s : D} (hs : StrokeOk s) {z w : Sp2} (h : goB s z = true) (g : goB s w = true) (e : alS s z = alS s w) : z = w := by
  obtain ⟨a, b, c, d, rfl, _⟩ := hs
  exact al_inj (goB_iff.mp h) (goB_iff.mp g) e
theorem bent_head {s : D} {Z : List Sp2} (hs : StrokeOk s) (h : oneSp s ∈ Z) : ∃ r, bentL s Z = oneSp s :: r := by
  have m : oneSp s ∈ bentL s Z := mem_bent.mpr ⟨h, (goes_end hs).1⟩
  have up := bent_up (s := s) (Z := Z)
  have gb : ∀ z ∈ bentL s Z, goB s z = true := fun z hz => (mem_bent.mp hz).2
  cases e : bentL s Z with
  | nil => rw [e] at m; cases m
  | cons x r =>
    rw [e] at m up gb
    have gx := gb x List.mem_cons_self
    have le : alS s x ≤ alS s (oneSp s) := by
      rcases List.mem_cons.mp m with q | q
      · rw [q]; omega
      · exact (List.pairwise_cons.mp up).1 _ q
    have := alS_inj hs gx (goes_end hs).1 (by have := (alS_min hs gx).1; omega)
    exact ⟨r, by rw [this]⟩
theorem bent_last {s : D} {Z : List Sp2} (hs : StrokeOk s) (h : twoSp s ∈ Z) : ∃ r, bentL s Z = r ++ [twoSp s] := by
  have m : twoSp s ∈ bentL s Z := mem_bent.mpr ⟨h, (goes_end hs).2⟩
  have up := bent_up (s := s) (Z := Z)
  have gb : ∀ z ∈ bentL s Z, goB s z = true := fun z hz => (mem_bent.mp hz).2
  have ne : bentL s Z ≠ [] := fun z => by rw [z] at m; cases m
  have e := (List.dropLast_concat_getLast ne).symm
  rw [e] at m up gb
  have gx := gb _ (List.mem_append_right _ List.mem_cons_self)
  have le : alS s (twoSp s) ≤ alS s ((bentL s Z).getLast ne) := by
    rcases List.mem_append.mp m with q | q
    · exact (List.pairwise_append.mp up).2.2 _ q _ List.mem_cons_self
    · rw [List.mem_singleton] at q
      rw [← q]
      omega
  have := alS_inj hs gx (goes_end hs).2 (by have := (alS_min hs gx).2; omega)
  exact ⟨(bentL s Z).dropLast, by rw [← this]; exact e⟩
/-! ### places near a stroke -/
/-- a place of the stroke no more than R halves away from (X/K, Y/K), in x and in y -/
def NearS (a b c d R K X Y : Int) : Prop := ∃ p q : Int, 0 < q ∧ 0 ≤ p ∧ p ≤ q ∧ ((2 * X - R * K) * q ≤ 2 * K * (a * q + (c - a) * p) ∧ 2 * K * (a * q + (c - a) * p) ≤ (2 * X + R * K) * q) ∧
  (2 * Y - R * K) * q ≤ 2 * K * (b * q + (d - b) * p) ∧ 2 * K * (b * q + (d - b) * p) ≤ (2 * Y + R * K) * q
/-! ### the law's own: whether the stroke comes so near -/
/-! ### rows laid again: what they are -/
/-- w is ahead of u, in the directions x and y -/
def Fwd (x y : Int) (u w : Sp2) : Prop := u ≠ w ∧ 0 ≤ x * (w.1 - u.1) ∧ 0 ≤ y * (w.2 - u.2) ∧ (x = 0 → w.1 = u.1) ∧ (y = 0 → w.2 = u.2)
theorem fwd_0 {x a b : Int} (h : 0 ≤ x * (b - a)) (g : 0 ≤ x * (a - b)) (z : x = 0 → b = a) : b = a := by
  by_cases e : x = 0
  · exact z e
  · have e1 : x * (a - b) = -(x * (b - a)) := by grind
    have : x * (b - a) = 0 := by omega
    rcases Int.mul_eq_zero.mp this with k | k
    · exact absurd k e
    · omega
theorem Fwd.trans {x y : Int} {u v w : Sp2} (h : Fwd x y u v) (g : Fwd x y v w) : Fwd x y u w := by
  obtain ⟨h0, h1, h2, h3, h4⟩ := h
  obtain ⟨g0, g1, g2, g3, g4⟩ := g
  refine ⟨fun e => ?_, ?_, ?_, fun z => (g3 z).trans (h3 z), fun z => (g4 z).trans (h4 z)⟩
  · subst e
    exact h0 (Prod.ext (fwd_0 h1 g1 h3).symm (fwd_0 h2 g2 h4).symm)
  · rw [show x * (w.1 - u.1) = x * (w.1 - v.1) + x * (v.1 - u.1) by grind]
    omega
  · rw [show y * (w.2 - u.2) = y * (w.2 - v.2) + y * (v.2 - u.2) by grind]
    omega
theorem sgn_zero {i : Int} (h : sgn i = 0) : i = 0 := by
  rcases Int.lt_trichotomy i 0 with g | g | g
  · rw [sgn_n g] at h; omega
  · exact g
  · rw [sgn_p g] at h; omega
theorem bent_nd {s : D} {Y : List Sp2} (nd : Y.Nodup) : (bentL s Y).Nodup := (byI_perm _).nodup_iff.mpr (nd.filter _)
theorem bent_fwd {a b c d : Int} {Y : List Sp2} (nd : Y.Nodup) : (bentL (.tup [.int a, .int b, .int c, .int d]) Y).Pairwise (Fwd (sgn (c - a)) (sgn (d - b))) := by
  have p := List.Pairwise.and (bent_up (s := .tup [.int a, .int b, .int c, .int d]) (Z := Y)) (bent_nd (s := .tup [.int a, .int b, .int c, .int d]) nd)
  refine List.Pairwise.imp_of_mem (fun {u w} hu hw h => ?_) p
  have gu := goB_iff.mp (mem_bent.mp hu).2
  have gw := goB_iff.mp (mem_bent.mp hw).2
  obtain ⟨l1, l2⟩ := al_le gu gw h.1
  obtain ⟨⟨_, _, u1⟩, _, _, u2⟩ := goes_lo gu
  obtain ⟨⟨_, _, w1⟩, _, _, w2⟩ := goes_lo gw
  exact ⟨h.2, l1, l2, fun z => by have := sgn_zero z; rw [u1 (by omega), w1 (by omega)], fun z => by have := sgn_zero z; rw [u2 (by omega), w2 (by omega)]⟩
/-- a row of a stroke, its spots among Z -/
structure RowIs (s : D) (Z : List Sp2) (L : List Sp2) : Prop where
  up : match s with
    | .tup [.int a, .int b, .int c, .int d] => L.Pairwise (Fwd (sgn (c - a)) (sgn (d - b)))
    | _ => False
  sub : ∀ z ∈ L, z ∈ Z
  one : ∃ r, L = oneSp s :: r
  two : ∃ r, L = r ++ [twoSp s]
theorem RowIs.nd {s : D} {Z L : List Sp2} (h : RowIs s Z L) (hs : StrokeOk s) : L.Nodup := by
  obtain ⟨a, b, c, d, rfl, _⟩ := hs
  have u : L.Pairwise (Fwd (sgn (c - a)) (sgn (d - b))) := h.up
  exact u.imp fun k => k.1
theorem RowIs.len {s : D} {Z L : List Sp2} (h : RowIs s Z L) (hs : StrokeOk s) : 2 ≤ L.length ∧ L.length ≤ Z.length := by
  refine ⟨?_, nd_len (h.nd hs) h.sub⟩
  obtain ⟨r1, e1⟩ := h.one
  obtain ⟨r2, e2⟩ := h.two
  obtain ⟨a, b, c, d, rfl, a0, a1, b0, b1, c0, c1, d0, d1, n1⟩ := hs
  cases r1 with
  | nil =>
    rw [e1] at e2
    cases r2 with
    | nil =>
      simp only [List.nil_append, List.cons.injEq, and_true] at e2
      exact absurd ⟨(congrArg Prod.fst e2).symm, (congrArg Prod.snd e2).symm⟩ n1
    | cons x r2 => simp at e2
  | cons x r1 =>
    rw [e1]
    simp
theorem RowIs.first {s : D} {Z : List Sp2} (hs : StrokeOk s) (nd : Z.Nodup) (h1 : oneSp s ∈ Z) (h2 : twoSp s ∈ Z) : RowIs s Z (bentL s Z) := by
  refine ⟨?_, fun z hz => (mem_bent.mp hz).1, bent_head hs h1, bent_last hs h2⟩
  obtain ⟨a, b, c, d, rfl, _⟩ := hs
  exact bent_fwd nd
/-! ### how far from the stroke -/
theorem NearS.more {a b c d R m n : Int} (h : NearS a b c d R 1 m n) : NearS a b c d (R + 1) 1 m n := by
  obtain ⟨P, Q, Q0, P0, P1, ⟨c1, c2⟩, c3, c4⟩ := h
  have e1 : ∀ x : Int, (2 * x - (R + 1) * 1) * Q = (2 * x - R * 1) * Q - Q := fun x => by grind
  have e2 : ∀ x : Int, (2 * x + (R + 1) * 1) * Q = (2 * x + R * 1) * Q + Q := fun x => by grind
  refine ⟨P, Q, Q0, P0, P1, ⟨?_, ?_⟩, ?_, ?_⟩
  · rw [e1]; omega
  · rw [e2]; omega
  · rw [e1]; omega
  · rw [e2]; omega
/-! ### readings: laid again, laid until they rest -/
def pairD (p : Sp2 × Sp2) : D := .tup [tp p.1, tp p.2]
/-! ### the spots of a laying, each once; a bent row is told by which spots there are -/
def dd : List Sp2 → List Sp2
  | [] => []
  | x :: r => if x ∈ dd r then dd r else x :: dd r
/-! ### until they rest -/
/-! ### the law's own likeness, dicts too -/
/-! ### the law's own bending of a step that is at rest -/
/-! ### a laying at rest -/
/-! ### sets of spots, of any number -/
/-! ### the three ways -/
theorem bent_strict {s : D} {Z : List Sp2} (hs : StrokeOk s) (nd : Z.Nodup) : (bentL s Z).Pairwise fun z w => alS s z < alS s w := by
  have n2 : (bentL s Z).Nodup := (byI_perm _).nodup_iff.mpr (nd.filter _)
  refine (List.Pairwise.and bent_up n2).imp_of_mem fun {z w} hz hw h => ?_
  have g1 := (mem_bent.mp hz).2
  have g2 := (mem_bent.mp hw).2
  have ne : alS s z ≠ alS s w := fun e => h.2 (alS_inj hs g1 g2 e)
  have := h.1
  omega
/-! ### pieces -/
def mnS (p : Sp2 × Sp2) : Sp2 := (mnx p.1.1 p.1.2 p.2.1 p.2.2, mny p.1.1 p.1.2 p.2.1 p.2.2)
def mxS (p : Sp2 × Sp2) : Sp2 := (mxx p.1.1 p.1.2 p.2.1 p.2.2, mxy p.1.1 p.1.2 p.2.1 p.2.2)
/-- a step's piece -/
def pcS (p : Sp2 × Sp2) : Sp2 × Sp2 := (mnS p, mxS p)
/-- the steps of a row -/
def stepsR (L : List Sp2) : List (Sp2 × Sp2) := L.zip L.tail
theorem pairD_inj {p q : Sp2 × Sp2} (h : pairD p = pairD q) : p = q := by
  unfold pairD at h
  simp only [D.tup.injEq, List.cons.injEq, and_true] at h
  exact Prod.ext (tp_inj h.1) (tp_inj h.2)
theorem pairD_nt {p q : Sp2 × Sp2} (h : (pairD p).nt = (pairD q).nt) : p = q := by
  unfold pairD at h
  simp only [D.nt, D.nts, NestedKey.tup.injEq, List.cons.injEq, and_true] at h
  exact Prod.ext (tp_nt h.1) (tp_nt h.2)
theorem srt_pairs {L : List (Sp2 × Sp2)} : SrtD (L.map pairD) := by
  refine ⟨⟨⟨4, fun k hk => ?_⟩, fun k hk j hj => ?_, fun k hk => ?_⟩, fun d hd => ?_⟩
  · obtain ⟨d, hd, rfl⟩ := List.mem_map.mp hk
    obtain ⟨x, _, rfl⟩ := List.mem_map.mp hd
    simp [pairD, tp, D.nt, D.nts, kindN]
  · obtain ⟨d, hd, rfl⟩ := List.mem_map.mp hk
    obtain ⟨x, _, rfl⟩ := List.mem_map.mp hd
    obtain ⟨e, he, rfl⟩ := List.mem_map.mp hj
    obtain ⟨y, _, rfl⟩ := List.mem_map.mp he
    have l1 := lok_pair (a := x.1.1) (b := x.1.2) (c := y.1.1) (d := y.1.2)
    have l2 := lok_pair (a := x.2.1) (b := x.2.2) (c := y.2.1) (d := y.2.2)
    show LOks [(tp x.1).nt, (tp x.2).nt] [(tp y.1).nt, (tp y.2).nt]
    simp only [LOks]
    exact ⟨fun _ => ⟨fun _ => True.intro, fun _ => l2⟩, fun _ => l1⟩
  · obtain ⟨d, hd, rfl⟩ := List.mem_map.mp hk
    obtain ⟨x, _, rfl⟩ := List.mem_map.mp hd
    simp [pairD, tp, D.nt, D.nts, NestedKey.depth, NestedKey.depthAll]
  · obtain ⟨x, _, rfl⟩ := List.mem_map.mp hd
    simp [pairD, tp, D.srt, D.srts]
/-- the pieces of a laying, rising -/
structure PcOk (LL : List (List Sp2)) (Y : List (Sp2 × Sp2)) : Prop where
  nd : Y.Nodup
  mem : ∀ p, p ∈ Y ↔ ∃ L ∈ LL, ∃ t ∈ stepsR L, p = pcS t
  up : (Y.map pairD).Pairwise fun a b => ltN b.nt a.nt = false
theorem PcOk.uniq {LL MM : List (List Sp2)} {Y Z : List (Sp2 × Sp2)} (h : PcOk LL Y) (g : PcOk MM Z) (e : ∀ p : Sp2 × Sp2, (∃ L ∈ LL, ∃ t ∈ stepsR L, p = pcS t) ↔ ∃ L ∈ MM, ∃ t ∈ stepsR L, p = pcS t) : Y = Z := by
  have p : Y.Perm Z := (List.perm_ext_iff_of_nodup h.nd g.nd).mpr fun s => (h.mem s).trans ((e s).trans (g.mem s).symm)
  have := sortTo_uniq (xs := Y.map pairD) (xs' := Z.map pairD) srt_pairs (fun a ha b hb e => by
    obtain ⟨x, _, rfl⟩ := List.mem_map.mp ha
    obtain ⟨y, _, rfl⟩ := List.mem_map.mp hb
    rw [pairD_nt e]) (p.map pairD) ⟨.refl _, h.up⟩ ⟨.refl _, g.up⟩
  exact (List.map_inj_right fun a b z => pairD_inj z).mp this
/-! ### heaps moved, exchanged, turned about: hot squares and bent rows -/
/-! ### pieces of rows -/
theorem pcS_swap (t : Sp2 × Sp2) : pcS (t.2, t.1) = pcS t := by
  unfold pcS mnS mxS
  dsimp only
  rw [mnx_c, mny_c, mxx_c, mxy_c]
/-- the pieces of a heap's rows, told by the strokes alone -/
structure PcH (L : List D) (Z : List Sp2) (Y : List (Sp2 × Sp2)) : Prop where
  nd : Y.Nodup
  mem : ∀ p, p ∈ Y ↔ ∃ s ∈ L, ∃ t ∈ stepsR (bentL s Z), p = pcS t
  up : (Y.map pairD).Pairwise fun a b => ltN b.nt a.nt = false
theorem pairs_uniq {Y W : List (Sp2 × Sp2)} (n1 : Y.Nodup) (n2 : W.Nodup) (u1 : (Y.map pairD).Pairwise fun a b => ltN b.nt a.nt = false) (u2 : (W.map pairD).Pairwise fun a b => ltN b.nt a.nt = false) (e : ∀ p, p ∈ Y ↔ p ∈ W) : Y = W := by
  have p : Y.Perm W := (List.perm_ext_iff_of_nodup n1 n2).mpr e
  have := sortTo_uniq (xs := Y.map pairD) (xs' := W.map pairD) srt_pairs (fun a ha b hb e => by
    obtain ⟨x, _, rfl⟩ := List.mem_map.mp ha
    obtain ⟨y, _, rfl⟩ := List.mem_map.mp hb
    rw [pairD_nt e]) (p.map pairD) ⟨.refl _, u1⟩ ⟨.refl _, u2⟩
  exact (List.map_inj_right fun a b z => pairD_inj z).mp this
theorem PcH.uniq {L L' : List D} {Z : List Sp2} {Y W : List (Sp2 × Sp2)} (h : PcH L Z Y) (g : PcH L' Z W) (e : ∀ s, s ∈ L ↔ s ∈ L') : Y = W :=
  pairs_uniq h.nd g.nd h.up g.up fun p => by
    rw [h.mem, g.mem]
    exact exists_congr fun s => and_congr_left fun _ => e s
end DV

namespace Pl
abbrev P2 := Int × Int
def InR (m : Int) (x : Rat) : Prop := (m : Rat) - 1/2 ≤ x ∧ x < (m : Rat) + 1/2
theorem near_ex (x : Rat) : ∃ m : Int, InR m x := by
  refine ⟨(x + 1/2).floor, ?_, ?_⟩
  · have := Rat.floor_le (x + 1/2)
    grind
  · have := Rat.lt_floor_add_one (x + 1/2)
    grind
theorem c1 {i j : Int} (h : i < j) : (i : Rat) + 1 ≤ (j : Rat) := by
  have h2 : ((i + 1 : Int) : Rat) ≤ (j : Rat) := Rat.intCast_le_intCast.mpr h
  rw [Rat.intCast_add] at h2
  exact h2
theorem InR.lt {i j : Int} {x y : Rat} (h : InR i x) (g : InR j y) (e : i < j) : x < y := by
  have := c1 e
  unfold InR at *
  grind
theorem InR.uniq {i j : Int} {x : Rat} (h : InR i x) (g : InR j x) : i = j := by
  rcases Int.lt_trichotomy i j with e | e | e
  · have := h.lt g e
    grind
  · exact e
  · have := g.lt h e
    grind
theorem InR.lo {i j : Int} {x : Rat} (h : InR i x) (g : (j : Rat) - 1/2 ≤ x) : j ≤ i := by
  apply Int.not_lt.mp
  intro e
  have := c1 e
  unfold InR at *
  grind
theorem InR.hi {i j : Int} {x : Rat} (h : InR i x) (g : x < (j : Rat) + 1/2) : i ≤ j := by
  apply Int.not_lt.mp
  intro e
  have := c1 e
  unfold InR at *
  grind
theorem mulm {a x y : Rat} (h : 0 ≤ a) (e : x ≤ y) : a * x ≤ a * y := Rat.mul_le_mul_of_nonneg_left e h
theorem mulp {a x y : Rat} (h : 0 < a) (e : x < y) : a * x < a * y := Rat.mul_lt_mul_of_pos_left e h
theorem muln {a x y : Rat} (h : a ≤ 0) (e : x ≤ y) : a * y ≤ a * x := by
  have := mulm (a := -a) (by grind) e
  grind
theorem mulnp {a x y : Rat} (h : a < 0) (e : x < y) : a * y < a * x := by
  have := mulp (a := -a) (by grind) e
  grind
theorem ivt {k m u v y : Rat} (huv : u ≤ v) (h1 : k * u + m ≤ y) (h2 : y ≤ k * v + m) : ∃ x, u ≤ x ∧ x ≤ v ∧ k * x + m = y := by
  by_cases hk : 0 < k
  · refine ⟨(y - m) / k, ?_, ?_, ?_⟩
    · have e : k * ((y - m) / k) = y - m := by grind
      apply Rat.not_lt.mp
      intro l
      have := mulp hk l
      grind
    · have e : k * ((y - m) / k) = y - m := by grind
      apply Rat.not_lt.mp
      intro l
      have := mulp hk l
      grind
    · grind
  · have := muln (a := k) (by grind) huv
    exact ⟨u, by grind, huv, by grind⟩
theorem ivt' {k m u v y : Rat} (huv : u ≤ v) (h1 : y ≤ k * u + m) (h2 : k * v + m ≤ y) : ∃ x, u ≤ x ∧ x ≤ v ∧ k * x + m = y := by
  obtain ⟨x, a, b, c⟩ := ivt (k := -k) (m := -m) (y := -y) huv (by grind) (by grind)
  exact ⟨x, a, b, by grind⟩
/-- the graph of a stroke that isn't upright -/
structure Gr where
  k : Rat
  m : Rat
  lo : Rat
  hi : Rat
def Gr.at (f : Gr) (x : Rat) : Rat := f.k * x + f.m
def Gr.Go (f : Gr) (z : P2) : Prop := ∃ x, f.lo ≤ x ∧ x ≤ f.hi ∧ InR z.1 x ∧ InR z.2 (f.at x)
theorem strip {f : Gr} {z : P2} (he : ∀ x, InR z.1 x → f.lo ≤ x ∧ x ≤ f.hi) (ng : ¬f.Go z) : (∀ x, InR z.1 x → f.at x < (z.2 : Rat) - 1/2) ∨ ∀ x, InR z.1 x → (z.2 : Rat) + 1/2 ≤ f.at x := by
  have no : ∀ x, InR z.1 x → f.at x < (z.2 : Rat) - 1/2 ∨ (z.2 : Rat) + 1/2 ≤ f.at x := fun x hx => by
    by_cases h : f.at x < (z.2 : Rat) - 1/2
    · exact .inl h
    · right
      apply Rat.not_lt.mp
      intro h2
      exact ng ⟨x, (he x hx).1, (he x hx).2, hx, by grind, h2⟩
  by_cases c : ∃ x, InR z.1 x ∧ f.at x < (z.2 : Rat) - 1/2
  · left
    obtain ⟨x0, i0, l0⟩ := c
    intro x hx
    rcases no x hx with h | h
    · exact h
    · exfalso
      have key : ∃ x', InR z.1 x' ∧ f.at x' = (z.2 : Rat) - 1/2 := by
        unfold Gr.at at *
        rcases Rat.le_total (a := x0) (b := x) with e | e
        · obtain ⟨x', e1, e2, e3⟩ := ivt (k := f.k) (m := f.m) (y := (z.2 : Rat) - 1/2) e (by grind) (by grind)
          exact ⟨x', by unfold InR at *; grind, e3⟩
        · obtain ⟨x', e1, e2, e3⟩ := ivt' (k := f.k) (m := f.m) (y := (z.2 : Rat) - 1/2) e (by grind) (by grind)
          exact ⟨x', by unfold InR at *; grind, e3⟩
      obtain ⟨x', i', e'⟩ := key
      rcases no x' i' with h | h <;> grind
  · right
    intro x hx
    rcases no x hx with h | h
    · exact absurd ⟨x, hx, h⟩ c
    · exact h
theorem strip_in {f : Gr} {a b : P2} {i : Int} (ga : f.Go a) (gb : f.Go b) (h1 : a.1 < i) (h2 : i < b.1) : ∀ x, InR i x → f.lo ≤ x ∧ x ≤ f.hi := fun x hx => by
  obtain ⟨xa, a1, a2, a3, a4⟩ := ga
  obtain ⟨xb, b1, b2, b3, b4⟩ := gb
  have := a3.lt hx h1
  have := hx.lt b3 h2
  grind
/-- a place of the stroke a half at most from the step's -/
theorem amid {f : Gr} {a b : P2} {i : Int} {kp : Rat} (ga : f.Go a) (gb : f.Go b) (h1 : a.1 < i) (h2 : i < b.1) (hp : kp * ((b.1 : Rat) - a.1) = (b.2 : Rat) - a.2) : ∃ x, InR i x ∧ f.at x < (a.2 : Rat) + kp * ((i : Rat) - a.1) + 1/2 ∧ (a.2 : Rat) + kp * ((i : Rat) - a.1) - 1/2 ≤ f.at x := by
  obtain ⟨xa, a1, a2, a3, a4⟩ := ga
  obtain ⟨xb, b1, b2, b3, b4⟩ := gb
  have e1 := c1 h1
  have e2 := c1 h2
  have hd : (0 : Rat) < (b.1 : Rat) - a.1 := by grind
  have ⟨t, ht, t0, t1⟩ : ∃ t : Rat, t * ((b.1 : Rat) - a.1) = (i : Rat) - a.1 ∧ 0 ≤ t ∧ 0 ≤ 1 - t := by
    have e : (((i : Rat) - a.1) / ((b.1 : Rat) - a.1)) * ((b.1 : Rat) - a.1) = (i : Rat) - a.1 := by grind
    refine ⟨_, e, ?_, ?_⟩
    · apply Rat.not_lt.mp
      intro l
      have := mulp hd l
      grind
    · apply Rat.not_lt.mp
      intro l
      have := mulp hd l
      grind
  have q1 := mulm t1 (Rat.le_of_lt a3.2)
  have q2 := mulm t0 (Rat.le_of_lt b3.2)
  have q3 := mulm t1 a3.1
  have q4 := mulm t0 b3.1
  have q7 := mulm t1 a4.1
  have q8 := mulm t0 b4.1
  have ev : f.at ((1 - t) * xa + t * xb) = (1 - t) * f.at xa + t * f.at xb := by unfold Gr.at; grind
  have ex : (1 - t) * (a.1 : Rat) + t * b.1 = i := by grind
  have ey : (1 - t) * (a.2 : Rat) + t * b.2 = (a.2 : Rat) + kp * ((i : Rat) - a.1) := by grind
  have strict : ∀ u v u' v' : Rat, u < u' → v < v' → (1 - t) * u + t * v < (1 - t) * u' + t * v' := fun u v u' v' hu hv => by
    by_cases c : 0 < t
    · have := mulp c hv
      have := mulm t1 (Rat.le_of_lt hu)
      grind
    · have z : t = 0 := by grind
      rw [z]
      grind
  have s1 := strict _ _ _ _ a3.2 b3.2
  have s2 := strict _ _ _ _ a4.2 b4.2
  refine ⟨(1 - t) * xa + t * xb, ⟨?_, ?_⟩, ?_, ?_⟩
  · grind
  · grind
  · rw [ev]
    grind
  · rw [ev]
    grind
theorem side_up {f : Gr} {a b z : P2} {kp : Rat} (ga : f.Go a) (gb : f.Go b) (h1 : a.1 < z.1) (h2 : z.1 < b.1) (hp : kp * ((b.1 : Rat) - a.1) = (b.2 : Rat) - a.2) (ng : ¬f.Go z) (h : (a.2 : Rat) + kp * ((z.1 : Rat) - a.1) ≤ z.2) : ∀ x, InR z.1 x → f.at x < (z.2 : Rat) - 1/2 := by
  rcases strip (strip_in ga gb h1 h2) ng with s | s
  · exact s
  · obtain ⟨x, hx, l1, l2⟩ := amid ga gb h1 h2 hp
    have := s x hx
    grind
theorem side_dn {f : Gr} {a b z : P2} {kp : Rat} (ga : f.Go a) (gb : f.Go b) (h1 : a.1 < z.1) (h2 : z.1 < b.1) (hp : kp * ((b.1 : Rat) - a.1) = (b.2 : Rat) - a.2) (ng : ¬f.Go z) (h : (z.2 : Rat) ≤ (a.2 : Rat) + kp * ((z.1 : Rat) - a.1)) : ∀ x, InR z.1 x → (z.2 : Rat) + 1/2 ≤ f.at x := by
  rcases strip (strip_in ga gb h1 h2) ng with s | s
  · obtain ⟨x, hx, l1, l2⟩ := amid ga gb h1 h2 hp
    have := s x hx
    grind
  · exact s
/-- where two graphs change their order -/
theorem cross_at {f g : Gr} {u v : Rat} (huv : u ≤ v) (h1 : f.at u ≤ g.at u) (h2 : g.at v ≤ f.at v) : ∃ x, u ≤ x ∧ x ≤ v ∧ f.at x = g.at x := by
  unfold Gr.at at *
  obtain ⟨x, e1, e2, e3⟩ := ivt (k := f.k - g.k) (m := f.m - g.m) (y := 0) huv (by grind) (by grind)
  exact ⟨x, e1, e2, by grind⟩
theorem Gr.up {f : Gr} {u v : Rat} (h : f.at u < f.at v) (e : u ≤ v) : 0 < f.k := by
  apply Rat.not_le.mp
  intro l
  have := muln l e
  unfold Gr.at at h
  grind
theorem Gr.dn {f : Gr} {u v : Rat} (h : f.at v < f.at u) (e : u ≤ v) : f.k < 0 := by
  apply Rat.not_le.mp
  intro l
  have := mulm l e
  unfold Gr.at at h
  grind
theorem Gr.mono {f : Gr} {u v : Rat} (h : 0 ≤ f.k) (e : u ≤ v) : f.at u ≤ f.at v := by
  have := mulm h e
  unfold Gr.at
  grind
theorem Gr.anti {f : Gr} {u v : Rat} (h : f.k ≤ 0) (e : u ≤ v) : f.at v ≤ f.at u := by
  have := muln h e
  unfold Gr.at
  grind
structure Stp (Z : P2 → Prop) (f : Gr) (a b : P2) : Prop where
  za : Z a
  zb : Z b
  ga : f.Go a
  gb : f.Go b
  lt : a.1 < b.1
  mid : ∀ z, Z z → f.Go z → a.1 < z.1 → z.1 < b.1 → False
  la : ∀ z, Z z → f.Go z → z.1 = a.1 → (0 < f.k → z.2 ≤ a.2) ∧ (f.k < 0 → a.2 ≤ z.2)
  lb : ∀ z, Z z → f.Go z → z.1 = b.1 → (0 < f.k → b.2 ≤ z.2) ∧ (f.k < 0 → z.2 ≤ b.2)
/-- where two strokes meet, one of them steeper, the square is hot -/
def Meets (Z : P2 → Prop) (f g : Gr) : Prop := ∀ x, f.lo ≤ x → x ≤ f.hi → g.lo ≤ x → x ≤ g.hi → f.at x = g.at x → f.k ≠ g.k → ∀ z : P2, InR z.1 x → InR z.2 (f.at x) → Z z
theorem Meets.hot {Z : P2 → Prop} {f g : Gr} (M : Meets Z f g) {x : Rat} (h1 : f.lo ≤ x) (h2 : x ≤ f.hi) (h3 : g.lo ≤ x) (h4 : x ≤ g.hi) (e : f.at x = g.at x) (n : f.k ≠ g.k) {i : Int} (hi : InR i x) : ∃ j : Int, InR j (f.at x) ∧ Z (i, j) ∧ f.Go (i, j) ∧ g.Go (i, j) := by
  obtain ⟨j, hj⟩ := near_ex (f.at x)
  exact ⟨j, hj, M x h1 h2 h3 h4 e n (i, j) hi hj, ⟨x, h1, h2, hi, hj⟩, ⟨x, h3, h4, hi, by rw [← e]; exact hj⟩⟩
section
variable {Z : P2 → Prop} {f g : Gr} {a b c d : P2} {kp kq : Rat}
theorem claimL1 (F : Stp Z f a b) (G : Stp Z g c d) (M : Meets Z f g) (hp : kp * ((b.1 : Rat) - a.1) = (b.2 : Rat) - a.2) (h1 : a.1 < c.1) (h2 : c.1 < b.1) (ab : (a.2 : Rat) + kp * ((c.1 : Rat) - a.1) ≤ c.2) : f.at ((c.1 : Rat) + 1/2) ≤ g.at ((c.1 : Rat) + 1/2) := by
  apply Rat.not_lt.mp
  intro hn
  have ng : ¬f.Go c := fun h => F.mid c G.za h h1 h2
  have sd := side_up F.ga F.gb h1 h2 hp ng ab
  have ext := strip_in F.ga F.gb h1 h2
  obtain ⟨xc, c1', c2', c3', c4'⟩ := G.ga
  obtain ⟨xd, d1', d2', d3', d4'⟩ := G.gb
  have e0 := sd xc c3'
  obtain ⟨x1, k1, k2, k3⟩ := cross_at (f := f) (g := g) (u := xc) (v := (c.1 : Rat) + 1/2) (Rat.le_of_lt c3'.2) (by have := c4'.1; grind) (Rat.le_of_lt hn)
  have ne : x1 ≠ (c.1 : Rat) + 1/2 := fun e => by rw [e] at k3; grind
  have i1 : InR c.1 x1 := ⟨by have := c3'.1; grind, by grind⟩
  have ex := ext x1 i1
  have e1 := sd x1 i1
  have hg : g.k < 0 := Gr.dn (u := xc) (v := x1) (by have := c4'.1; grind) k1
  have nk : f.k ≠ g.k := fun e => by
    have : f.at xc - g.at xc = f.at x1 - g.at x1 := by unfold Gr.at; rw [e]; grind
    have := c4'.1
    grind
  have xdl := i1.lt d3' G.lt
  obtain ⟨j, hj, zz, _, gg⟩ := M.hot ex.1 ex.2 (by grind) (by grind) k3 nk i1
  have := (G.la _ zz gg rfl).2 hg
  have := hj.lo (j := c.2)
  have l2 : j < c.2 := by
    apply Int.not_le.mp
    intro l
    have := hj.1
    rcases Int.lt_or_eq_of_le l with l | l
    · have := c1 l
      grind
    · rw [← l] at this
      grind
  have := (G.la _ zz gg rfl).2 hg
  dsimp only at this
  omega
theorem claimL2 (F : Stp Z f a b) (G : Stp Z g c d) (M : Meets Z f g) (hq : kq * ((d.1 : Rat) - c.1) = (d.2 : Rat) - c.2) (h1 : c.1 < a.1) (h2 : a.1 < d.1) (ab : (a.2 : Rat) ≤ (c.2 : Rat) + kq * ((a.1 : Rat) - c.1)) : f.at ((a.1 : Rat) + 1/2) ≤ g.at ((a.1 : Rat) + 1/2) := by
  apply Rat.not_lt.mp
  intro hn
  have ng : ¬g.Go a := fun h => G.mid a F.za h h1 h2
  have sd := side_dn G.ga G.gb h1 h2 hq ng ab
  have ext := strip_in G.ga G.gb h1 h2
  obtain ⟨xa, a1', a2', a3', a4'⟩ := F.ga
  obtain ⟨xb, b1', b2', b3', b4'⟩ := F.gb
  have e0 := sd xa a3'
  obtain ⟨x1, k1, k2, k3⟩ := cross_at (f := f) (g := g) (u := xa) (v := (a.1 : Rat) + 1/2) (Rat.le_of_lt a3'.2) (by have := a4'.2; grind) (Rat.le_of_lt hn)
  have ne : x1 ≠ (a.1 : Rat) + 1/2 := fun e => by rw [e] at k3; grind
  have i1 : InR a.1 x1 := ⟨by have := a3'.1; grind, by grind⟩
  have ex := ext x1 i1
  have e1 := sd x1 i1
  have hf : 0 < f.k := Gr.up (u := xa) (v := x1) (by have := a4'.2; grind) k1
  have nk : f.k ≠ g.k := fun e => by
    have : f.at xa - g.at xa = f.at x1 - g.at x1 := by unfold Gr.at; rw [e]; grind
    have := a4'.2
    grind
  have xbl := i1.lt b3' F.lt
  obtain ⟨j, hj, zz, gg, _⟩ := M.hot (by grind) (by grind) ex.1 ex.2 k3 nk i1
  have l2 : a.2 < j := by
    apply Int.not_le.mp
    intro l
    have := hj.2
    rcases Int.lt_or_eq_of_le l with l | l
    · have := c1 l
      grind
    · rw [l] at this
      grind
  have := (F.la _ zz gg rfl).1 hf
  dsimp only at this
  omega
end
section
variable {Z : P2 → Prop} {f g : Gr} {a b c d : P2} {kp kq : Rat}
theorem below_half {i j : Int} (h : i < j) : (i : Rat) + 1/2 ≤ (j : Rat) - 1/2 := by
  have := c1 h
  grind
theorem InR.gt {i j : Int} {x : Rat} (h : InR i x) (g : (j : Rat) + 1/2 ≤ x) : j < i := by
  apply Int.not_le.mp
  intro l
  have := h.2
  rcases Int.lt_or_eq_of_le l with l | l
  · have := c1 l
    grind
  · rw [l] at this
    grind
theorem InR.below {i j : Int} {x : Rat} (h : InR i x) (g : x < (j : Rat) - 1/2) : i < j := by
  apply Int.not_le.mp
  intro l
  have := h.1
  rcases Int.lt_or_eq_of_le l with l | l
  · have := c1 l
    grind
  · rw [← l] at this
    grind
/-- a value in the square between those at both places -/
theorem val_in {j : Int} {y1 y2 : Rat} (h1 : y1 < (j : Rat) + 1/2) (h2 : (j : Rat) + 1/2 ≤ y2) : ∃ y, y1 ≤ y ∧ y ≤ y2 ∧ InR j y := by
  rcases Rat.le_total (a := y1) (b := (j : Rat) - 1/2) with e | e
  · exact ⟨(j : Rat) - 1/2, e, by grind, by unfold InR; grind⟩
  · exact ⟨y1, Rat.le_refl, by grind, e, h1⟩
theorem in_low {j : Int} : InR j ((j : Rat) - 1/2) := by unfold InR; grind
theorem claimL3 (F : Stp Z f a b) (G : Stp Z g c d) (M : Meets Z f g) (h1 : a.1 = c.1) (ac : a.2 < c.2) : f.at ((a.1 : Rat) + 1/2) ≤ g.at ((a.1 : Rat) + 1/2) := by
  apply Rat.not_lt.mp
  intro hn
  have gap := below_half ac
  have Gf := fun h : f.Go c => F.la c G.za h h1.symm
  have Gg := fun h : g.Go a => G.la a F.za h h1
  obtain ⟨xa, a1', a2', a3', a4'⟩ := F.ga
  obtain ⟨xb, b1', b2', b3', b4'⟩ := F.gb
  obtain ⟨xc, c1', c2', c3', c4'⟩ := G.ga
  obtain ⟨xd, d1', d2', d3', d4'⟩ := G.gb
  rw [← h1] at c3'
  have hb := b3'.1
  have hb' := below_half F.lt
  have hd := d3'.1
  have hd' := below_half G.lt
  rw [← h1] at hd'
  have ya := a4'.2
  have yc := c4'.1
  have xa2 := a3'.2
  have xc2 := c3'.2
  have exf : ∀ x, xa ≤ x → x < (a.1 : Rat) + 1/2 → InR a.1 x ∧ f.lo ≤ x ∧ x ≤ f.hi := fun x l u => ⟨⟨by have := a3'.1; grind, u⟩, by grind, by grind⟩
  have exg : ∀ x, xc ≤ x → x < (a.1 : Rat) + 1/2 → InR a.1 x ∧ g.lo ≤ x ∧ x ≤ g.hi := fun x l u => ⟨⟨by have := c3'.1; grind, u⟩, by grind, by grind⟩
  -- f comes through c's square
  have fc : ∀ v, xa ≤ v → v ≤ (a.1 : Rat) + 1/2 → (c.2 : Rat) - 1/2 < f.at v → f.Go c := fun v l u e => by
    obtain ⟨x, e1, e2, e3⟩ := ivt (k := f.k) (m := f.m) (y := (c.2 : Rat) - 1/2) l (by unfold Gr.at at ya; grind) (by unfold Gr.at at e; grind)
    have nx : x ≠ v := fun z => by rw [z] at e3; unfold Gr.at at e; grind
    obtain ⟨i1, i2, i3⟩ := exf x e1 (by grind)
    exact ⟨x, i2, i3, by rw [← h1]; exact i1, by unfold Gr.at; rw [e3]; exact in_low⟩
  -- g comes through a's square
  have ga : ∀ v, xc ≤ v → v ≤ (a.1 : Rat) + 1/2 → g.at v < (a.2 : Rat) + 1/2 → g.Go a := fun v l u e => by
    have yy : ∃ y, g.at v < y ∧ y ≤ g.at xc ∧ InR a.2 y := by
      rcases Rat.le_total (a := (a.2 : Rat) - 1/2) (b := g.at v) with z | z
      · exact ⟨(g.at v + ((a.2 : Rat) + 1/2)) / 2, by grind, by grind, by unfold InR; grind⟩
      · rcases Rat.le_iff_lt_or_eq.mp z with z | z
        · exact ⟨(a.2 : Rat) - 1/2, z, by grind, in_low⟩
        · exact ⟨a.2, by grind, by grind, by unfold InR; grind⟩
    obtain ⟨y, y1, y2, y3⟩ := yy
    obtain ⟨x, e1, e2, e3⟩ := ivt' (k := g.k) (m := g.m) (y := y) l y2 (by unfold Gr.at at y1; grind)
    have nx : x ≠ v := fun z => by rw [z] at e3; unfold Gr.at at y1; grind
    obtain ⟨i1, i2, i3⟩ := exg x e1 (by grind)
    exact ⟨x, i2, i3, i1, by unfold Gr.at; rw [e3]; exact y3⟩
  by_cases kg : 0 ≤ g.k
  · have m1 := Gr.mono kg (u := xc) (v := (a.1 : Rat) + 1/2) (by grind)
    have h2 := fc ((a.1 : Rat) + 1/2) (by grind) Rat.le_refl (by grind)
    have kf : 0 < f.k := Gr.up (u := xa) (v := (a.1 : Rat) + 1/2) (by grind) (by grind)
    have := (Gf h2).1 kf
    omega
  · have kg : g.k < 0 := by grind
    by_cases kf : f.k ≤ 0
    · have m1 := Gr.anti kf (u := xa) (v := (a.1 : Rat) + 1/2) (by grind)
      have h2 := ga ((a.1 : Rat) + 1/2) (by grind) Rat.le_refl (by grind)
      have := (Gg h2).2 kg
      omega
    · have kf : 0 < f.k := by grind
      have both : ∀ x1, xa ≤ x1 → xc ≤ x1 → x1 < (a.1 : Rat) + 1/2 → f.at x1 = g.at x1 → False := fun x1 l1 l2 u e => by
        obtain ⟨i1, i2, i3⟩ := exf x1 l1 u
        obtain ⟨_, j2, j3⟩ := exg x1 l2 u
        obtain ⟨j, hj, zz, gf, gg⟩ := M.hot i2 i3 j2 j3 e (by grind) i1
        have q1 := (F.la _ zz gf rfl).1 kf
        have q2 := (G.la _ zz gg h1).2 kg
        dsimp only at q1 q2
        omega
      rcases Rat.le_total (a := xa) (b := xc) with e | e
      · have m1 := Gr.anti (Rat.le_of_lt kg) e
        obtain ⟨x1, k1, k2, k3⟩ := cross_at (f := f) (g := g) (u := xa) (v := (a.1 : Rat) + 1/2) (by grind) (by grind) (Rat.le_of_lt hn)
        have ne : x1 ≠ (a.1 : Rat) + 1/2 := fun e => by rw [e] at k3; grind
        rcases Rat.le_total (a := xc) (b := x1) with e2 | e2
        · exact both x1 k1 e2 (by grind) k3
        · have m2 := Gr.anti (Rat.le_of_lt kg) e2
          have m3 := Gr.mono (Rat.le_of_lt kf) e2
          rcases Rat.le_iff_lt_or_eq.mp e2 with e3 | e3
          · have m4 := mulp kf e3
            have h2 := fc xc e (by grind) (by unfold Gr.at at *; grind)
            have := (Gf h2).1 kf
            omega
          · exact both x1 k1 (by grind) (by grind) k3
      · have m1 := Gr.mono (Rat.le_of_lt kf) e
        obtain ⟨x1, k1, k2, k3⟩ := cross_at (f := f) (g := g) (u := xc) (v := (a.1 : Rat) + 1/2) (by grind) (by grind) (Rat.le_of_lt hn)
        have ne : x1 ≠ (a.1 : Rat) + 1/2 := fun e => by rw [e] at k3; grind
        rcases Rat.le_total (a := xa) (b := x1) with e2 | e2
        · exact both x1 e2 k1 (by grind) k3
        · have m2 := Gr.anti (Rat.le_of_lt kg) e2
          have m3 := Gr.mono (Rat.le_of_lt kf) e2
          have h2 := ga xa e (by grind) (by grind)
          have := (Gg h2).2 kg
          omega
theorem claimR1 (F : Stp Z f a b) (G : Stp Z g c d) (M : Meets Z f g) (hp : kp * ((b.1 : Rat) - a.1) = (b.2 : Rat) - a.2) (h1 : a.1 < d.1) (h2 : d.1 < b.1) (ab : (d.2 : Rat) ≤ (a.2 : Rat) + kp * ((d.1 : Rat) - a.1)) : g.at ((d.1 : Rat) - 1/2) < f.at ((d.1 : Rat) - 1/2) := by
  apply Rat.not_le.mp
  intro hn
  have ng : ¬f.Go d := fun h => F.mid d G.zb h h1 h2
  have sd := side_dn F.ga F.gb h1 h2 hp ng ab
  have ext := strip_in F.ga F.gb h1 h2
  obtain ⟨xc, c1', c2', c3', c4'⟩ := G.ga
  obtain ⟨xd, d1', d2', d3', d4'⟩ := G.gb
  have e0 := sd xd d3'
  have yd := d4'.2
  have dx1 := d3'.1
  have dx2 := d3'.2
  obtain ⟨x1, k1, k2, k3⟩ := cross_at (f := f) (g := g) (u := (d.1 : Rat) - 1/2) (v := xd) dx1 hn (by grind)
  have i1 : InR d.1 x1 := ⟨k1, by grind⟩
  have ex := ext x1 i1
  have e1 := sd x1 i1
  have hg : g.k < 0 := Gr.dn (u := x1) (v := xd) (by grind) k2
  have nk : f.k ≠ g.k := fun e => by
    have : f.at xd - g.at xd = f.at x1 - g.at x1 := by unfold Gr.at; rw [e]; grind
    grind
  have xcl := c3'.lt i1 G.lt
  obtain ⟨j, hj, zz, _, gg⟩ := M.hot ex.1 ex.2 (by grind) (by grind) k3 nk i1
  have l2 := hj.gt e1
  have := (G.lb _ zz gg rfl).2 hg
  dsimp only at this
  omega
theorem claimR2 (F : Stp Z f a b) (G : Stp Z g c d) (M : Meets Z f g) (hq : kq * ((d.1 : Rat) - c.1) = (d.2 : Rat) - c.2) (h1 : c.1 < b.1) (h2 : b.1 < d.1) (ab : (c.2 : Rat) + kq * ((b.1 : Rat) - c.1) ≤ b.2) : g.at ((b.1 : Rat) - 1/2) < f.at ((b.1 : Rat) - 1/2) := by
  apply Rat.not_le.mp
  intro hn
  have ng : ¬g.Go b := fun h => G.mid b F.zb h h1 h2
  have sd := side_up G.ga G.gb h1 h2 hq ng ab
  have ext := strip_in G.ga G.gb h1 h2
  obtain ⟨xa, a1', a2', a3', a4'⟩ := F.ga
  obtain ⟨xb, b1', b2', b3', b4'⟩ := F.gb
  have e0 := sd xb b3'
  have yb := b4'.1
  have bx1 := b3'.1
  have bx2 := b3'.2
  obtain ⟨x1, k1, k2, k3⟩ := cross_at (f := f) (g := g) (u := (b.1 : Rat) - 1/2) (v := xb) bx1 hn (by grind)
  have i1 : InR b.1 x1 := ⟨k1, by grind⟩
  have ex := ext x1 i1
  have e1 := sd x1 i1
  have hf : 0 < f.k := Gr.up (u := x1) (v := xb) (by grind) k2
  have nk : f.k ≠ g.k := fun e => by
    have : f.at xb - g.at xb = f.at x1 - g.at x1 := by unfold Gr.at; rw [e]; grind
    grind
  have xal := a3'.lt i1 F.lt
  obtain ⟨j, hj, zz, gg, _⟩ := M.hot (by grind) (by grind) ex.1 ex.2 k3 nk i1
  have l2 := hj.below (j := b.2) (by grind)
  have := (F.lb _ zz gg rfl).1 hf
  dsimp only at this
  omega
theorem claimR3 (F : Stp Z f a b) (G : Stp Z g c d) (M : Meets Z f g) (h1 : b.1 = d.1) (db : d.2 < b.2) : g.at ((b.1 : Rat) - 1/2) < f.at ((b.1 : Rat) - 1/2) := by
  apply Rat.not_le.mp
  intro hn
  have gap := below_half db
  have Gf := fun h : f.Go d => F.lb d G.zb h h1.symm
  have Gg := fun h : g.Go b => G.lb b F.zb h h1
  obtain ⟨xa, a1', a2', a3', a4'⟩ := F.ga
  obtain ⟨xb, b1', b2', b3', b4'⟩ := F.gb
  obtain ⟨xc, c1', c2', c3', c4'⟩ := G.ga
  obtain ⟨xd, d1', d2', d3', d4'⟩ := G.gb
  rw [← h1] at d3'
  have ha := a3'.2
  have ha' := below_half F.lt
  have hc := c3'.2
  have hc' := below_half G.lt
  rw [← h1] at hc'
  have yb := b4'.1
  have yd := d4'.2
  have xb1 := b3'.1
  have xb2 := b3'.2
  have xd1 := d3'.1
  have xd2 := d3'.2
  have exf : ∀ x, (b.1 : Rat) - 1/2 ≤ x → x ≤ xb → InR b.1 x ∧ f.lo ≤ x ∧ x ≤ f.hi := fun x l u => ⟨⟨l, by grind⟩, by grind, by grind⟩
  have exg : ∀ x, (b.1 : Rat) - 1/2 ≤ x → x ≤ xd → InR b.1 x ∧ g.lo ≤ x ∧ x ≤ g.hi := fun x l u => ⟨⟨l, by grind⟩, by grind, by grind⟩
  -- f comes through d's square
  have fd : ∀ v, (b.1 : Rat) - 1/2 ≤ v → v ≤ xb → f.at v < (d.2 : Rat) + 1/2 → f.Go d := fun v l u e => by
    obtain ⟨y, y1, y2, y3⟩ := val_in (j := d.2) (y1 := f.at v) (y2 := f.at xb) e (by grind)
    obtain ⟨x, e1, e2, e3⟩ := ivt (k := f.k) (m := f.m) (y := y) u y1 y2
    obtain ⟨i1, i2, i3⟩ := exf x (by grind) e2
    exact ⟨x, i2, i3, by rw [← h1]; exact i1, by unfold Gr.at; rw [e3]; exact y3⟩
  -- g comes through b's square
  have gb : ∀ v, (b.1 : Rat) - 1/2 ≤ v → v ≤ xd → (b.2 : Rat) - 1/2 ≤ g.at v → g.Go b := fun v l u e => by
    obtain ⟨x, e1, e2, e3⟩ := ivt' (k := g.k) (m := g.m) (y := (b.2 : Rat) - 1/2) u e (by unfold Gr.at at yd; grind)
    obtain ⟨i1, i2, i3⟩ := exg x (by grind) e2
    exact ⟨x, i2, i3, i1, by unfold Gr.at; rw [e3]; exact in_low⟩
  by_cases kf : f.k ≤ 0
  · have m1 := Gr.anti kf xb1
    have h2 := gb ((b.1 : Rat) - 1/2) Rat.le_refl xd1 (by grind)
    have kg : g.k < 0 := Gr.dn (u := (b.1 : Rat) - 1/2) (v := xd) (by grind) xd1
    have := (Gg h2).2 kg
    omega
  · have kf : 0 < f.k := by grind
    by_cases kg : 0 ≤ g.k
    · have m1 := Gr.mono kg xd1
      have h2 := fd ((b.1 : Rat) - 1/2) Rat.le_refl xb1 (by grind)
      have := (Gf h2).1 kf
      omega
    · have kg : g.k < 0 := by grind
      have both : ∀ x1, (b.1 : Rat) - 1/2 ≤ x1 → x1 ≤ xb → x1 ≤ xd → f.at x1 = g.at x1 → False := fun x1 l u1 u2 e => by
        obtain ⟨i1, i2, i3⟩ := exf x1 l u1
        obtain ⟨_, j2, j3⟩ := exg x1 l u2
        obtain ⟨j, hj, zz, gf, gg⟩ := M.hot i2 i3 j2 j3 e (by grind) i1
        have q1 := (F.lb _ zz gf rfl).1 kf
        have q2 := (G.lb _ zz gg h1).2 kg
        dsimp only at q1 q2
        omega
      rcases Rat.le_total (a := xb) (b := xd) with e | e
      · have m1 := Gr.mono (Rat.le_of_lt kf) e
        obtain ⟨x1, k1, k2, k3⟩ := cross_at (f := f) (g := g) (u := (b.1 : Rat) - 1/2) (v := xd) xd1 hn (by grind)
        rcases Rat.le_total (a := x1) (b := xb) with e2 | e2
        · exact both x1 k1 e2 k2 k3
        · have m2 := Gr.anti (Rat.le_of_lt kg) e2
          have m3 := Gr.mono (Rat.le_of_lt kf) e2
          have h2 := gb xb xb1 e (by grind)
          have := (Gg h2).2 kg
          omega
      · have m1 := Gr.anti (Rat.le_of_lt kg) e
        obtain ⟨x1, k1, k2, k3⟩ := cross_at (f := f) (g := g) (u := (b.1 : Rat) - 1/2) (v := xb) xb1 hn (by grind)
        rcases Rat.le_total (a := x1) (b := xd) with e2 | e2
        · exact both x1 k1 k2 e2 k3
        · have m2 := Gr.anti (Rat.le_of_lt kg) e2
          have m3 := Gr.mono (Rat.le_of_lt kf) e2
          have h2 := fd xd xd1 e (by grind)
          have := (Gf h2).1 kf
          omega
end
section
variable {Z : P2 → Prop} {f g : Gr} {a b c d : P2} {kp kq : Rat}
theorem Meets.symm (M : Meets Z f g) : Meets Z g f := fun x h1 h2 h3 h4 e n z i1 i2 => M x h3 h4 h1 h2 e.symm (fun q => n q.symm) z i1 (by rw [← e]; exact i2)
theorem ilt {i j : Int} (h : (i : Rat) < (j : Rat)) : i < j := Rat.intCast_lt_intCast.mp h
theorem noX (F : Stp Z f a b) (G : Stp Z g c d) (M : Meets Z f g) (hp : kp * ((b.1 : Rat) - a.1) = (b.2 : Rat) - a.2) (hq : kq * ((d.1 : Rat) - c.1) = (d.2 : Rat) - c.2) {x0 : Rat}
    (xa : (a.1 : Rat) < x0) (xb : x0 < (b.1 : Rat)) (xc : (c.1 : Rat) < x0) (xd : x0 < (d.1 : Rat)) (e : (a.2 : Rat) + kp * (x0 - a.1) = (c.2 : Rat) + kq * (x0 - c.1)) (ne : kq < kp) : False := by
  have hk : 0 < kp - kq := by grind
  have left : ∀ x : Rat, x < x0 → (a.2 : Rat) + kp * (x - a.1) < (c.2 : Rat) + kq * (x - c.1) := fun x hx => by
    have := mulp hk hx
    grind
  have right : ∀ x : Rat, x0 < x → (c.2 : Rat) + kq * (x - c.1) < (a.2 : Rat) + kp * (x - a.1) := fun x hx => by
    have := mulp hk hx
    grind
  have L : ∃ l : Int, a.1 ≤ l ∧ c.1 ≤ l ∧ (l : Rat) < x0 ∧ f.at ((l : Rat) + 1/2) ≤ g.at ((l : Rat) + 1/2) := by
    rcases Int.lt_trichotomy a.1 c.1 with h | h | h
    · exact ⟨c.1, by omega, by omega, xc, claimL1 F G M hp h (ilt (by grind)) (by have := left _ xc; grind)⟩
    · refine ⟨a.1, by omega, by omega, xa, claimL3 F G M h (ilt ?_)⟩
      have := left _ xa
      rw [← h] at this
      grind
    · exact ⟨a.1, by omega, by omega, xa, claimL2 F G M hq h (ilt (by grind)) (by have := left _ xa; grind)⟩
  have R : ∃ r : Int, r ≤ b.1 ∧ r ≤ d.1 ∧ x0 < (r : Rat) ∧ g.at ((r : Rat) - 1/2) < f.at ((r : Rat) - 1/2) := by
    rcases Int.lt_trichotomy b.1 d.1 with h | h | h
    · refine ⟨b.1, by omega, by omega, xb, claimR2 F G M hq (ilt (by grind)) h ?_⟩
      have := right _ xb
      grind
    · refine ⟨b.1, by omega, by omega, xb, claimR3 F G M h (ilt ?_)⟩
      have := right _ xb
      have h' : (b.1 : Rat) = d.1 := by rw [h]
      grind
    · refine ⟨d.1, by omega, by omega, xd, claimR1 F G M hp (ilt (by grind)) h ?_⟩
      have := right _ xd
      grind
  obtain ⟨l, l1, l2, l3, l4⟩ := L
  obtain ⟨r, r1, r2, r3, r4⟩ := R
  have lr : l < r := ilt (by grind)
  have le := below_half lr
  obtain ⟨x1, k1, k2, k3⟩ := cross_at le l4 (Rat.le_of_lt r4)
  have nx : x1 ≠ (r : Rat) - 1/2 := fun z => by rw [z] at k3; grind
  obtain ⟨i, hi⟩ := near_ex x1
  have i1 : l < i := hi.gt k1
  have i2 : i < r := hi.below (by grind)
  have e1 := strip_in F.ga F.gb (show a.1 < i by omega) (show i < b.1 by omega) x1 hi
  have e2 := strip_in G.ga G.gb (show c.1 < i by omega) (show i < d.1 by omega) x1 hi
  have nk : f.k ≠ g.k := fun e => by
    have : f.at ((l : Rat) + 1/2) - g.at ((l : Rat) + 1/2) = f.at ((r : Rat) - 1/2) - g.at ((r : Rat) - 1/2) := by unfold Gr.at; rw [e]; grind
    grind
  obtain ⟨j, _, zz, gf, _⟩ := M.hot e1.1 e1.2 e2.1 e2.2 k3 nk hi
  exact F.mid _ zz gf (by show a.1 < i; omega) (by show i < b.1; omega)
/-- no hot square within a step -/
theorem noIn (F : Stp Z f a b) (hp : kp * ((b.1 : Rat) - a.1) = (b.2 : Rat) - a.2) {z : P2} (hz : Z z) (h1 : a.1 < z.1) (h2 : z.1 < b.1) (e : (a.2 : Rat) + kp * ((z.1 : Rat) - a.1) = z.2) : False := by
  have ng : ¬f.Go z := fun h => F.mid z hz h h1 h2
  have i : InR z.1 z.1 := by unfold InR; grind
  have s1 := side_up F.ga F.gb h1 h2 hp ng (by grind) _ i
  have s2 := side_dn F.ga F.gb h1 h2 hp ng (by grind) _ i
  grind
end
/-! ### strokes -/
abbrev Sk := Int × Int × Int × Int
def Sk.x (s : Sk) (t : Rat) : Rat := (s.1 : Rat) + ((s.2.2.1 : Rat) - s.1) * t
def Sk.y (s : Sk) (t : Rat) : Rat := (s.2.1 : Rat) + ((s.2.2.2 : Rat) - s.2.1) * t
def Sk.Go (s : Sk) (z : P2) : Prop := ∃ t : Rat, 0 ≤ t ∧ t ≤ 1 ∧ InR z.1 (s.x t) ∧ InR z.2 (s.y t)
def Sk.par (s t : Sk) : Prop := (s.2.2.1 - s.1) * (t.2.2.2 - t.2.1) = (s.2.2.2 - s.2.1) * (t.2.2.1 - t.1)
def MeetS (Z : P2 → Prop) (s t : Sk) : Prop := ∀ p q : Rat, 0 ≤ p → p ≤ 1 → 0 ≤ q → q ≤ 1 → s.x p = t.x q → s.y p = t.y q → ¬s.par t → ∀ z : P2, InR z.1 (s.x p) → InR z.2 (s.y p) → Z z
def sg (i : Int) : Int := if 0 < i then 1 else if i < 0 then -1 else 0
def Sk.al (s : Sk) (z : P2) : Int := sg (s.2.2.1 - s.1) * z.1 + sg (s.2.2.2 - s.2.1) * z.2
structure StepR (Z : P2 → Prop) (s : Sk) (a b : P2) : Prop where
  za : Z a
  zb : Z b
  ga : s.Go a
  gb : s.Go b
  lt : s.al a < s.al b
  no : ∀ z, Z z → s.Go z → s.al a < s.al z → s.al z < s.al b → False
def Sk.gr (s : Sk) : Gr := ⟨((s.2.2.2 : Rat) - s.2.1) / ((s.2.2.1 : Rat) - s.1), (s.2.1 : Rat) - ((s.2.2.2 : Rat) - s.2.1) / ((s.2.2.1 : Rat) - s.1) * s.1, s.1, s.2.2.1⟩
theorem gr_k {s : Sk} (h : s.1 < s.2.2.1) : s.gr.k * ((s.2.2.1 : Rat) - s.1) = (s.2.2.2 : Rat) - s.2.1 := by
  have := c1 h
  unfold Sk.gr
  dsimp only
  grind
theorem gr_at {s : Sk} (h : s.1 < s.2.2.1) (t : Rat) : s.gr.at (s.x t) = s.y t := by
  have h1 := gr_k h
  have : s.gr.at (s.x t) = (s.2.1 : Rat) + s.gr.k * (s.x t - s.1) := by
    unfold Gr.at
    show _ + ((s.2.1 : Rat) - s.gr.k * s.1) = _
    grind
  rw [this]
  unfold Sk.x Sk.y
  grind
theorem gr_par {s : Sk} (h : s.1 < s.2.2.1) {x : Rat} (l : s.gr.lo ≤ x) (u : x ≤ s.gr.hi) : ∃ t : Rat, 0 ≤ t ∧ t ≤ 1 ∧ s.x t = x := by
  have h1 := c1 h
  have l' : (s.1 : Rat) ≤ x := l
  have u' : x ≤ (s.2.2.1 : Rat) := u
  have hd : (0 : Rat) < (s.2.2.1 : Rat) - s.1 := by grind
  have e : ((s.2.2.1 : Rat) - s.1) * ((x - s.1) / ((s.2.2.1 : Rat) - s.1)) = x - s.1 := by grind
  refine ⟨(x - s.1) / ((s.2.2.1 : Rat) - s.1), ?_, ?_, ?_⟩
  · apply Rat.not_lt.mp
    intro z
    have := mulp hd z
    grind
  · apply Rat.not_lt.mp
    intro z
    have := mulp hd z
    grind
  · unfold Sk.x
    rw [e]
    grind
theorem x_in {s : Sk} (h : s.1 < s.2.2.1) {t : Rat} (t0 : 0 ≤ t) (t1 : t ≤ 1) : s.gr.lo ≤ s.x t ∧ s.x t ≤ s.gr.hi := by
  have h1 := c1 h
  have hd : (0 : Rat) ≤ (s.2.2.1 : Rat) - s.1 := by grind
  have q1 := mulm hd t0
  have q2 := mulm hd t1
  show (s.1 : Rat) ≤ s.x t ∧ s.x t ≤ (s.2.2.1 : Rat)
  unfold Sk.x
  grind
theorem gr_go {s : Sk} (h : s.1 < s.2.2.1) {z : P2} : s.gr.Go z ↔ s.Go z := by
  constructor
  · rintro ⟨x, l, u, i, j⟩
    obtain ⟨t, t0, t1, rfl⟩ := gr_par h l u
    exact ⟨t, t0, t1, i, by rw [gr_at h] at j; exact j⟩
  · rintro ⟨t, t0, t1, i, j⟩
    obtain ⟨l, u⟩ := x_in h t0 t1
    exact ⟨s.x t, l, u, i, by rw [gr_at h]; exact j⟩
theorem meets_gr {Z : P2 → Prop} {s t : Sk} (hs : s.1 < s.2.2.1) (ht : t.1 < t.2.2.1) (M : MeetS Z s t) : Meets Z s.gr t.gr := fun x l u l' u' e nk z i j => by
  obtain ⟨p, p0, p1, ep⟩ := gr_par hs l u
  obtain ⟨q, q0, q1, eq⟩ := gr_par ht l' u'
  have k1 := gr_at hs p
  have k2 := gr_at ht q
  rw [ep] at k1
  rw [eq] at k2
  refine M p q p0 p1 q0 q1 (by rw [ep, eq]) (by rw [← k1, ← k2]; exact e) (fun hp => nk ?_) z (by rw [ep]; exact i) (by rw [← k1]; exact j)
  have h1 := gr_k hs
  have h2 := gr_k ht
  have d1 := c1 hs
  have d2 := c1 ht
  have hp' : ((s.2.2.1 : Rat) - s.1) * ((t.2.2.2 : Rat) - t.2.1) = ((s.2.2.2 : Rat) - s.2.1) * ((t.2.2.1 : Rat) - t.1) := by
    have := congrArg (fun i : Int => (i : Rat)) hp
    simp only [Rat.intCast_mul, Rat.intCast_sub] at this
    exact this
  rw [← h1, ← h2] at hp'
  have hne : ((s.2.2.1 : Rat) - s.1) * ((t.2.2.1 : Rat) - t.1) ≠ 0 := by
    have := Rat.mul_pos (a := (s.2.2.1 : Rat) - s.1) (b := (t.2.2.1 : Rat) - t.1) (by grind) (by grind)
    grind
  grind
/-- the order along a stroke that goes to the right -/
theorem al_lt {s : Sk} (h : s.1 < s.2.2.1) {z w : P2} (gz : s.Go z) (gw : s.Go w) (l : z.1 < w.1) : s.al z < s.al w := by
  obtain ⟨xz, z1, z2, z3, z4⟩ := (gr_go h).mpr gz
  obtain ⟨xw, w1, w2, w3, w4⟩ := (gr_go h).mpr gw
  have e := Rat.le_of_lt (z3.lt w3 l)
  have hk := gr_k h
  have hd := c1 h
  have mono : s.2.1 < s.2.2.2 → z.2 ≤ w.2 := fun c => by
    have k0 : 0 ≤ s.gr.k := by
      apply Rat.not_lt.mp
      intro n
      have := mulnp n (show (0 : Rat) < (s.2.2.1 : Rat) - s.1 by grind)
      have := c1 c
      grind
    have m := Gr.mono k0 e
    apply Int.not_lt.mp
    intro n
    have := w4.lt z4 n
    grind
  have anti : s.2.2.2 < s.2.1 → w.2 ≤ z.2 := fun c => by
    have k0 : s.gr.k ≤ 0 := by
      apply Rat.not_lt.mp
      intro n
      have := mulp n (show (0 : Rat) < (s.2.2.1 : Rat) - s.1 by grind)
      have := c1 c
      grind
    have m := Gr.anti k0 e
    apply Int.not_lt.mp
    intro n
    have := z4.lt w4 n
    grind
  unfold Sk.al sg
  rcases Int.lt_trichotomy s.2.1 s.2.2.2 with c | c | c
  · have := mono c
    rw [if_pos (by omega), if_pos (by omega)]
    omega
  · rw [if_pos (by omega), if_neg (by omega), if_neg (by omega)]
    omega
  · have := anti c
    rw [if_pos (by omega), if_neg (by omega), if_pos (by omega)]
    omega
theorem sign_k {s : Sk} (h : s.1 < s.2.2.1) : (0 < s.gr.k → s.2.1 < s.2.2.2) ∧ (s.gr.k < 0 → s.2.2.2 < s.2.1) := by
  have hk := gr_k h
  have hd := c1 h
  constructor
  · intro k
    have := Rat.mul_pos k (show (0 : Rat) < (s.2.2.1 : Rat) - s.1 by grind)
    exact ilt (by grind)
  · intro k
    have := mulnp k (show (0 : Rat) < (s.2.2.1 : Rat) - s.1 by grind)
    exact ilt (by grind)
theorem StepR.stp {Z : P2 → Prop} {s : Sk} {a b : P2} (S : StepR Z s a b) (h : s.1 < s.2.2.1) (n : a.1 ≠ b.1) : Stp Z s.gr a b where
  za := S.za
  zb := S.zb
  ga := (gr_go h).mpr S.ga
  gb := (gr_go h).mpr S.gb
  lt := by
    apply Int.not_le.mp
    intro l
    have := al_lt h S.gb S.ga (by omega)
    have := S.lt
    omega
  mid := fun z zz gz l1 l2 => by
    have gz := (gr_go h).mp gz
    exact S.no z zz gz (al_lt h S.ga gz l1) (al_lt h gz S.gb l2)
  la := fun z zz gz e => by
    have gz := (gr_go h).mp gz
    have lt : a.1 < b.1 := by
      apply Int.not_le.mp
      intro l
      have := al_lt h S.gb S.ga (by omega)
      have := S.lt
      omega
    have zb := al_lt h gz S.gb (by omega)
    have sk := sign_k h
    have no : ¬(s.al a < s.al z) := fun l => S.no z zz gz l zb
    unfold Sk.al sg at no
    rw [if_pos (by omega)] at no
    constructor
    · intro k
      have := sk.1 k
      rw [if_pos (by omega)] at no
      omega
    · intro k
      have := sk.2 k
      rw [if_neg (by omega), if_pos (by omega)] at no
      omega
  lb := fun z zz gz e => by
    have gz := (gr_go h).mp gz
    have lt : a.1 < b.1 := by
      apply Int.not_le.mp
      intro l
      have := al_lt h S.gb S.ga (by omega)
      have := S.lt
      omega
    have az := al_lt h S.ga gz (by omega)
    have sk := sign_k h
    have no : ¬(s.al z < s.al b) := fun l => S.no z zz gz az l
    unfold Sk.al sg at no
    rw [if_pos (by omega)] at no
    constructor
    · intro k
      have := sk.1 k
      rw [if_pos (by omega)] at no
      omega
    · intro k
      have := sk.2 k
      rw [if_neg (by omega), if_pos (by omega)] at no
      omega
/-! ### turned about, exchanged -/
def Sk.tn (s : Sk) : Sk := (s.2.2.1, s.2.2.2, s.1, s.2.1)
def Sk.fl (s : Sk) : Sk := (s.2.1, s.1, s.2.2.2, s.2.2.1)
def fl (z : P2) : P2 := (z.2, z.1)
theorem tn_x {s : Sk} {t : Rat} : s.tn.x t = s.x (1 - t) := by unfold Sk.x Sk.tn; grind
theorem tn_y {s : Sk} {t : Rat} : s.tn.y t = s.y (1 - t) := by unfold Sk.y Sk.tn; grind
theorem tn_go {s : Sk} {z : P2} : s.tn.Go z ↔ s.Go z := by
  constructor
  · rintro ⟨t, t0, t1, i, j⟩
    exact ⟨1 - t, by grind, by grind, by rw [← tn_x]; exact i, by rw [← tn_y]; exact j⟩
  · rintro ⟨t, t0, t1, i, j⟩
    refine ⟨1 - t, by grind, by grind, ?_, ?_⟩
    · rw [tn_x, show (1 : Rat) - (1 - t) = t by grind]; exact i
    · rw [tn_y, show (1 : Rat) - (1 - t) = t by grind]; exact j
theorem fl_go {s : Sk} {z : P2} : s.fl.Go (fl z) ↔ s.Go z := by
  constructor
  · rintro ⟨t, t0, t1, i, j⟩
    exact ⟨t, t0, t1, j, i⟩
  · rintro ⟨t, t0, t1, i, j⟩
    exact ⟨t, t0, t1, j, i⟩
theorem sg_neg (i : Int) : sg (-i) = -sg i := by
  unfold sg
  split <;> split <;> (try split) <;> omega
theorem tn_al {s : Sk} {z : P2} : s.tn.al z = -s.al z := by
  unfold Sk.al Sk.tn
  dsimp only
  rw [show s.1 - s.2.2.1 = -(s.2.2.1 - s.1) by omega, show s.2.1 - s.2.2.2 = -(s.2.2.2 - s.2.1) by omega, sg_neg, sg_neg, Int.neg_mul, Int.neg_mul]
  omega
theorem fl_al {s : Sk} {z : P2} : s.fl.al (fl z) = s.al z := by
  unfold Sk.al Sk.fl fl
  dsimp only
  omega
theorem StepR.tn {Z : P2 → Prop} {s : Sk} {a b : P2} (S : StepR Z s a b) : StepR Z s.tn b a where
  za := S.zb
  zb := S.za
  ga := tn_go.mpr S.gb
  gb := tn_go.mpr S.ga
  lt := by
    rw [tn_al, tn_al]
    have := S.lt
    omega
  no := fun z zz gz l1 l2 => by
    rw [tn_al, tn_al] at l1 l2
    exact S.no z zz (tn_go.mp gz) (by omega) (by omega)
theorem StepR.fl {Z : P2 → Prop} {s : Sk} {a b : P2} (S : StepR Z s a b) : StepR (fun z => Z (Pl.fl z)) s.fl (Pl.fl a) (Pl.fl b) where
  za := S.za
  zb := S.zb
  ga := fl_go.mpr S.ga
  gb := fl_go.mpr S.gb
  lt := by
    rw [fl_al, fl_al]
    exact S.lt
  no := fun z zz gz l1 l2 => by
    have e : z = Pl.fl (Pl.fl z) := rfl
    rw [e, fl_al] at l1 l2
    rw [fl_al] at l1 l2
    rw [e] at gz
    exact S.no (Pl.fl z) zz (fl_go.mp gz) l1 l2
theorem par_tn {s t : Sk} : s.tn.par t ↔ s.par t := by
  unfold Sk.par Sk.tn
  dsimp only
  rw [show s.1 - s.2.2.1 = -(s.2.2.1 - s.1) by omega, show s.2.1 - s.2.2.2 = -(s.2.2.2 - s.2.1) by omega, Int.neg_mul, Int.neg_mul]
  omega
theorem par_sym {s t : Sk} : s.par t ↔ t.par s := by
  unfold Sk.par
  rw [Int.mul_comm (s.2.2.1 - s.1), Int.mul_comm (s.2.2.2 - s.2.1)]
  exact ⟨fun h => h.symm, fun h => h.symm⟩
theorem MeetS.tn {Z : P2 → Prop} {s t : Sk} (M : MeetS Z s t) : MeetS Z s.tn t := fun p q p0 p1 q0 q1 ex ey np z i j => by
  rw [tn_x] at ex i
  rw [tn_y] at ey j
  exact M (1 - p) q (by grind) (by grind) q0 q1 ex ey (fun h => np (par_tn.mpr h)) z i j
theorem MeetS.symm {Z : P2 → Prop} {s t : Sk} (M : MeetS Z s t) : MeetS Z t s := fun p q p0 p1 q0 q1 ex ey np z i j => by
  exact M q p q0 q1 p0 p1 ex.symm ey.symm (fun h => np (par_sym.mp h)) z (by rw [← ex]; exact i) (by rw [← ey]; exact j)
theorem MeetS.fl {Z : P2 → Prop} {s t : Sk} (M : MeetS Z s t) : MeetS (fun z => Z (Pl.fl z)) s.fl t.fl := fun p q p0 p1 q0 q1 ex ey np z i j => by
  exact M p q p0 p1 q0 q1 ey ex (fun h => np (by unfold Sk.par Sk.fl at *; dsimp only at *; omega)) (Pl.fl z) j i
/-- a step that isn't upright: its stroke, or this turned about, goes to the right -/
theorem StepR.right {Z : P2 → Prop} {s : Sk} {a b : P2} (S : StepR Z s a b) (n : a.1 ≠ b.1) : s.1 < s.2.2.1 ∨ s.tn.1 < s.tn.2.2.1 := by
  rcases Int.lt_trichotomy s.1 s.2.2.1 with h | h | h
  · exact .inl h
  · exfalso
    obtain ⟨t, _, _, i, _⟩ := S.ga
    obtain ⟨u, _, _, j, _⟩ := S.gb
    have e : ∀ t, s.x t = s.1 := fun t => by unfold Sk.x; rw [h]; grind
    rw [e] at i j
    exact n (i.uniq j)
  · exact .inr h
theorem slope {a b : P2} (n : a.1 ≠ b.1) : ∃ k : Rat, k * ((b.1 : Rat) - a.1) = (b.2 : Rat) - a.2 := by
  have : (b.1 : Rat) - a.1 ≠ 0 := by
    rcases Int.lt_or_gt_of_ne n with h | h
    · have := c1 h
      grind
    · have := c1 h
      grind
  exact ⟨((b.2 : Rat) - a.2) / ((b.1 : Rat) - a.1), by grind⟩
/-- the point z lies on the step at p -/
def On (a b : P2) (p X Y : Rat) : Prop := 0 ≤ p ∧ p ≤ 1 ∧ X = (a.1 : Rat) + ((b.1 : Rat) - a.1) * p ∧ Y = (a.2 : Rat) + ((b.2 : Rat) - a.2) * p
theorem On.tn {a b : P2} {p X Y : Rat} (h : On a b p X Y) : On b a (1 - p) X Y := by
  obtain ⟨h1, h2, h3, h4⟩ := h
  exact ⟨by grind, by grind, by grind, by grind⟩
theorem On.fl {a b : P2} {p X Y : Rat} (h : On a b p X Y) : On (Pl.fl a) (Pl.fl b) p Y X := ⟨h.1, h.2.1, h.2.2.2, h.2.2.1⟩
theorem on_in {a b : P2} {p X Y : Rat} (l : a.1 < b.1) (h : On a b p X Y) (p0 : p ≠ 0) (p1 : p ≠ 1) : (a.1 : Rat) < X ∧ X < (b.1 : Rat) := by
  obtain ⟨h1, h2, h3, h4⟩ := h
  have := c1 l
  have q1 := mulp (show (0 : Rat) < (b.1 : Rat) - a.1 by grind) (show (0 : Rat) < p by grind)
  have q2 := mulp (show (0 : Rat) < (b.1 : Rat) - a.1 by grind) (show p < (1 : Rat) by grind)
  grind
theorem on_line {a b : P2} {p X Y k : Rat} (hk : k * ((b.1 : Rat) - a.1) = (b.2 : Rat) - a.2) (h : On a b p X Y) : (a.2 : Rat) + k * (X - a.1) = Y := by
  obtain ⟨h1, h2, h3, h4⟩ := h
  grind
theorem eqi {i j : Int} (h : (i : Rat) = (j : Rat)) : i = j := Rat.intCast_inj.mp h
theorem noIn1 {Z : P2 → Prop} {s : Sk} {a b z : P2} {p : Rat} (S : StepR Z s a b) (n : a.1 ≠ b.1) (hz : Z z) (h : On a b p z.1 z.2) : p = 0 ∨ p = 1 := by
  have go : ∀ {s : Sk} {a b : P2} {p : Rat}, StepR Z s a b → a.1 ≠ b.1 → On a b p z.1 z.2 → s.1 < s.2.2.1 → p = 0 ∨ p = 1 := fun {s a b p} S n h r => by
    by_cases p0 : p = 0
    · exact .inl p0
    · by_cases p1 : p = 1
      · exact .inr p1
      · exfalso
        have F := S.stp r n
        obtain ⟨k, hk⟩ := slope n
        obtain ⟨l, u⟩ := on_in F.lt h p0 p1
        exact noIn F hk hz (ilt l) (ilt u) (on_line hk h)
  rcases S.right n with r | r
  · exact go S n h r
  · rcases go S.tn (fun e => n e.symm) h.tn r with e | e
    · exact .inr (by grind)
    · exact .inl (by grind)
/-- no hot square within a step -/
theorem noIn2 {Z : P2 → Prop} {s : Sk} {a b z : P2} {p : Rat} (S : StepR Z s a b) (hz : Z z) (h : On a b p z.1 z.2) : z = a ∨ z = b := by
  have ne : a ≠ b := fun e => by
    have := S.lt
    rw [e] at this
    omega
  have hp : p = 0 ∨ p = 1 := by
    by_cases n : a.1 = b.1
    · have n2 : (fl a).1 ≠ (fl b).1 := fun e => ne (Prod.ext n e)
      exact noIn1 (z := fl z) S.fl n2 hz h.fl
    · exact noIn1 S n hz h
  obtain ⟨_, _, e1, e2⟩ := h
  rcases hp with rfl | rfl
  · left
    exact Prod.ext (eqi (by grind)) (eqi (by grind))
  · right
    exact Prod.ext (eqi (by grind)) (eqi (by grind))
/-- a step to the right and an upright one -/
theorem noV {Z : P2 → Prop} {f : Gr} {t : Sk} {a b c d : P2} {kp : Rat} (F : Stp Z f a b) (hp : kp * ((b.1 : Rat) - a.1) = (b.2 : Rat) - a.2) (zc : Z c) (zd : Z d) (gc : t.Go c) (gd : t.Go d) (e : c.1 = d.1) (h1 : a.1 < c.1) (h2 : c.1 < b.1) (lc : (c.2 : Rat) ≤ (a.2 : Rat) + kp * ((c.1 : Rat) - a.1)) (ld : (a.2 : Rat) + kp * ((c.1 : Rat) - a.1) ≤ d.2)
    (M : ∀ x q : Rat, f.lo ≤ x → x ≤ f.hi → 0 ≤ q → q ≤ 1 → x = t.x q → f.at x = t.y q → (t.y 1 - t.y 0 ≠ f.k * (t.x 1 - t.x 0)) → ∀ z : P2, InR z.1 x → InR z.2 (f.at x) → Z z)
    (no : ∀ z, Z z → t.Go z → z.1 = c.1 → c.2 < z.2 → z.2 < d.2 → False) : False := by
  have ext := strip_in F.ga F.gb h1 h2
  have sc := side_dn F.ga F.gb h1 h2 hp (fun h => F.mid c zc h h1 h2) lc
  have sd := side_up (z := d) F.ga F.gb (by omega) (by omega) hp (fun h => F.mid d zd h (by omega) (by omega)) (by rw [← e]; exact ld)
  obtain ⟨p, p0, p1, i1, j1⟩ := gc
  obtain ⟨q, q0, q1, i2, j2⟩ := gd
  have e1 := sc _ i1
  have e2 := sd _ i2
  rw [← e] at i2
  have jc := j1.2
  have jd := j2.1
  have lin : ∀ r : Rat, t.y r - f.at (t.x r) = ((t.y 1 - t.y 0) - f.k * (t.x 1 - t.x 0)) * r + (t.y 0 - f.at (t.x 0)) := fun r => by
    unfold Sk.x Sk.y Gr.at
    grind
  have hr : ∃ r : Rat, 0 ≤ r ∧ r ≤ 1 ∧ InR c.1 (t.x r) ∧ t.y r = f.at (t.x r) := by
    have inx : ∀ r : Rat, ((p ≤ r ∧ r ≤ q) ∨ (q ≤ r ∧ r ≤ p)) → InR c.1 (t.x r) := fun r hr => by
      rcases Rat.le_total (a := 0) (b := (t.2.2.1 : Rat) - t.1) with z | z
      · rcases hr with ⟨a1, a2⟩ | ⟨a1, a2⟩
        · have m1 := mulm z a1
          have m2 := mulm z a2
          unfold InR Sk.x at *
          grind
        · have m1 := mulm z a1
          have m2 := mulm z a2
          unfold InR Sk.x at *
          grind
      · rcases hr with ⟨a1, a2⟩ | ⟨a1, a2⟩
        · have m1 := muln z a1
          have m2 := muln z a2
          unfold InR Sk.x at *
          grind
        · have m1 := muln z a1
          have m2 := muln z a2
          unfold InR Sk.x at *
          grind
    have l1 := lin p
    have l2 := lin q
    rcases Rat.le_total (a := p) (b := q) with z | z
    · obtain ⟨r, r1, r2, r3⟩ := ivt (k := (t.y 1 - t.y 0) - f.k * (t.x 1 - t.x 0)) (m := t.y 0 - f.at (t.x 0)) (y := 0) z (by grind) (by grind)
      exact ⟨r, by grind, by grind, inx r (.inl ⟨r1, r2⟩), by have := lin r; grind⟩
    · obtain ⟨r, r1, r2, r3⟩ := ivt' (k := (t.y 1 - t.y 0) - f.k * (t.x 1 - t.x 0)) (m := t.y 0 - f.at (t.x 0)) (y := 0) z (by grind) (by grind)
      exact ⟨r, by grind, by grind, inx r (.inr ⟨r1, r2⟩), by have := lin r; grind⟩
  obtain ⟨r, r0, r1, ir, er⟩ := hr
  have ex := ext _ ir
  have a1 := sc _ ir
  have a2 := sd (t.x r) (by rw [← e]; exact ir)
  obtain ⟨j, hj⟩ := near_ex (f.at (t.x r))
  refine no (c.1, j) (M (t.x r) r ex.1 ex.2 r0 r1 rfl er.symm (fun z => ?_) (c.1, j) ir hj) ⟨r, r0, r1, ir, by rw [er]; exact hj⟩ rfl (hj.gt a1) (hj.below (j := d.2) a2)
  have l1 := lin p
  have l2 := lin q
  rw [z] at l1 l2
  grind
theorem StepR.ne {Z : P2 → Prop} {s : Sk} {a b : P2} (S : StepR Z s a b) : a ≠ b := fun e => by
  have := S.lt
  rw [e] at this
  omega
/-- along one another: the same step -/
theorem along1 {Z : P2 → Prop} {s t : Sk} {a b c d : P2} {p q X Y r : Rat} (S : StepR Z s a b) (T : StepR Z t c d) (h1 : On a b p X Y) (h2 : On c d q X Y) (r0 : 0 < r) (e1 : (d.1 : Rat) - c.1 = r * ((b.1 : Rat) - a.1)) (e2 : (d.2 : Rat) - c.2 = r * ((b.2 : Rat) - a.2)) (p0 : p ≠ 0) (p1 : p ≠ 1) (q0 : q ≠ 0) (q1 : q ≠ 1) : a = c ∧ b = d := by
  obtain ⟨a1, a2, a3, a4⟩ := h1
  obtain ⟨b1, b2, b3, b4⟩ := h2
  have hp0 : 0 < p := by grind
  have hp1 : p < 1 := by grind
  have hq0 : 0 < q := by grind
  have hq1 : q < 1 := by grind
  have m1 := mulp r0 hq0
  have m2 := mulp r0 hq1
  have cx : (c.1 : Rat) = (a.1 : Rat) + ((b.1 : Rat) - a.1) * (p - r * q) := by grind
  have cy : (c.2 : Rat) = (a.2 : Rat) + ((b.2 : Rat) - a.2) * (p - r * q) := by grind
  have dx : (d.1 : Rat) = (a.1 : Rat) + ((b.1 : Rat) - a.1) * (p + r * (1 - q)) := by grind
  have dy : (d.2 : Rat) = (a.2 : Rat) + ((b.2 : Rat) - a.2) * (p + r * (1 - q)) := by grind
  have far : ∀ u v : Rat, u ≠ v → (a.1 : Rat) + ((b.1 : Rat) - a.1) * u = (a.1 : Rat) + ((b.1 : Rat) - a.1) * v → (a.2 : Rat) + ((b.2 : Rat) - a.2) * u = (a.2 : Rat) + ((b.2 : Rat) - a.2) * v → False := fun u v n z1 z2 => by
    have k1 : (b.1 : Rat) - a.1 = 0 := by grind
    have k2 : (b.2 : Rat) - a.2 = 0 := by grind
    exact S.ne (Prod.ext (eqi (by grind)) (eqi (by grind)))
  obtain ⟨w, ri⟩ : ∃ w : Rat, r * w = 1 := ⟨1 / r, by grind⟩
  have rp : 0 < w := by
    apply Rat.not_le.mp
    intro z
    have := mulm (Rat.le_of_lt r0) z
    grind
  have w1 := mulp rp hp0
  have w2 := mulp rp hp1
  have ac : a = c := by
    rcases Rat.le_total (a := 0) (b := p - r * q) with z | z
    · rcases noIn2 (z := c) (p := p - r * q) S T.za ⟨z, by grind, cx, cy⟩ with e | e
      · exact e.symm
      · exfalso
        rw [e] at cx cy
        exact far (p - r * q) 1 (by grind) (by grind) (by grind)
    · have m3 := mulm (Rat.le_of_lt rp) z
      have m4 : w * (p - r * q) = w * p - q := by grind
      rcases noIn2 (z := a) (p := q - w * p) T S.za ⟨by grind, by grind, by grind, by grind⟩ with e | e
      · exact e
      · exfalso
        rw [← e] at dx dy
        exact far (p + r * (1 - q)) 0 (by grind) (by grind) (by grind)
  have bd : b = d := by
    rcases Rat.le_total (a := p + r * (1 - q)) (b := 1) with z | z
    · rcases noIn2 (z := d) (p := p + r * (1 - q)) S T.zb ⟨by grind, z, dx, dy⟩ with e | e
      · exfalso
        rw [e] at dx dy
        exact far (p + r * (1 - q)) 0 (by grind) (by grind) (by grind)
      · exact e.symm
    · have m3 := mulm (Rat.le_of_lt rp) z
      have m4 : w * (p + r * (1 - q)) = w * p + 1 - q := by grind
      rcases noIn2 (z := b) (p := q + w * (1 - p)) T S.zb ⟨by grind, by grind, by grind, by grind⟩ with e | e
      · exfalso
        rw [← e] at cx cy
        exact far (p - r * q) 1 (by grind) (by grind) (by grind)
      · exact e
  exact ⟨ac, bd⟩
theorem castp {a b c d : P2} (h : (b.1 - a.1) * (d.2 - c.2) = (b.2 - a.2) * (d.1 - c.1)) : ((b.1 : Rat) - a.1) * ((d.2 : Rat) - c.2) = ((b.2 : Rat) - a.2) * ((d.1 : Rat) - c.1) := by
  have := congrArg (fun i : Int => (i : Rat)) h
  simp only [Rat.intCast_mul, Rat.intCast_sub] at this
  exact this
/-- two steps to the right -/
theorem noX1 {Z : P2 → Prop} {s t : Sk} {a b c d : P2} {p q X Y : Rat} (S : StepR Z s a b) (T : StepR Z t c d) (M : MeetS Z s t) (hs : s.1 < s.2.2.1) (ht : t.1 < t.2.2.1) (n1 : a.1 ≠ b.1) (n2 : c.1 ≠ d.1) (h1 : On a b p X Y) (h2 : On c d q X Y) (p0 : p ≠ 0) (p1 : p ≠ 1) (q0 : q ≠ 0) (q1 : q ≠ 1) (np : ((b.1 : Rat) - a.1) * ((d.2 : Rat) - c.2) ≠ ((b.2 : Rat) - a.2) * ((d.1 : Rat) - c.1)) : False := by
  have F := S.stp hs n1
  have G := T.stp ht n2
  have MG := meets_gr hs ht M
  obtain ⟨k, hk⟩ := slope n1
  obtain ⟨k', hk'⟩ := slope n2
  obtain ⟨xa, xb⟩ := on_in F.lt h1 p0 p1
  obtain ⟨xc, xd⟩ := on_in G.lt h2 q0 q1
  have l1 := on_line hk h1
  have l2 := on_line hk' h2
  have ne : k ≠ k' := fun e => np (by rw [← hk, ← hk', e]; grind)
  rcases Rat.le_total (a := k) (b := k') with z | z
  · exact noX G F MG.symm hk' hk xc xd xa xb (by rw [l1, l2]) (by grind)
  · exact noX F G MG hk hk' xa xb xc xd (by rw [l1, l2]) (by grind)
/-- a step to the right and an upright one -/
theorem noV1 {Z : P2 → Prop} {s t : Sk} {a b c d : P2} {p q X Y : Rat} (S : StepR Z s a b) (T : StepR Z t c d) (M : MeetS Z s t) (hs : s.1 < s.2.2.1) (n1 : a.1 ≠ b.1) (n2 : c.1 = d.1) (lt : c.2 < d.2) (h1 : On a b p X Y) (h2 : On c d q X Y) (p0 : p ≠ 0) (p1 : p ≠ 1) : False := by
  have F := S.stp hs n1
  obtain ⟨k, hk⟩ := slope n1
  obtain ⟨xa, xb⟩ := on_in F.lt h1 p0 p1
  have l1 := on_line hk h1
  obtain ⟨q0, q1, q2, q3⟩ := h2
  have eX : X = (c.1 : Rat) := by
    rw [q2, n2]
    grind
  rw [eX] at xa xb l1
  have hd := c1 lt
  have m1 := mulm (show (0 : Rat) ≤ (d.2 : Rat) - c.2 by grind) q0
  have m2 := mulm (show (0 : Rat) ≤ (d.2 : Rat) - c.2 by grind) q1
  refine noV F hk T.za T.zb T.ga T.gb n2 (ilt xa) (ilt xb) (by rw [l1]; grind) (by rw [l1]; grind) (fun x r e1 e2 r0 r1 ex ey nk z i j => ?_) fun z zz gz ez l2 l3 => ?_
  · obtain ⟨u, u0, u1, rfl⟩ := gr_par hs e1 e2
    rw [gr_at hs] at ey j
    refine M u r u0 u1 r0 r1 ex ey (fun hp => nk ?_) z i j
    have hg := gr_k hs
    have hp' := castp (a := (s.1, s.2.1)) (b := (s.2.2.1, s.2.2.2)) (c := (t.1, t.2.1)) (d := (t.2.2.1, t.2.2.2)) hp
    have := c1 hs
    unfold Sk.x Sk.y
    dsimp only at hp'
    grind
  · have al := T.lt
    have sgc : sg (t.2.2.2 - t.2.1) = 1 ∨ sg (t.2.2.2 - t.2.1) = -1 ∨ sg (t.2.2.2 - t.2.1) = 0 := by
      unfold sg
      split
      · exact .inl rfl
      · split
        · exact .inr (.inl rfl)
        · exact .inr (.inr rfl)
    unfold Sk.al at al
    rw [← n2] at al
    have s1 : sg (t.2.2.2 - t.2.1) = 1 := by
      rcases sgc with e | e | e
      · exact e
      · rw [e] at al
        omega
      · rw [e] at al
        omega
    refine T.no z zz gz ?_ ?_
    · unfold Sk.al
      rw [ez, s1]
      omega
    · unfold Sk.al
      rw [ez, s1, ← n2]
      omega
theorem noX2 {Z : P2 → Prop} {s t : Sk} {a b c d : P2} {p q X Y : Rat} (S : StepR Z s a b) (T : StepR Z t c d) (M : MeetS Z s t) (hs : s.1 < s.2.2.1) (n1 : a.1 ≠ b.1) (h1 : On a b p X Y) (h2 : On c d q X Y) (p0 : p ≠ 0) (p1 : p ≠ 1) (q0 : q ≠ 0) (q1 : q ≠ 1) (np : ((b.1 : Rat) - a.1) * ((d.2 : Rat) - c.2) ≠ ((b.2 : Rat) - a.2) * ((d.1 : Rat) - c.1)) : False := by
  by_cases n2 : c.1 = d.1
  · rcases Int.lt_trichotomy c.2 d.2 with h | h | h
    · exact noV1 S T M hs n1 n2 h h1 h2 p0 p1
    · exact T.ne (Prod.ext n2 h)
    · exact noV1 S T.tn (M.symm.tn.symm) hs n1 n2.symm h h1 h2.tn p0 p1
  · rcases T.right n2 with r | r
    · exact noX1 S T M hs r n1 n2 h1 h2 p0 p1 q0 q1 np
    · exact noX1 S T.tn (M.symm.tn.symm) hs r n1 (fun e => n2 e.symm) h1 h2.tn p0 p1 (by grind) (by grind) (by grind)
theorem noX3 {Z : P2 → Prop} {s t : Sk} {a b c d : P2} {p q X Y : Rat} (S : StepR Z s a b) (T : StepR Z t c d) (M : MeetS Z s t) (n1 : a.1 ≠ b.1) (h1 : On a b p X Y) (h2 : On c d q X Y) (p0 : p ≠ 0) (p1 : p ≠ 1) (q0 : q ≠ 0) (q1 : q ≠ 1) (np : ((b.1 : Rat) - a.1) * ((d.2 : Rat) - c.2) ≠ ((b.2 : Rat) - a.2) * ((d.1 : Rat) - c.1)) : False := by
  rcases S.right n1 with r | r
  · exact noX2 S T M r n1 h1 h2 p0 p1 q0 q1 np
  · exact noX2 S.tn T M.tn r (fun e => n1 e.symm) h1.tn h2 (by grind) (by grind) q0 q1 (by grind)
/-- two steps have no place in common but an end of both, or are the same -/
theorem planar {Z : P2 → Prop} {s t : Sk} {a b c d : P2} {p q X Y : Rat} (S : StepR Z s a b) (T : StepR Z t c d) (M : MeetS Z s t) (h1 : On a b p X Y) (h2 : On c d q X Y) :
    (a = c ∧ b = d) ∨ (a = d ∧ b = c) ∨ ∃ e : P2, (e = a ∨ e = b) ∧ (e = c ∨ e = d) ∧ X = e.1 ∧ Y = e.2 := by
  by_cases p0 : p = 0
  · subst p0
    have ex : X = a.1 := by have := h1.2.2.1; grind
    have ey : Y = a.2 := by have := h1.2.2.2; grind
    exact .inr (.inr ⟨a, .inl rfl, noIn2 T S.za (by rw [← ex, ← ey]; exact h2), ex, ey⟩)
  by_cases p1 : p = 1
  · subst p1
    have ex : X = b.1 := by have := h1.2.2.1; grind
    have ey : Y = b.2 := by have := h1.2.2.2; grind
    exact .inr (.inr ⟨b, .inr rfl, noIn2 T S.zb (by rw [← ex, ← ey]; exact h2), ex, ey⟩)
  by_cases q0 : q = 0
  · subst q0
    have ex : X = c.1 := by have := h2.2.2.1; grind
    have ey : Y = c.2 := by have := h2.2.2.2; grind
    exact .inr (.inr ⟨c, noIn2 S T.za (by rw [← ex, ← ey]; exact h1), .inl rfl, ex, ey⟩)
  by_cases q1 : q = 1
  · subst q1
    have ex : X = d.1 := by have := h2.2.2.1; grind
    have ey : Y = d.2 := by have := h2.2.2.2; grind
    exact .inr (.inr ⟨d, noIn2 S T.zb (by rw [← ex, ← ey]; exact h1), .inr rfl, ex, ey⟩)
  by_cases np : ((b.1 : Rat) - a.1) * ((d.2 : Rat) - c.2) = ((b.2 : Rat) - a.2) * ((d.1 : Rat) - c.1)
  · have hr : ∃ r : Rat, r ≠ 0 ∧ (d.1 : Rat) - c.1 = r * ((b.1 : Rat) - a.1) ∧ (d.2 : Rat) - c.2 = r * ((b.2 : Rat) - a.2) := by
      by_cases k : (b.1 : Rat) - a.1 = 0
      · have k2 : (b.2 : Rat) - a.2 ≠ 0 := fun z => S.ne (Prod.ext (eqi (by grind)) (eqi (by grind)))
        have k3 : (d.1 : Rat) - c.1 = 0 := by rw [k] at np; grind
        refine ⟨((d.2 : Rat) - c.2) / ((b.2 : Rat) - a.2), fun z => ?_, by rw [k, k3]; grind, by grind⟩
        have k4 : (d.2 : Rat) - c.2 = 0 := by grind
        exact T.ne (Prod.ext (eqi (by grind)) (eqi (by grind)))
      · refine ⟨((d.1 : Rat) - c.1) / ((b.1 : Rat) - a.1), fun z => ?_, by grind, by grind⟩
        have k4 : (d.1 : Rat) - c.1 = 0 := by grind
        have k5 : (d.2 : Rat) - c.2 = 0 := by rw [k4] at np; grind
        exact T.ne (Prod.ext (eqi (by grind)) (eqi (by grind)))
    obtain ⟨r, r0, e1, e2⟩ := hr
    by_cases rp : 0 < r
    · exact .inl (along1 S T h1 h2 rp e1 e2 p0 p1 q0 q1)
    · obtain ⟨u, v⟩ := along1 (r := -r) S T.tn h1 h2.tn (by grind) (by grind) (by grind) p0 p1 (by grind) (by grind)
      exact .inr (.inl ⟨u, v⟩)
  · exfalso
    by_cases n1 : a.1 = b.1
    · by_cases n2 : c.1 = d.1
      · rw [n1, n2] at np
        grind
      · exact noX3 T S M.symm n2 h2 h1 q0 q1 p0 p1 (by grind)
    · exact noX3 S T M n1 h1 h2 p0 p1 q0 q1 np
end Pl

namespace DV
open PySem PySem.Spec PyProof.Rows L2
local macro_rules | `(tactic| walk_at "dv") => `(tactic| simp (config := { failIfUnchanged := false, implicitDefEqProofs := false }) only [↓e_fnT, ↓e_dCallT, ↓k_tk2_q, ↓k_tk_q, ↓e_dCallTK, ↓k_dDc_q, ↓e_dDc, ↓k_sK_l, ↓e_dSortK, ↓notInTD_t, ↓k_zipL_q, ↓e_dZipL, ↓k_zip_q, ↓e_iZipD, ↓k_enum_q, ↓e_iEnumD, ↓k_keys_q, ↓e_iKeysD, ↓k_vals_q, ↓e_iValsD, ↓k_items_q, ↓e_iItemsD, ↓k_tru_q, ↓e_dTru, ↓truD_l, ↓truD_t, ↓truD_b, ↓truD_n, ↓k_rev_q, ↓e_sRev, ↓k_clr_q, ↓e_sClr, ↓k_ins3_q, ↓k_ins2_q, ↓k_ins_q, ↓e_sIns, ↓k_move_q, ↓e_sMove, ↓k_lc2_q, ↓e_dLc2, ↓inTD_t, ↓notBD_bb, ↓dictK_d, fgs_n, fgs_c, fg_v, fg_t, fg_u, fg_o, ↓k_rtNl_q, ↓k_sSetO_q, ↓k_sRetO_q, ↓k_nl_q, ↓k_nls_q, ↓k_nlc_q, ↓k_back_q, ↓k_lend_q, ↓k_put2_q, ↓k_put1_q, ↓k_put_q, ↓e_fnO, ↓e_sSetO, ↓e_sRetO, ↓e_dBor, ↓e_dBorO, ↓e_dBorA, ↓e_dBorT, ↓frz_0u, ↓frz_0t, ↓e_sLend, ↓ownK_o, ↓e_sPutD, ↓e_dD0, ↓inKD_d, ↓notInKD_d, ↓k_for_q, ↓e_for_n, ↓e_for_c, ↓k_sAppend1_q, ↓k_sAppend_q, ↓k_sRetOwn_q, ↓k_sPar2_q, ↓k_sPar_q, ↓k_sPar33_q, ↓k_sPar3_q, ↓k_some_q, ↓k_asI_q, ↓k_asS_q, ↓k_rng1_q, ↓k_one_q, ↓k_rng22_q, ↓k_rng21_q, ↓k_rng2_q, ↓k_two_q, ↓k_non_q, ↓k_no_q, ↓k_sSet_q, ↓k_sAsg_q, ↓k_sAsg2_q, ↓k_sIf_q, ↓k_sDrop_q, ↓k_sOwn_q, ↓k_sFor_q, ↓k_gs_q, ↓k_dOp2_q, ↓k_dOp_q, ↓k_dCh4_q, ↓k_dCh3_q, ↓k_dCh2_q, ↓k_dCh1_q, ↓k_dUn_q, ↓k_dTest_q, ↓k_dAnd_q, ↓k_dOr_q, ↓k_dNot_q, ↓k_dAndV_q, ↓k_dOrV_q, ↓k_dIf_q, ↓k_dCons2_q, ↓k_dCons_q, ↓k_dTup_q, ↓k_dLst_q, ↓k_dCall_q, ↓k_dIsi_q, ↓k_dIsi2_q, ↓k_dSl3_q, ↓k_dSl2_q, ↓k_dSl_q, ↓k_dRev_q, ↓k_s3_q, ↓k_s3a_q, ↓k_s3b_q, ↓k_s3c_q, ↓e_dSl3, ↓sl3_r2, ↓sl3_rl, ↓k_dLc_q, ↓k_dB_q, ↓chB_b, ↓tsB_b, ↓dVar_s, ↓ownL_o, ↓ownD_o, ↓roL_l, ↓e_sAppend, ↓e_sRetOwn, ↓two_2, ↓three_3, ↓e_sPar, ↓e_sPar3, ↓asI_i, ↓e_dPart, ↓asS_l, ↓asS_t, ↓e_iSeq, ↓one_1, ↓e_iRng1D, ↓e_iRng2D, ↓wipeD_n, ↓wipeD_c, ↓frz_0, ↓frz_0v, ↓frz_s, ↓e_fnD, ↓e_sSeq, ↓e_sNext, ↓e_sBreak, ↓e_sCont, ↓e_sSet, ↓e_sAsg, ↓e_sAsg2, ↓e_sIf, ↓e_sRet, ↓e_sRetN, ↓e_sDrop, ↓e_sNever, ↓e_sOwn, ↓e_sFrz, ↓e_sFor, ↓e_gN, ↓e_gT_t, ↓e_gsNil_n, ↓e_gsCons_c, ↓e_dVar_0, ↓e_dVar_0t, ↓e_dC, ↓e_dOp, ↓e_dChain, ↓e_dUn, ↓e_dTest, ↓e_dAnd, ↓e_dOr, ↓e_dNot, ↓e_dAndV, ↓e_dOrV, ↓e_dIf, ↓e_dNil, ↓e_dCons, ↓e_dTup, ↓e_dLst, ↓e_dCall, ↓e_dB, ↓e_dIsi, ↓e_dIsi2, ↓e_dSl, ↓e_dRev, ↓e_dNo, ↓e_dYes, ↓e_dLc,
  ↓addD_ii, ↓addD_tt, ↓addD_ll, ↓subD_ii, ↓mulD_ii, ↓fdivD_ii, ↓modD_ii, ↓powD_10_9, ↓powD_10_6, ↓ltA_ii, ↓leA_ii, ↓gtA_ii, ↓geA_ii, ↓ltA_t2, ↓leA_t2, ↓gtA_t2, ↓geA_t2, ↓max2A_ii, ↓min2A_ii, ↓slh4, ↓slt4', ↓max2A_c, ↓min2A_c, ↓revD_l, ↓isNon_n, ↓isNon_t, ↓isNon_l, ↓notNon_n, ↓notNon_t, ↓isBD_bb, ↓negD_i, ↓notD_b, ↓absD_i, ↓intC_i, ↓intC_b, ↓lenD_l, ↓lenD_t, ↓listD_l, ↓listD_t, ↓tupleD_l, ↓tupleD_t, ↓allD_l, ↓anyD_l, ↓ixT0, ↓ixT1, ↓ixT2, ↓ixT3, ↓ixL0, ↓ixL1, ↓ixL2, ↓ixL3, ↓slD_l,
  eqD, neD,  sl0, sl1, sl2, sl3, sl4, sl5, sl6, sl7, sl8, sl9, sl10, sl11, sl12, slt0, slt1, slt2, slt3, slt4, slt5, slt6, slt7, slt8, slt9, slt10, slt11, slt12, lay_i, lay_b, lay_n, lay_t0, lay_l0, lay_t2, lay_t4, eqb_ii, eqb_bb, eqb_ss, eqb_nn, eqb_tt, eqb_ll, eqbs_nn, eqbs_cc, eqbs_nc, eqbs_cn, tag_n, tag_c, tagS_v, tagS_u, tagS_o, tagS_t, back_n, back_c, backS_vt, backS_tt, backS_ot, backS_ut, backS_u, backS_v, backS_l, backS_d, ownS_l, ownS_d, ownS_t, ownS_i, ownS_n, noLst_l, noLst_i, noLst_b, noLst_s, noLst_n, noLst_d, noLst_t, noLsts_n, noLsts_c, nlc_l, nlc_d, nlc_i, nlc_b, nlc_t, tyOk_n, tyOk_b, tyOk_i, tyOk_s, tyOk_t, tyOk_l, isi_n, isi_b, isi_i, isi_s, isi_t, isi_l,
  List.map_cons, List.map_nil, List.cons_append, List.nil_append, List.append_nil, List.append_assoc, List.length_cons, List.length_nil, List.getElem?_cons_zero, List.getElem?_cons_succ, List.set_cons_zero, List.set_cons_succ, List.replicate, Nat.reduceAdd, Nat.reduceSub, Nat.zero_add, Nat.reduceLeDiff, Nat.reduceEqDiff,
  if_true, if_false, true_and, and_true, and_self, Bool.not_true, Bool.not_false, Bool.false_eq_true, Bool.and_true, Bool.true_and, Bool.or_false, Bool.false_or, Bool.or_true, Bool.true_or, decide_eq_true_eq, decide_true, decide_false, beq_self_eq_true, beq_iff_eq, String.reduceEq, reduceIte, reduceCtorEq])
local macro_rules | `(tactic| walk_at "dw") => `(tactic| simp (config := { failIfUnchanged := false, implicitDefEqProofs := false }) only [↓e_fnT, ↓e_dCallT, ↓k_tk2_q, ↓k_tk_q, ↓e_dCallTK, ↓k_dDc_q, ↓e_dDc, ↓k_sK_l, ↓e_dSortK, ↓notInTD_t, ↓k_zipL_q, ↓e_dZipL, ↓k_zip_q, ↓e_iZipD, ↓k_enum_q, ↓e_iEnumD, ↓k_keys_q, ↓e_iKeysD, ↓k_vals_q, ↓e_iValsD, ↓k_items_q, ↓e_iItemsD, ↓k_tru_q, ↓e_dTru, ↓truD_l, ↓truD_t, ↓truD_b, ↓truD_n, ↓k_rev_q, ↓e_sRev, ↓k_clr_q, ↓e_sClr, ↓k_ins3_q, ↓k_ins2_q, ↓k_ins_q, ↓e_sIns, ↓k_move_q, ↓e_sMove, ↓k_lc2_q, ↓e_dLc2, ↓inTD_t, ↓notBD_bb, ↓dictK_d, fgs_n, fgs_c, fg_v, fg_t, fg_u, fg_o, ↓k_rtNl_q, ↓k_sSetO_q, ↓k_sRetO_q, ↓k_nl_q, ↓k_nls_q, ↓k_nlc_q, ↓k_back_q, ↓k_lend_q, ↓k_put2_q, ↓k_put1_q, ↓k_put_q, ↓e_fnO, ↓e_sSetO, ↓e_sRetO, ↓e_dBor, ↓e_dBorO, ↓e_dBorA, ↓e_dBorT, ↓frz_0u, ↓frz_0t, ↓e_sLend, ↓ownK_o, ↓e_sPutD, ↓e_dD0, ↓inKD_d, ↓notInKD_d, ↓k_for_q, ↓k_sAppend1_q, ↓k_sAppend_q, ↓k_sRetOwn_q, ↓k_sPar2_q, ↓k_sPar_q, ↓k_sPar33_q, ↓k_sPar3_q, ↓k_some_q, ↓k_asI_q, ↓k_asS_q, ↓k_rng1_q, ↓k_one_q, ↓k_rng22_q, ↓k_rng21_q, ↓k_rng2_q, ↓k_two_q, ↓k_non_q, ↓k_no_q, ↓k_sSet_q, ↓k_sAsg_q, ↓k_sAsg2_q, ↓k_sIf_q, ↓k_sDrop_q, ↓k_sOwn_q, ↓k_sFor_q, ↓k_gs_q, ↓k_dOp2_q, ↓k_dOp_q, ↓k_dCh4_q, ↓k_dCh3_q, ↓k_dCh2_q, ↓k_dCh1_q, ↓k_dUn_q, ↓k_dTest_q, ↓k_dAnd_q, ↓k_dOr_q, ↓k_dNot_q, ↓k_dAndV_q, ↓k_dOrV_q, ↓k_dIf_q, ↓k_dCons2_q, ↓k_dCons_q, ↓k_dTup_q, ↓k_dLst_q, ↓k_dCall_q, ↓k_dIsi_q, ↓k_dIsi2_q, ↓k_dSl3_q, ↓k_dSl2_q, ↓k_dSl_q, ↓k_dRev_q, ↓k_s3_q, ↓k_s3a_q, ↓k_s3b_q, ↓k_s3c_q, ↓e_dSl3, ↓sl3_r2, ↓sl3_rl, ↓k_dLc_q, ↓k_dB_q, ↓chB_b, ↓tsB_b, ↓dVar_s, ↓ownL_o, ↓ownD_o, ↓roL_l, ↓e_sAppend, ↓e_sRetOwn, ↓two_2, ↓three_3, ↓e_sPar, ↓e_sPar3, ↓asI_i, ↓e_dPart, ↓asS_l, ↓asS_t, ↓e_iSeq, ↓one_1, ↓e_iRng1D, ↓e_iRng2D, ↓wipeD_n, ↓wipeD_c, ↓frz_0, ↓frz_0v, ↓frz_s, ↓e_fnD, ↓e_sSeq, ↓e_sNext, ↓e_sBreak, ↓e_sCont, ↓e_sSet, ↓e_sAsg, ↓e_sAsg2, ↓e_sIf, ↓e_sRet, ↓e_sRetN, ↓e_sDrop, ↓e_sNever, ↓e_sOwn, ↓e_sFrz, ↓e_sFor, ↓e_gN, ↓e_gT_t, ↓e_gsNil_n, ↓e_gsCons_c, ↓e_dVar_0, ↓e_dVar_0t, ↓e_dC, ↓e_dOp, ↓e_dChain, ↓e_dUn, ↓e_dTest, ↓e_dAnd, ↓e_dOr, ↓e_dNot, ↓e_dAndV, ↓e_dOrV, ↓e_dIf, ↓e_dNil, ↓e_dCons, ↓e_dTup, ↓e_dLst, ↓e_dCall, ↓e_dB, ↓e_dIsi, ↓e_dIsi2, ↓e_dSl, ↓e_dRev, ↓e_dNo, ↓e_dYes, ↓e_dLc,
  ↓addD_ii, ↓addD_tt, ↓addD_ll, ↓subD_ii, ↓mulD_ii, ↓fdivD_ii, ↓modD_ii, ↓powD_10_9, ↓powD_10_6, ↓ltA_ii, ↓leA_ii, ↓gtA_ii, ↓geA_ii, ↓ltA_t2, ↓leA_t2, ↓gtA_t2, ↓geA_t2, ↓max2A_ii, ↓min2A_ii, ↓slh4, ↓slt4', ↓max2A_c, ↓min2A_c, ↓revD_l, ↓isNon_n, ↓isNon_t, ↓isNon_l, ↓notNon_n, ↓notNon_t, ↓isBD_bb, ↓negD_i, ↓notD_b, ↓absD_i, ↓intC_i, ↓intC_b, ↓lenD_l, ↓lenD_t, ↓listD_l, ↓listD_t, ↓tupleD_l, ↓tupleD_t, ↓allD_l, ↓anyD_l, ↓ixT0, ↓ixT1, ↓ixT2, ↓ixT3, ↓ixL0, ↓ixL1, ↓ixL2, ↓ixL3, ↓slD_l,
  eqD, neD,  sl0, sl1, sl2, sl3, sl4, sl5, sl6, sl7, sl8, sl9, sl10, sl11, sl12, slt0, slt1, slt2, slt3, slt4, slt5, slt6, slt7, slt8, slt9, slt10, slt11, slt12, lay_i, lay_b, lay_n, lay_t0, lay_l0, lay_t2, lay_t4, eqb_ii, eqb_bb, eqb_ss, eqb_nn, eqb_tt, eqb_ll, eqbs_nn, eqbs_cc, eqbs_nc, eqbs_cn, tag_n, tag_c, tagS_v, tagS_u, tagS_o, tagS_t, back_n, back_c, backS_vt, backS_tt, backS_ot, backS_ut, backS_u, backS_v, backS_l, backS_d, ownS_l, ownS_d, ownS_t, ownS_i, ownS_n, noLst_l, noLst_i, noLst_b, noLst_s, noLst_n, noLst_d, noLst_t, noLsts_n, noLsts_c, nlc_l, nlc_d, nlc_i, nlc_b, nlc_t, tyOk_n, tyOk_b, tyOk_i, tyOk_s, tyOk_t, tyOk_l, isi_n, isi_b, isi_i, isi_s, isi_t, isi_l,
  List.map_cons, List.map_nil, List.cons_append, List.nil_append, List.append_nil, List.append_assoc, List.length_cons, List.length_nil, List.getElem?_cons_zero, List.getElem?_cons_succ, List.set_cons_zero, List.set_cons_succ, List.replicate, Nat.reduceAdd, Nat.reduceSub, Nat.zero_add, Nat.reduceLeDiff, Nat.reduceEqDiff,
  if_true, if_false, true_and, and_true, and_self, Bool.not_true, Bool.not_false, Bool.false_eq_true, Bool.and_true, Bool.true_and, Bool.or_false, Bool.false_or, Bool.or_true, Bool.true_or, decide_eq_true_eq, decide_true, decide_false, beq_self_eq_true, beq_iff_eq, String.reduceEq, reduceIte, reduceCtorEq])
/-! ### the steps of rows, by planar -/
theorem sgn_sg (i : Int) : sgn i = Pl.sg i := by
  unfold sgn Pl.sg
  by_cases h1 : 0 < i
  · rw [if_pos h1, if_pos h1, if_neg (by omega)]
    omega
  · rw [if_neg h1, if_neg h1]
    by_cases h2 : i < 0
    · rw [if_pos h2, if_pos h2]
      omega
    · rw [if_neg h2, if_neg h2]
      omega
theorem al_pl {s : S4} {z : Sp2} : alS (sd s) z = Pl.Sk.al s z := by
  show alI _ _ _ _ _ = _
  unfold alI Pl.Sk.al
  rw [sgn_sg, sgn_sg]
theorem numden (t : Rat) : (t.num : Rat) = t * ((t.den : Int) : Rat) := by
  have h := Rat.num_divInt_den t
  rw [Rat.divInt_eq_div] at h
  have d0 : ((t.den : Int) : Rat) ≠ 0 := fun z => by
    have := Rat.intCast_eq_zero_iff.mp z
    have := t.den_pos
    omega
  have e : ((t.num : Rat) / ((t.den : Int) : Rat)) * ((t.den : Int) : Rat) = (t.num : Rat) := by grind
  rw [h] at e
  exact e.symm
theorem posden (t : Rat) : (0 : Rat) < ((t.den : Int) : Rat) := by
  have := t.den_pos
  have := Pl.c1 (i := 0) (j := (t.den : Int)) (by omega)
  simp at this
  grind
/-- a share of the way, as a fraction -/
theorem share {t : Rat} (h0 : 0 ≤ t) (h1 : t ≤ 1) : ∃ p q : Int, 0 < q ∧ 0 ≤ p ∧ p ≤ q ∧ t * (q : Rat) = (p : Rat) := by
  have d := posden t
  have e := numden t
  have m1 := Pl.mulm (Rat.le_of_lt d) h0
  have m2 := Pl.mulm (Rat.le_of_lt d) h1
  refine ⟨t.num, t.den, by have := t.den_pos; omega, ?_, ?_, e.symm⟩
  · apply Rat.intCast_le_intCast.mp
    simp
    grind
  · apply Rat.intCast_le_intCast.mp
    grind
theorem qpos {q : Int} (h : 0 < q) : (0 : Rat) < (q : Rat) := by
  have := Pl.c1 h
  simp at this
  grind
theorem share' {p q : Int} (h : 0 < q) (h0 : 0 ≤ p) (h1 : p ≤ q) : ∃ t : Rat, 0 ≤ t ∧ t ≤ 1 ∧ t * (q : Rat) = (p : Rat) := by
  have d := qpos h
  have p0 : (0 : Rat) ≤ (p : Rat) := by
    have := Rat.intCast_le_intCast.mpr h0
    simpa using this
  have p1 : (p : Rat) ≤ (q : Rat) := Rat.intCast_le_intCast.mpr h1
  have e : ((p : Rat) / (q : Rat)) * (q : Rat) = (p : Rat) := by grind
  refine ⟨(p : Rat) / (q : Rat), ?_, ?_, e⟩
  · apply Rat.not_lt.mp
    intro l
    have := Pl.mulp d l
    grind
  · apply Rat.not_lt.mp
    intro l
    have := Pl.mulp d l
    grind
theorem inX_R {x dx m p q : Int} {t : Rat} (q0 : 0 < q) (e : t * (q : Rat) = (p : Rat)) : inX x dx m p q ↔ Pl.InR m ((x : Rat) + (dx : Rat) * t) := by
  have d := qpos q0
  have c : ∀ i j : Int, i ≤ j ↔ (i : Rat) ≤ (j : Rat) := fun i j => Rat.intCast_le_intCast.symm
  have c' : ∀ i j : Int, i < j ↔ (i : Rat) < (j : Rat) := fun i j => Rat.intCast_lt_intCast.symm
  unfold inX Pl.InR
  rw [c, c']
  simp only [Rat.intCast_mul, Rat.intCast_sub, Rat.intCast_add]
  have e2 : 2 * (x : Rat) * q + 2 * dx * p = 2 * ((x : Rat) + dx * t) * q := by grind
  have two : ((2 : Int) : Rat) = 2 := rfl
  have one : ((1 : Int) : Rat) = 1 := rfl
  rw [two, one, e2]
  constructor
  · rintro ⟨h1, h2⟩
    constructor
    · apply Rat.not_lt.mp
      intro l
      have := Pl.mulp d l
      grind
    · apply Rat.not_le.mp
      intro l
      have := Pl.mulm (Rat.le_of_lt d) l
      grind
  · rintro ⟨h1, h2⟩
    have m1 := Pl.mulm (Rat.le_of_lt d) h1
    have m2 := Pl.mulp d h2
    constructor <;> grind
theorem go_pl {s : S4} {z : Sp2} : goB (sd s) z = true ↔ Pl.Sk.Go s z := by
  show goB (.tup [.int s.1, .int s.2.1, .int s.2.2.1, .int s.2.2.2]) z = true ↔ _
  rw [goB_iff]
  constructor
  · rintro ⟨p, q, q0, p0, p1, h1, h2⟩
    obtain ⟨t, t0, t1, e⟩ := share' q0 p0 p1
    refine ⟨t, t0, t1, ?_, ?_⟩
    · have := (inX_R q0 e).mp h1
      rw [Rat.intCast_sub] at this
      exact this
    · have := (inX_R q0 e).mp h2
      rw [Rat.intCast_sub] at this
      exact this
  · rintro ⟨t, t0, t1, h1, h2⟩
    obtain ⟨p, q, q0, p0, p1, e⟩ := share t0 t1
    refine ⟨p, q, q0, p0, p1, (inX_R q0 e).mpr ?_, (inX_R q0 e).mpr ?_⟩
    · rw [Rat.intCast_sub]
      exact h1
    · rw [Rat.intCast_sub]
      exact h2
/-- a place on a stroke, told by parts -/
theorem onS_R {a b c d' x v y w : Int} (v0 : 0 < v) (w0 : 0 < w) : OnS a b c d' x v y w ↔ ∃ t : Rat, 0 ≤ t ∧ t ≤ 1 ∧ (x : Rat) = ((a : Rat) + ((c : Rat) - a) * t) * v ∧ (y : Rat) = ((b : Rat) + ((d' : Rat) - b) * t) * w := by
  constructor
  · rintro ⟨p, q, q0, p0, p1, h1, h2⟩
    obtain ⟨t, t0, t1, e⟩ := share' q0 p0 p1
    have k1 := congrArg (fun i : Int => (i : Rat)) h1
    have k2 := congrArg (fun i : Int => (i : Rat)) h2
    simp only [Rat.intCast_mul, Rat.intCast_sub, Rat.intCast_add] at k1 k2
    have d := qpos q0
    rw [← e] at k1 k2
    have f1 : ((x : Rat) - ((a : Rat) + ((c : Rat) - a) * t) * v) * q = 0 := by grind
    have f2 : ((y : Rat) - ((b : Rat) + ((d' : Rat) - b) * t) * w) * q = 0 := by grind
    exact ⟨t, t0, t1, by grind, by grind⟩
  · rintro ⟨t, t0, t1, h1, h2⟩
    obtain ⟨p, q, q0, p0, p1, e⟩ := share t0 t1
    refine ⟨p, q, q0, p0, p1, Pl.eqi ?_, Pl.eqi ?_⟩
    · simp only [Rat.intCast_mul, Rat.intCast_sub, Rat.intCast_add]
      grind
    · simp only [Rat.intCast_mul, Rat.intCast_sub, Rat.intCast_add]
      grind
theorem nearI_R {x v : Int} (v0 : 0 < v) {X : Rat} (e : (x : Rat) = X * v) : Pl.InR (nearI x v) X := by
  have d := qpos v0
  obtain ⟨h1, h2⟩ := nearI_between (o := x) v0
  have h1 := Rat.intCast_le_intCast.mpr h1
  have h2 := Rat.intCast_lt_intCast.mpr h2
  simp only [Rat.intCast_mul, Rat.intCast_sub, Rat.intCast_add] at h1 h2
  have two : ((2 : Int) : Rat) = 2 := rfl
  have one : ((1 : Int) : Rat) = 1 := rfl
  rw [two, one] at h1 h2
  constructor
  · apply Rat.not_lt.mp
    intro l
    have := Pl.mulp d l
    grind
  · apply Rat.not_le.mp
    intro l
    have := Pl.mulm (Rat.le_of_lt d) l
    grind
theorem in100s {s : S4} (h : s.ok) : In100 s.1 ∧ In100 s.2.1 ∧ In100 s.2.2.1 ∧ In100 s.2.2.2 := ⟨in100 h.1.1 h.1.2, in100 h.2.1.1 h.2.1.2, in100 h.2.2.1.1 h.2.2.1.2, in100 h.2.2.2.1.1 h.2.2.2.1.2⟩
theorem par_self (s : S4) : Pl.Sk.par s s := Int.mul_comm _ _
theorem zip_strict {f : Sp2 → Int} : ∀ {L : List Sp2}, (L.Pairwise fun z w => f z < f w) → ∀ {a b : Sp2}, (a, b) ∈ L.zip L.tail → a ∈ L ∧ b ∈ L ∧ f a < f b ∧ ∀ z ∈ L, f a < f z → f z < f b → False
  | [], _, _, _, h => by cases h
  | [x], _, _, _, h => by simp at h
  | x :: y :: r, up, a, b, h => by
    have up' := up
    rw [List.pairwise_cons] at up
    rw [List.tail_cons, List.zip_cons_cons] at h
    rcases List.mem_cons.mp h with e | h
    · have e1 : a = x := congrArg Prod.fst e
      have e2 : b = y := congrArg Prod.snd e
      subst e1 e2
      refine ⟨List.mem_cons_self, List.mem_cons_of_mem _ List.mem_cons_self, up.1 _ List.mem_cons_self, fun z hz l1 l2 => ?_⟩
      rcases List.mem_cons.mp hz with rfl | hz
      · omega
      · rcases List.mem_cons.mp hz with rfl | hz
        · omega
        · have := (List.pairwise_cons.mp up.2).1 z hz
          omega
    · obtain ⟨h1, h2, h3, h4⟩ := zip_strict (L := y :: r) up.2 h
      refine ⟨List.mem_cons_of_mem _ h1, List.mem_cons_of_mem _ h2, h3, fun z hz l1 l2 => ?_⟩
      rcases List.mem_cons.mp hz with rfl | hz
      · have := up.1 a h1
        omega
      · exact h4 z hz l1 l2
/-- a step of a row -/
theorem step_pl {s : S4} {Z : List Sp2} (hs : s.ok) (nd : Z.Nodup) {a b : Sp2} (h : (a, b) ∈ stepsR (bentL (sd s) Z)) : Pl.StepR (· ∈ Z) s a b := by
  obtain ⟨h1, h2, h3, h4⟩ := zip_strict (bent_strict hs.sok nd) h
  obtain ⟨z1, g1⟩ := mem_bent.mp h1
  obtain ⟨z2, g2⟩ := mem_bent.mp h2
  refine ⟨z1, z2, go_pl.mp g1, go_pl.mp g2, by rw [← al_pl, ← al_pl]; exact h3, fun z hz gz l1 l2 => ?_⟩
  rw [← al_pl, ← al_pl] at l1 l2
  exact h4 z (mem_bent.mpr ⟨hz, go_pl.mpr gz⟩) l1 l2

/-! ### pieces meet in ends alone -/
def p4 (y : Sp2 × Sp2) : S4 := (y.1.1, y.1.2, y.2.1, y.2.2)
theorem onS_on {y : Sp2 × Sp2} {x v z w : Int} (v0 : 0 < v) (w0 : 0 < w) (h : OnS y.1.1 y.1.2 y.2.1 y.2.2 x v z w) : ∃ u A B : Rat, Pl.On y.1 y.2 u A B ∧ (x : Rat) = A * v ∧ (z : Rat) = B * w := by
  obtain ⟨t, t0, t1, h1, h2⟩ := (onS_R v0 w0).mp h
  exact ⟨t, _, _, ⟨t0, t1, rfl, rfl⟩, h1, h2⟩
theorem both_on {y y' : Sp2 × Sp2} {x v z w : Int} (v0 : 0 < v) (w0 : 0 < w) (h : Both y.1.1 y.1.2 y.2.1 y.2.2 y'.1.1 y'.1.2 y'.2.1 y'.2.2 x v z w) : ∃ u u' A B : Rat, Pl.On y.1 y.2 u A B ∧ Pl.On y'.1 y'.2 u' A B ∧ (x : Rat) = A * v ∧ (z : Rat) = B * w := by
  obtain ⟨u, A, B, o1, e1, e2⟩ := onS_on v0 w0 h.1
  obtain ⟨u', A', B', o2, e3, e4⟩ := onS_on v0 w0 h.2
  have d1 := qpos v0
  have d2 := qpos w0
  have a : (A - A') * v = 0 := by grind
  have b : (B - B') * w = 0 := by grind
  have a' : A = A' := by grind
  have b' : B = B' := by grind
  subst a' b'
  exact ⟨u, u', A, B, o1, o2, e1, e2⟩
/-! ### steps of rows that are laid again -/
/-! ### rows laid again and again: no two steps cross -/
structure LvS (Z : List Sp2) (A : S4 → Prop) : Prop where
  ok : ∀ s, A s → s.ok
  meet : ∀ s t, A s → A t → Pl.MeetS (· ∈ Z) s t
def nextL (Z : List Sp2) (A : S4 → Prop) : S4 → Prop := fun u => ∃ s, A s ∧ ∃ t ∈ stepsR (bentL (sd s) Z), u = p4 t
theorem p4_ok {t : Sp2 × Sp2} (h1 : SpB t.1) (h2 : SpB t.2) (ne : t.1 ≠ t.2) : (p4 t).ok := ⟨h1.1, h1.2, h2.1, h2.2, fun z => ne (Prod.ext z.1.symm z.2.symm)⟩
theorem LvS.next {Z : List Sp2} {A : S4 → Prop} (nd : Z.Nodup) (zb : ∀ z ∈ Z, SpB z) (h : LvS Z A) : LvS Z (nextL Z A) where
  ok := by
    rintro u ⟨s, hs, t, ht, rfl⟩
    have S := step_pl (h.ok s hs) nd ht
    exact p4_ok (zb _ S.za) (zb _ S.zb) S.ne
  meet := by
    rintro u u' ⟨s, hs, t, ht, rfl⟩ ⟨s', hs', t', ht', rfl⟩
    intro p q p0 p1 q0 q1 ex ey np z i j
    have S := step_pl (h.ok s hs) nd ht
    have S' := step_pl (h.ok s' hs') nd ht'
    rcases Pl.planar S S' (h.meet s s' hs hs') (p := p) (q := q) (X := Pl.Sk.x (p4 t) p) (Y := Pl.Sk.y (p4 t) p) ⟨p0, p1, rfl, rfl⟩ ⟨q0, q1, ex, ey⟩ with ⟨e1, e2⟩ | ⟨e1, e2⟩ | ⟨e, h1, h2, h3, h4⟩
    · exfalso
      apply np
      have : t = t' := Prod.ext e1 e2
      rw [this]
      exact par_self _
    · exfalso
      apply np
      have : t = (t'.2, t'.1) := Prod.ext e1 e2
      rw [this]
      unfold Pl.Sk.par p4
      dsimp only
      grind
    · rw [h3] at i
      rw [h4] at j
      have e1 : z.1 = e.1 := i.uniq (by unfold Pl.InR; grind)
      have e2 : z.2 = e.2 := j.uniq (by unfold Pl.InR; grind)
      have : z = e := Prod.ext e1 e2
      rw [this]
      rcases h1 with rfl | rfl
      · exact S.za
      · exact S.zb
/-- two steps of such rows -/
theorem LvS.on {Z : List Sp2} {A : S4 → Prop} (nd : Z.Nodup) (h : LvS Z A) {t t' : Sp2 × Sp2} (ht : nextL Z A (p4 t)) (ht' : nextL Z A (p4 t')) (ne : pcS t ≠ pcS t') {u v X Y : Rat} (o1 : Pl.On t.1 t.2 u X Y) (o2 : Pl.On t'.1 t'.2 v X Y) : ∃ e : Sp2, (e = t.1 ∨ e = t.2) ∧ (e = t'.1 ∨ e = t'.2) ∧ X = e.1 ∧ Y = e.2 := by
  obtain ⟨s, hs, r, hr, e⟩ := ht
  obtain ⟨s', hs', r', hr', e'⟩ := ht'
  have p4i : ∀ {a b : Sp2 × Sp2}, p4 a = p4 b → a = b := fun {a b} h => by
    unfold p4 at h
    simp only [Prod.mk.injEq] at h
    exact Prod.ext (Prod.ext h.1 h.2.1) (Prod.ext h.2.2.1 h.2.2.2)
  obtain rfl := p4i e
  obtain rfl := p4i e'
  rcases Pl.planar (step_pl (h.ok s hs) nd hr) (step_pl (h.ok s' hs') nd hr') (h.meet s s' hs hs') o1 o2 with ⟨e1, e2⟩ | ⟨e1, e2⟩ | h
  · exact absurd (congrArg pcS (Prod.ext e1 e2)) ne
  · refine absurd ?_ ne
    rw [← pcS_swap t']
    exact congrArg pcS (Prod.ext e1 e2)
  · exact h

/-! ### the rows of the n-th laying -/
/-! ### pieces that don't cross -/
structure PlY (Z : List Sp2) (Y : List (Sp2 × Sp2)) : Prop where
  nd : Y.Nodup
  zn : Z.Nodup
  zb : ∀ z ∈ Z, SpB z
  ends : ∀ y ∈ Y, y.1 ∈ Z ∧ y.2 ∈ Z ∧ y.1 ≠ y.2 ∧ pcS y = y
  cov : ∀ z ∈ Z, ∃ y ∈ Y, z = y.1 ∨ z = y.2
  on : ∀ y ∈ Y, ∀ w ∈ Y, y ≠ w → ∀ u v A B : Rat, Pl.On y.1 y.2 u A B → Pl.On w.1 w.2 v A B → ∃ e : Sp2, (e = y.1 ∨ e = y.2) ∧ (e = w.1 ∨ e = w.2) ∧ A = e.1 ∧ B = e.2
theorem PlY.p4 {Z : List Sp2} {Y : List (Sp2 × Sp2)} (h : PlY Z Y) {y : Sp2 × Sp2} (hy : y ∈ Y) : (p4 y).ok := by
  obtain ⟨z1, z2, ne, _⟩ := h.ends y hy
  exact p4_ok (h.zb _ z1) (h.zb _ z2) ne
/-- where two pieces meet -/
theorem PlY.meet {Z : List Sp2} {Y : List (Sp2 × Sp2)} (h : PlY Z Y) {y w : Sp2 × Sp2} (hy : y ∈ Y) (hw : w ∈ Y) (ne : y ≠ w) {z : Sp2} (hm : meetSp (sd (DV.p4 y)) (sd (DV.p4 w)) = some z) : z ∈ Z := by
  have o1 := h.p4 hy
  have o2 := h.p4 hw
  obtain ⟨a1, a2, a3, a4⟩ := in100s o1
  obtain ⟨b1, b2, b3, b4⟩ := in100s o2
  have mf := meet_f a1 a2 a3 a4 b1 b2 b3 b4 o1.2.2.2.2 o2.2.2.2.2
  have on := fun x v z u v0 w0 (h : Both y.1.1 y.1.2 y.2.1 y.2.2 w.1.1 w.1.2 w.2.1 w.2.2 x v z u) => both_on (y := y) (y' := w) v0 w0 h
  have hm : placeSp (meetD y.1.1 y.1.2 y.2.1 y.2.2 w.1.1 w.1.2 w.2.1 w.2.2) = some z := hm
  unfold DV.p4 at mf
  dsimp only at mf
  generalize meetD y.1.1 y.1.2 y.2.1 y.2.2 w.1.1 w.1.2 w.2.1 w.2.2 = M at *
  cases mf with
  | non _ => cases hm
  | at_ x v b u v0 u0 _ _ c1 c2 o _ =>
    obtain ⟨k, k', A, B, p1, p2, e1, e2⟩ := on x v b u v0 u0 o
    obtain ⟨e, h1, h2, rfl, rfl⟩ := h.on y hy w hw ne _ _ _ _ p1 p2
    simp only [placeSp, if_true, Option.some.injEq] at hm
    have i1 := nearI_R v0 e1
    have i2 := nearI_R u0 e2
    have f1 : nearI x v = e.1 := i1.uniq (by unfold Pl.InR; grind)
    have f2 : nearI b u = e.2 := i2.uniq (by unfold Pl.InR; grind)
    have : z = e := by rw [← hm, f1, f2]
    rw [this]
    obtain ⟨z1, z2, _⟩ := h.ends y hy
    rcases h1 with rfl | rfl
    · exact z1
    · exact z2
  | along p q r s lt c1 c2 _ =>
    simp only [placeSp] at hm
    cases hm
/-! ### spots, layings, rest, with sets of any size -/
/-! ### pieces told as a heap of their own -/
/-! ### the pieces of a laying; those of its pieces -/
def PS (Z : List Sp2) (d : D) (p : Sp2 × Sp2) : Prop := ∃ t ∈ stepsR (bentL d Z), p = pcS t
/-! ### the law's own bending, at any list of spots -/
/-! ### the squares in a stretch -/
/-! ### rows as lists or as tuples -/
/-! ### heaps of at most ten strokes -/
/-! ### a dict from pieces to numbers -/
/-! ### what goes along pieces -/
def ltP (u w : Sp2) : Prop := u.1 < w.1 ∨ (u.1 = w.1 ∧ u.2 < w.2)
instance (u w : Sp2) : Decidable (ltP u w) := by unfold ltP; infer_instance
/-! ### places, and steps beside them -/
/-! ### a flow: its pieces, what goes along each -/
abbrev Fl := List ((Sp2 × Sp2) × Int)
/-! ### a dict from spots to numbers -/
/-! ### what goes along pieces -/

/-! ### what comes and goes at each spot -/
/-! ### the least spot -/
def lower (a y : Sp2) : Sp2 := if ltP y a then y else a
def least (z : Sp2) (r : List Sp2) : Sp2 := r.foldl lower z
/-! ### rings, closed -/
def cyc (F : List Sp2) : List (Sp2 × Sp2) := (List.range F.length).map fun k => (F.getD ((k + F.length - 1) % F.length) (0, 0), F.getD k (0, 0))
def ringL (F : List Sp2) : List (Sp2 × Sp2) := (cyc F).filter fun t => decide (t.1 ≠ t.2)
theorem cyc_mem {F : List Sp2} (h : F ≠ []) {t : Sp2 × Sp2} (ht : t ∈ cyc F) : t.1 ∈ F ∧ t.2 ∈ F := by
  unfold cyc at ht
  obtain ⟨k, hk, rfl⟩ := List.mem_map.mp ht
  have hk := List.mem_range.mp hk
  have n0 := List.length_pos_iff.mpr h
  have get : ∀ j, j < F.length → F.getD j (0, 0) ∈ F := fun j hj => by
    rw [List.getD_eq_getElem?_getD, List.getElem?_eq_getElem hj]
    exact List.getElem_mem _
  exact ⟨get _ (Nat.mod_lt _ n0), get _ hk⟩
/-- at each spot as many come as go -/
def comes (L : List (Sp2 × Sp2)) (z : Sp2) : Int := (L.map fun t => (if t.2 = z then 1 else 0) - (if t.1 = z then (1 : Int) else 0)).sum
theorem comes_filter (L : List (Sp2 × Sp2)) (z : Sp2) : comes (L.filter fun t => decide (t.1 ≠ t.2)) z = comes L z := by
  unfold comes
  induction L with
  | nil => rfl
  | cons t L ih =>
    by_cases c : t.1 = t.2
    · rw [List.filter_cons_of_neg (by simp [c]), ih, List.map_cons, List.sum_cons, c]
      omega
    · rw [List.filter_cons_of_pos (by simp [c]), List.map_cons, List.sum_cons, List.map_cons, List.sum_cons, ih]
theorem comes_ring {F : List Sp2} (h : F.length ≤ 4) (z : Sp2) : comes (ringL F) z = 0 := by
  unfold ringL
  rw [comes_filter]
  match F, h with
  | [], _ => rfl
  | [a], _ =>
    show comes [(a, a)] z = 0
    unfold comes
    simp only [List.map_cons, List.map_nil, List.sum_cons, List.sum_nil]
    omega
  | [a, b], _ =>
    rw [show cyc [a, b] = [(b, a), (a, b)] by simp [cyc, List.range_succ]]
    unfold comes
    simp only [List.map_cons, List.map_nil, List.sum_cons, List.sum_nil]
    omega
  | [a, b, c], _ =>
    rw [show cyc [a, b, c] = [(c, a), (a, b), (b, c)] by simp [cyc, List.range_succ]]
    unfold comes
    simp only [List.map_cons, List.map_nil, List.sum_cons, List.sum_nil]
    omega
  | [a, b, c, d], _ =>
    rw [show cyc [a, b, c, d] = [(d, a), (a, b), (b, c), (c, d)] by simp [cyc, List.range_succ]]
    unfold comes
    simp only [List.map_cons, List.map_nil, List.sum_cons, List.sum_nil]
    omega
  | _ :: _ :: _ :: _ :: _ :: _, h => simp at h
/-- papers of any kind -/
inductive AnyP : D → Prop where
  | c (c : Cs) : LayN 1 (csD c) → (∀ n b, c = .en n b → b = 0 ∨ b = 1) → AnyP (csD c)
  | n (L : List Str) : (∀ x ∈ L, PyData.strOk x = true) → AnyP (.tup [.str "cold", .tup (L.map D.str)])
def StrL (ds : List D) : Prop := ∀ d ∈ ds, ∃ x, d = .str x ∧ PyData.strOk x = true
theorem StrL.is : ∀ {ds : List D}, StrL ds → ∃ L : List Str, ds = L.map D.str ∧ ∀ x ∈ L, PyData.strOk x = true
  | [], _ => ⟨[], rfl, fun _ z => nomatch z⟩
  | d :: ds, h => by
    obtain ⟨L, e, hL⟩ := StrL.is (ds := ds) fun y hy => h y (List.mem_cons_of_mem _ hy)
    obtain ⟨x, ex, hx⟩ := h d List.mem_cons_self
    refine ⟨x :: L, by rw [List.map_cons, ← e, ex], fun y hy => ?_⟩
    rcases List.mem_cons.mp hy with rfl | hy
    · exact hx
    · exact hL y hy
theorem StrL.cut {a : List D} (h : StrL a) (l r : Option Int) : StrL (cutD a l r) := fun d hd => h d (List.mem_of_mem_drop (List.mem_of_mem_take hd))
/-! ### told papers: spots and papers of any kind -/
def TOk (t : Sp2 × D) : Prop := SpB t.1 ∧ AnyP t.2
def coldB : D → Bool
  | .tup (.str x :: _) => decide (x = "cold")
  | _ => false
theorem cold_c {c : Cs} : coldB (csD c) = false := by
  cases c with
  | en n b => exact decide_eq_false ne_ec
  | cr n b => exact decide_eq_false ne_cc
theorem cold_n {L : List D} : coldB (.tup [.str "cold", .tup L]) = true := by
  exact decide_eq_true (rfl : Str.ofString "cold" = Str.ofString "cold")
/-- both judges' word, once for all -/
theorem both2_ok {P : List (Str × D)} (hP : HeapP P) {z : Sp2} (hz : SpB z) {d : D} (hd : AnyP d) : ∃ b : Bool, (b = true → (coldB d = true ↔ ∀ c, ¬RowOf P (z, c))) ∧ (∀ Q : D → Prop, Q (.bl b) → c_law_paper_right [.dic (hpD P), tp z, d] Q) ∧ ∀ Q : D → Prop, Q (.bl b) → c_judge_heat [.dic (hpD P), tp z, d] Q := by
  have two : ∀ {a b : Bool} {X : Prop}, (a = true ↔ X) → (b = true ↔ X) → a = b := fun h g => Bool.eq_iff_iff.mpr (h.trans g.symm)
  have one : ∀ X : Prop, ∃ b : Bool, (b = true ↔ X) := fun X => by
    by_cases h : X
    · exact ⟨true, by simp [h]⟩
    · exact ⟨false, by simp [h]⟩
  cases hd with
  | c c hc hb =>
    obtain ⟨b, e⟩ := one (RowOf P (z, c))
    refine ⟨b, fun h => ⟨fun h' => ?_, fun h' => (h' c (e.mp h)).elim⟩, fun Q k => law_right_c hP hc fun b' e' => ?_, fun Q k => judge_c hP hc hb fun b' e' => ?_⟩
    · rw [cold_c] at h'; cases h'
    · rw [two e' e]; exact k
    · rw [two e' e]; exact k
  | n L hL =>
    by_cases hs : ∃ S, Ris P S
    · obtain ⟨S, hS⟩ := hs
      obtain ⟨b, e⟩ := one (L = goersS S z ∧ ∀ c, ¬RowOf P (z, c))
      refine ⟨b, fun h => ⟨fun _ => (e.mp h).2, fun _ => cold_n⟩, fun Q k => law_right_n hP hz hL fun S' hS' b' e' => ?_, fun Q k => judge_n hP hz hL fun S' hS' b' e' => ?_⟩
      · rw [hS'.uniq hP hS] at e'
        rw [two e' e]; exact k
      · rw [hS'.uniq hP hS] at e'
        rw [two e' e]; exact k
    · exact ⟨false, fun h => (nomatch h), fun Q k => law_right_n hP hz hL fun S' hS' b' e' => (hs ⟨S', hS'⟩).elim, fun Q k => judge_n hP hz hL fun S' hS' b' e' => (hs ⟨S', hS'⟩).elim⟩
/-- what both judges say, as a function -/
structure Says (P : List (Str × D)) (rB : Sp2 × D → Bool) : Prop where
  hot : ∀ t, TOk t → rB t = true → (coldB t.2 = true ↔ ∀ c, ¬RowOf P (t.1, c))
  law : ∀ t, TOk t → ∀ Q : D → Prop, Q (.bl (rB t)) → c_law_paper_right [.dic (hpD P), tp t.1, t.2] Q
  jud : ∀ t, TOk t → ∀ Q : D → Prop, Q (.bl (rB t)) → c_judge_heat [.dic (hpD P), tp t.1, t.2] Q
theorem says {P : List (Str × D)} (hP : HeapP P) : ∃ rB, Says P rB := by
  have h : ∀ t : Sp2 × D, ∃ b : Bool, TOk t → (b = true → (coldB t.2 = true ↔ ∀ c, ¬RowOf P (t.1, c))) ∧ (∀ Q : D → Prop, Q (.bl b) → c_law_paper_right [.dic (hpD P), tp t.1, t.2] Q) ∧ ∀ Q : D → Prop, Q (.bl b) → c_judge_heat [.dic (hpD P), tp t.1, t.2] Q := fun t => by
    by_cases ht : TOk t
    · obtain ⟨b, hb⟩ := both2_ok hP ht.1 ht.2
      exact ⟨b, fun _ => hb⟩
    · exact ⟨false, fun z => absurd z ht⟩
  obtain ⟨f, hf⟩ := Classical.axiomOfChoice h
  exact ⟨f, fun t ht => (hf t ht).1, fun t ht => (hf t ht).2.1, fun t ht => (hf t ht).2.2⟩
/-! ### rings with weights -/
def nmE (k a : Nat) : Str := (["a", "bb", "ccc"] : List Str).getD k "" ++ (["w", "x", "y", "z"] : List Str).getD a ""
theorem nmE_inj12 : ∀ i, i < 12 → ∀ j, j < 12 → nmE (i / 4) (i % 4) = nmE (j / 4) (j % 4) → i = j := by decide +kernel
theorem nmE_inj (k : Nat) (hk : k < 3) (a : Nat) (ha : a < 4) (k' : Nat) (hk' : k' < 3) (a' : Nat) (ha' : a' < 4) (h : nmE k a = nmE k' a') : k = k' ∧ a = a' := by
  have := nmE_inj12 (4 * k + a) (by omega) (4 * k' + a') (by omega) (by
    rw [show (4 * k + a) / 4 = k by omega, show (4 * k + a) % 4 = a by omega, show (4 * k' + a') / 4 = k' by omega, show (4 * k' + a') % 4 = a' by omega]
    exact h)
  omega
theorem nmE_ok : ∀ k, k < 3 → ∀ a, a < 4 → PyData.strOk (nmE k a) = true := by decide +kernel
abbrev Ev := List (Str × (Sp2 × Sp2) × Int)
/-- how much more comes than goes, by weights -/
def pours (E : Ev) (z : Sp2) : Int := (E.map fun e => e.2.2 * ((if e.2.1.2 = z then 1 else 0) - (if e.2.1.1 = z then (1 : Int) else 0))).sum
structure EvOk (E : Ev) : Prop where
  nd : (E.map (·.1)).Nodup
  ok : ∀ e ∈ E, PyData.strOk e.1 = true
  sp : ∀ e ∈ E, SpB e.2.1.1 ∧ SpB e.2.1.2 ∧ e.2.1.1 ≠ e.2.1.2
  wt : ∀ e ∈ E, -3 ≤ e.2.2 ∧ e.2.2 ≤ 3
  bal : ∀ z, pours E z = 0
theorem pours_app {A B : Ev} {z : Sp2} : pours (A ++ B) z = pours A z + pours B z := by
  unfold pours
  rw [List.map_append, List.sum_append]
/-- a ring's entries -/
def rowE (k : Nat) (w : Int) : List (Sp2 × Sp2) → Nat → Ev
  | [], _ => []
  | t :: r, a => (nmE k a, t, w) :: rowE k w r (a + 1)
theorem rowE_app {k : Nat} {w : Int} : ∀ (r : List (Sp2 × Sp2)) (a : Nat) (e : Str × (Sp2 × Sp2) × Int), e ∈ rowE k w r a → (∃ b, a ≤ b ∧ b < a + r.length ∧ e.1 = nmE k b) ∧ e.2.1 ∈ r ∧ e.2.2 = w
  | [], _, _, h => nomatch h
  | t :: r, a, e, h => by
    rcases List.mem_cons.mp h with rfl | h
    · exact ⟨⟨a, Nat.le_refl _, by simp, rfl⟩, List.mem_cons_self, rfl⟩
    · obtain ⟨⟨b, h1, h2, h3⟩, h4, h5⟩ := rowE_app r (a + 1) e h
      exact ⟨⟨b, by omega, by rw [List.length_cons]; omega, h3⟩, List.mem_cons_of_mem _ h4, h5⟩
theorem rowE_len {k : Nat} {w : Int} : ∀ (r : List (Sp2 × Sp2)) (a : Nat), (rowE k w r a).length = r.length
  | [], _ => rfl
  | _ :: r, a => by rw [rowE, List.length_cons, List.length_cons, rowE_len r]
theorem rowE_nd {k : Nat} (hk : k < 3) {w : Int} : ∀ (r : List (Sp2 × Sp2)) (a : Nat), a + r.length ≤ 4 → ((rowE k w r a).map (·.1)).Nodup
  | [], _, _ => List.nodup_nil
  | t :: r, a, h => by
    rw [List.length_cons] at h
    rw [rowE, List.map_cons, List.nodup_cons]
    refine ⟨fun z => ?_, rowE_nd hk r (a + 1) (by omega)⟩
    obtain ⟨e, he, e1⟩ := List.mem_map.mp z
    obtain ⟨⟨b, h1, h2, h3⟩, _⟩ := rowE_app r (a + 1) e he
    have e1 : e.1 = nmE k a := e1
    rw [h3] at e1
    have := (nmE_inj k hk b (by omega) k hk a (by omega) e1).2
    omega
theorem pours_row {k : Nat} {w : Int} {z : Sp2} : ∀ (r : List (Sp2 × Sp2)) (a : Nat), pours (rowE k w r a) z = w * comes r z
  | [], _ => by simp [rowE, pours, comes]
  | t :: r, a => by
    have ih := pours_row (k := k) (w := w) (z := z) r (a + 1)
    rw [rowE]
    unfold pours comes at *
    rw [List.map_cons, List.sum_cons, List.map_cons, List.sum_cons, ih, Int.mul_add]
structure EvR (k : Nat) (E : Ev) : Prop where
  ok : EvOk E
  nm : ∀ e ∈ E, ∃ j a, j < k ∧ a < 4 ∧ e.1 = nmE j a
  few : E.length ≤ 4 * k
theorem EvR.more {k : Nat} {E : Ev} (h : EvR k E) (hk : k < 3) {F : List Sp2} (hF : F ≠ []) (hl : F.length ≤ 4) (hb : ∀ z ∈ F, SpB z) {w : Int} (w0 : -3 ≤ w) (w1 : w ≤ 3) : EvR (k + 1) (E ++ rowE k w (ringL F) 0) := by
  have lR : (ringL F).length ≤ 4 := by
    have : (ringL F).length ≤ (cyc F).length := List.length_filter_le _ _
    unfold cyc at this
    rw [List.length_map, List.length_range] at this
    omega
  have rm : ∀ e ∈ rowE k w (ringL F) 0, (∃ b, b < 4 ∧ e.1 = nmE k b) ∧ e.2.1 ∈ ringL F ∧ e.2.2 = w := fun e he => by
    obtain ⟨⟨b, h1, h2, h3⟩, h4, h5⟩ := rowE_app _ _ e he
    exact ⟨⟨b, by omega, h3⟩, h4, h5⟩
  refine ⟨⟨?_, fun e he => ?_, fun e he => ?_, fun e he => ?_, fun z => ?_⟩, fun e he => ?_, ?_⟩
  · rw [List.map_append]
    refine List.nodup_append.mpr ⟨h.ok.nd, rowE_nd hk _ _ (by omega), fun a ha b hb e => ?_⟩
    obtain ⟨x, hx, rfl⟩ := List.mem_map.mp ha
    obtain ⟨y, hy, rfl⟩ := List.mem_map.mp hb
    obtain ⟨j, c, h1, h2, h3⟩ := h.nm x hx
    obtain ⟨⟨b, h4, h5⟩, _⟩ := rm y hy
    rw [h3, h5] at e
    have := (nmE_inj j (by omega) c h2 k hk b h4 e).1
    omega
  · rcases List.mem_append.mp he with he | he
    · exact h.ok.ok e he
    · obtain ⟨⟨b, h4, h5⟩, _⟩ := rm e he
      rw [h5]
      exact nmE_ok k hk b h4
  · rcases List.mem_append.mp he with he | he
    · exact h.ok.sp e he
    · obtain ⟨_, h4, _⟩ := rm e he
      obtain ⟨h5, h6⟩ := List.mem_filter.mp h4
      obtain ⟨h7, h8⟩ := cyc_mem hF h5
      exact ⟨hb _ h7, hb _ h8, of_decide_eq_true h6⟩
  · rcases List.mem_append.mp he with he | he
    · exact h.ok.wt e he
    · obtain ⟨_, _, h4⟩ := rm e he
      rw [h4]
      exact ⟨w0, w1⟩
  · rw [pours_app, pours_row, comes_ring hl, h.ok.bal]
    omega
  · rcases List.mem_append.mp he with he | he
    · obtain ⟨j, c, h1, h2, h3⟩ := h.nm e he
      exact ⟨j, c, by omega, h2, h3⟩
    · obtain ⟨⟨b, h4, h5⟩, _⟩ := rm e he
      exact ⟨k, b, by omega, h4, h5⟩
  · rw [List.length_append, rowE_len]
    have := h.few
    omega
/-! ### strokes alone, weights alone -/
/-! ### places drawn -/
/-! ### the level of a place -/
/-! ### near a stroke: a convex set; a row inside it is passed as its stroke is -/
/-! the side of a step, in fractions -/
/-! ### the law's own: whether a stroke comes so near, for all numbers -/
/-! whether the place is far from all strokes -/
/-! ### sums over flows -/
def fs (A : Fl) (φ : Sp2 × Sp2 → Int) : Int := (A.map fun a => a.2 * φ a.1).sum
/-! the spots that lose what they take -/
/-! rows and their strokes -/
/-! ### k05: strokes refused -/
def inB (i : Int) : Bool := decide (-40 ≤ i ∧ i ≤ 40)
def tp2 (a b : Int) : D := .tup [.int a, .int b]
def tp4 (a b c d : Int) : D := .tup [.int a, .int b, .int c, .int d]
theorem is_spot_at5 {a b : Int} {Q : D → Prop} (q : Q (.bl (inB a && inB b))) : c_is_spot [tp2 a b] Q := by
  unfold c_is_spot tp2
  walk_at "dv"
  unfold inB at q
  by_cases h1 : -40 ≤ a <;> by_cases h2 : a ≤ 40 <;> by_cases h3 : -40 ≤ b <;> by_cases h4 : b ≤ 40 <;> simp [h1, h2, h3, h4] at q ⊢ <;> exact q
theorem need_spot_xx5 {a b : Int} {Q : D → Prop} {W : DX} (h0 : (inB a && inB b) = true → Q .non) (h1 : (inB a && inB b) = false → W "BadSpot" [("spot", tp2 a b), ("word", .str "BadSpot")]) : c_need_spot_xxX [tp2 a b] Q W := by
  unfold c_need_spot_xxX fnX xIf xRaise1 xL
  refine ⟨rfl, ?_⟩
  walk_at "dv"
  refine is_spot_at5 ?_
  cases e : (inB a && inB b) with
  | true =>
    walk_at "dv"
    exact h0 e
  | false =>
    walk_at "dv"
    exact h1 e
def word5 (a b c d : Int) : D := if (inB a && inB b) = false then .tup [.str "BadSpot", tp2 a b] else if (inB c && inB d) = false then .tup [.str "BadSpot", tp2 c d] else if a = c ∧ b = d then .tup [.str "BadStroke", tp4 a b c d] else .non
theorem need_stroke_xx5 {a b c d : Int} {Q : D → Prop} {W : DX} (h1 : (inB a && inB b) = false → W "BadSpot" [("spot", tp2 a b), ("word", .str "BadSpot")])
    (h2 : (inB a && inB b) = true → (inB c && inB d) = false → W "BadSpot" [("spot", tp2 c d), ("word", .str "BadSpot")])
    (h3 : (inB a && inB b) = true → (inB c && inB d) = true → a = c ∧ b = d → W "BadStroke" [("stroke", tp4 a b c d), ("word", .str "BadStroke")])
    (h4 : (inB a && inB b) = true → (inB c && inB d) = true → ¬(a = c ∧ b = d) → Q .non) : c_need_stroke_xxX [tp4 a b c d] Q W := by
  unfold c_need_stroke_xxX fnX xSeq xDrop xIf xRaise1 xL tp4
  refine ⟨rfl, ?_⟩
  walk_at "dv"
  refine need_spot_xx5 (fun e1 => ?_) h1
  walk_at "dv"
  refine need_spot_xx5 (fun e2 => ?_) (h2 e1)
  walk_at "dv"
  by_cases e : a = c ∧ b = d
  · obtain ⟨rfl, rfl⟩ := e
    rw [if_pos (by simp)]
    exact h3 e1 e2 ⟨rfl, rfl⟩
  · rw [if_neg (by simpa using e)]
    exact h4 e1 e2 e
theorem need_spot5 {a b : Int} {Q : D → Prop} (h : (inB a && inB b) = true) (h0 : Q .non) : c_need_spot [tp2 a b] Q := by
  unfold c_need_spot
  walk_at "dv"
  refine is_spot_at5 ?_
  rw [h]
  walk_at "dv"
  exact h0
theorem need_stroke5 {Q : D → Prop} (q : Q .non) : c_need_stroke [tp4 0 0 0 1] Q := by
  unfold c_need_stroke tp4
  walk_at "dv"
  refine need_spot5 (by decide) ?_
  walk_at "dv"
  refine need_spot5 (by decide) ?_
  walk_at "dv"
  rw [if_neg (by decide)]
  walk_at "dv"
  exact q
theorem mm_two {f : Int → Int → Int} {a b : Int} {Q : D → Prop} (q : Q (.int (f a b))) : mm1D f [.tup [.int a, .int b]] Q := ⟨a, [b], rfl, q⟩
theorem word_lt {a b : Int} : (min a b < -40 ∨ max a b > 40) ↔ (inB a && inB b) = false := by
  unfold inB
  rw [Bool.and_eq_false_iff, decide_eq_false_iff_not, decide_eq_false_iff_not]
  omega
def bodyWd : DS := (sIf (dOr (dTest (dOp ltA (dB (mm1D min) (dCons (dVar 1) dNil)) (dUn negD (dC (.int 40))))) (dTest (dOp gtA (dB (mm1D max) (dCons (dVar 1) dNil)) (dC (.int 40))))) (sRet (dTup (dCons (dC (.str "BadSpot")) (dCons (dVar 1) dNil)))) sNext)
theorem word_step {a b : Int} {s0 : Slot} {N : DN} (h0 : (inB a && inB b) = false → N.rt (.tup [.str "BadSpot", tp2 a b])) (h1 : (inB a && inB b) = true → N.nx [s0, .v (tp2 a b)]) : bodyWd N [s0, .v (tp2 a b)] := by
  unfold bodyWd
  unfold tp2 at *
  walk_at "dv"
  refine mm_two ?_
  walk_at "dv"
  by_cases g1 : min a b < -40
  · rw [if_pos g1]
    exact h0 (word_lt.mp (.inl g1))
  · rw [if_neg g1]
    refine mm_two ?_
    walk_at "dv"
    by_cases g2 : max a b > 40
    · rw [if_pos g2]
      exact h0 (word_lt.mp (.inr g2))
    · rw [if_neg g2]
      refine h1 ?_
      cases e : (inB a && inB b) with
      | true => rfl
      | false => exact absurd (word_lt.mpr e) (by omega)
theorem stroke_word5 {a b c d : Int} {Q : D → Prop} (q : Q (word5 a b c d)) : c_law_stroke_word [tp4 a b c d] Q := by
  unfold c_law_stroke_word tp4
  walk_at "dv"
  refine word_step (fun e1 => ?_) fun e1 => ?_
  · unfold word5 at q
    rw [if_pos e1] at q
    exact q
  walk_at "dv"
  refine word_step (fun e2 => ?_) fun e2 => ?_
  · unfold word5 at q
    rw [if_neg (by simp [e1]), if_pos e2] at q
    exact q
  walk_at "dv"
  unfold word5 at q
  rw [if_neg (by simp [e1]), if_neg (by simp [e2])] at q
  by_cases e : a = c ∧ b = d
  · rw [if_pos e] at q
    rw [if_pos (by simpa using e)]
    exact q
  · rw [if_neg e] at q
    rw [if_neg (by simpa using e)]
    exact q
theorem ref5 {a b c d : Int} {T : List (Addr × Str)} {ρ : List Slot} (h : ρ[6]? = some (.tb T)) (ho : noOwn ρ = true) (h4 : ρ[4]? = some (.v (tp4 a b c d))) {Q : D → Prop} (q : Q (word5 a b c d)) : dRef c_law_refusedH 6 T (exCall c_need_stroke_xxX [] (dCons (dVar 4) dNil)) ρ Q := by
  refine ⟨h, ho, ?_⟩
  unfold exCall dCons dNil dVar
  rw [h4]
  show c_need_stroke_xxX [tp4 a b c d] _ _
  unfold word5 at q
  refine need_stroke_xx5 (fun e1 => ?_) (fun e1 e2 => ?_) (fun e1 e2 e => ?_) fun e1 e2 e => ?_
  · rw [if_pos e1] at q
    exact ⟨by simp, show 2 ≤ sizeLine by decide, _, rfl, q⟩
  · rw [if_neg (by simp [e1]), if_pos e2] at q
    exact ⟨by simp, show 2 ≤ sizeLine by decide, _, rfl, q⟩
  · rw [if_neg (by simp [e1]), if_neg (by simp [e2]), if_pos e] at q
    exact ⟨by simp, by simp, show 2 ≤ sizeLine by decide, _, rfl, q⟩
  · rw [if_neg (by simp [e1]), if_neg (by simp [e2]), if_neg e] at q
    exact q
theorem lk_w1 {n : Nat} : Lk (n + 1) (.str (Str.ofString "BadSpot")) := show PyData.strOk _ = true by decide +kernel
theorem lk_w2 {n : Nat} : Lk (n + 1) (.str (Str.ofString "BadStroke")) := show PyData.strOk _ = true by decide +kernel
theorem lk_word {a b c d : Int} : Lk 8 (word5 a b c d) := by
  unfold word5
  split
  · exact lk_two lk_w1 (lk_two lk_int lk_int)
  · split
    · exact lk_two lk_w1 (lk_two lk_int lk_int)
    · split
      · exact lk_two lk_w2 ⟨by simp, fun d hd => by
          simp only [List.mem_cons, List.not_mem_nil, or_false] at hd
          rcases hd with rfl | rfl | rfl | rfl <;> exact lk_int⟩
      · exact True.intro
def body05 (T : List (Addr × Str)) : DS := (sSeq (sSet 3 (dLc (iRng1D (dCons (dC (.int 4)) dNil)) (gN 5) dYes (dCall c_law_of [] (dCons (dVar 1) (dCons (dLst (dCons (dUn negD (dC (.int 41))) (dCons (dUn negD (dC (.int 40))) (dCons (dC (.int 40)) (dCons (dC (.int 41)) (dCons (dOp subD (dCall pullD [] (dCons (dVar 1) (dCons (dC (.int 81)) dNil))) (dC (.int 40))) (dCons (dC (.int 0)) dNil))))))) dNil))) [5])) (sSeq (sSet 4 (dB tupleD (dCons (dCall c_law_of [] (dCons (dVar 1) (dCons (dLst (dCons (dVar 3) (dCons (dVar 3) (dCons (dOp addD (dSl (dVar 3) dNo (dPart (dC (.int 2)))) (dSl (dVar 3) dNo (dPart (dC (.int 2))))) dNil)))) dNil))) dNil))) (sIf (dNot (dTest (dCall (c_law_like 8) [] (dCons (dRef c_law_refusedH 6 T (exCall c_need_stroke_xxX [] (dCons (dVar 4) dNil))) (dCons (dCall c_law_stroke_word [] (dCons (dVar 4) dNil)) dNil))))) (sRet (dC (.bl false))) sNext)))
theorem k05_is {T : List (Addr × Str)} : c_law_k05 T = fnT T 7 1 (sSeq (sSet 1 (dCall bagD [] (dCons (dVar 0) dNil))) (sSeq (sFor (iRng1D (dCons (dC (.int 9)) dNil)) (gN 2) (body05 T)) (sRet (dOp isNonD (dCall c_need_stroke [] (dCons (dTup (dCons (dC (.int 0)) (dCons (dC (.int 0)) (dCons (dC (.int 0)) (dCons (dC (.int 1)) dNil))))) dNil)) (dC .non))))) := rfl
theorem tail5 {T : List (Addr × Str)} {a b c d : Int} {s2 s3 s5 : Slot} {N : DN} (hs : noOwn [s2, s3, s5] = true) (h : N.nx [.v .scr, .v .bag, s2, s3, .v (tp4 a b c d), s5, .tb T]) :
    (sIf (dNot (dTest (dCall (c_law_like 8) [] (dCons (dRef c_law_refusedH 6 T (exCall c_need_stroke_xxX [] (dCons (dVar 4) dNil))) (dCons (dCall c_law_stroke_word [] (dCons (dVar 4) dNil)) dNil))))) (sRet (dC (.bl false))) sNext) N [.v .scr, .v .bag, s2, s3, .v (tp4 a b c d), s5, .tb T] := by
  have ho : noOwn [.v .scr, .v .bag, s2, s3, .v (tp4 a b c d), s5, .tb T] = true := by
    cases s2 <;> cases s3 <;> cases s5 <;> simp_all [noOwn]
  walk_at "dv"
  refine ref5 (a := a) (b := b) (c := c) (d := d) rfl ho rfl ?_
  walk_at "dv"
  unfold tp4
  walk_at "dv"
  refine stroke_word5 ?_
  walk_at "dv"
  refine like_ok 8 _ _ lk_word ?_
  walk_at "dv"
  exact h
theorem four_ints {ys : List D} (hl : ys.length = 4) (hy : ∀ y ∈ ys, ∃ i : Int, y = .int i) : ∃ a b c d : Int, ys = [.int a, .int b, .int c, .int d] := by
  match ys, hl with
  | [w, x, y, z], _ =>
    obtain ⟨a, rfl⟩ := hy w (by simp)
    obtain ⟨b, rfl⟩ := hy x (by simp)
    obtain ⟨c, rfl⟩ := hy y (by simp)
    obtain ⟨d, rfl⟩ := hy z (by simp)
    exact ⟨a, b, c, d, rfl⟩
theorem turn05 {T : List (Addr × Str)} {s2 s3 s4 : Slot} {N : DN} (hs : noOwn [s2] = true) (h : ∀ s3 s4, N.nx [.v .scr, .v .bag, s2, s3, s4, .un, .tb T]) : body05 T N [.v .scr, .v .bag, s2, s3, s4, .un, .tb T] := by
  unfold body05
  walk_at "dv"
  refine ⟨by decide, ?_⟩
  refine lcD_all (fun y => ∃ i : Int, y = .int i) _ _ _ (fun d hd Q1 q1 => ?_) (by decide) (fun _ z => (nomatch z)) fun ys hl hy => ?_
  · walk_at "dv"
    refine pull_ok (by decide) (by decide) fun r r0 r1 => ?_
    walk_at "dv"
    refine law_of_ok (by simp) fun y hy => q1 y ?_
    simp only [List.mem_cons, List.not_mem_nil, or_false] at hy
    rcases hy with rfl | rfl | rfl | rfl | rfl | rfl <;> exact ⟨_, rfl⟩
  obtain ⟨a, b, c, d, rfl⟩ := four_ints (ys := ys) hl hy
  have hs' : noOwn [s2, .v (.lst [.int a, .int b, .int c, .int d]), .un] = true := by
    cases s2 <;> simp_all [noOwn]
  walk_at "dv"
  rw [show cutD [D.int a, D.int b, D.int c, D.int d] none (some 2) = [.int a, .int b] from rfl]
  refine ⟨show 2 + 2 ≤ sizeLine by decide, ?_⟩
  refine law_of_ok (show 2 < 1000000 by decide) fun y hy => ?_
  simp only [List.mem_cons, List.not_mem_nil, or_false] at hy
  rcases hy with rfl | rfl | rfl
  · walk_at "dv"
    exact tail5 hs' (h _ _)
  · walk_at "dv"
    exact tail5 hs' (h _ _)
  · walk_at "dv"
    exact tail5 (a := a) (b := b) (c := a) (d := b) hs' (h _ _)
theorem plain_k05 (T : List (Addr × Str)) : c_law_k05 T [.scr] fun d => d = .bl true := by
  rw [k05_is]
  walk_at "dv"
  refine ⟨rfl, ?_⟩
  refine ⟨by decide, ?_⟩
  refine forD_inv (fun ρ => ∃ s2 s3 s4, noOwn [s2] = true ∧ ρ = [.v .scr, .v .bag, s2, s3, s4, .un, .tb T]) _ _ ⟨_, _, _, rfl, rfl⟩ ?_ ?_
  · rintro d hd ρ M ⟨s2, s3, s4, _, rfl⟩ hnx hct hrt hbk
    exact turn05 rfl fun s3 s4 => hnx _ ⟨_, _, _, rfl, rfl⟩
  · rintro ρ ⟨s2, s3, s4, _, rfl⟩
    walk_at "dv"
    refine need_stroke5 ?_
    walk_at "dv"
end DV

open PySem PySem.W PySem.Calls PyProof.Rows
set_option maxRecDepth 100000 in
set_option maxHeartbeats 0 in
theorem PySem.Challenge.cw_dotmoor_k05_strokes_refused_holds : PySem.Challenge.rw_dotmoor_k05_strokes_refused.Holds := by
  w_on; o_law
  refine HandSHeadRun.head_any (r := OpenLaw.row PySem.Challenge.rw_dotmoor_k05_strokes_refused) (q := view (OpenLaw.row PySem.Challenge.rw_dotmoor_k05_strokes_refused).prog [17]) (H := K05.hk) (ob := K05.ob) (M := 1500) (loose := ["DotError", "BadSpot", "BadStroke", "FAR", "is_spot", "need_spot", "need_stroke", "_law_bag", "_law_pull", "_law_of", "_law_like", "_law_refused", "_law_stroke_word"]) (d := HandSHeadRun.topDef (OpenLaw.row PySem.Challenge.rw_dotmoor_k05_strokes_refused).prog 17) (kwd := []) K05.ob_eq
    (by kernel_rfl) (fun s => by kernel_rfl) K05.run (by kernel_rfl) (by kernel_rfl) (by kernel_rfl) (by rfl) (by first | assumption | decide +kernel) (by decide +kernel) ⟨rfl, rfl, rfl, rfl, rfl, by decide +kernel⟩ ?hw ?hc
  case hw => w_witness2
  case hc =>
    refine DV.walk_ofTE (l := PySem.Challenge.rw_dotmoor_k05_strokes_refused) (n := 63) (k := 10) (x := "_law_script") (CX := L2.CX0) rfl (by decide) (by kernel_rfl) ⟨rfl, by decide, by decide⟩ ?F (fun _ _ _ _ z => z)
    intro w mg fa h Y G hmg0
    obtain ⟨K, KX, c⟩ := Y
    have hmg : mg ("law" : PySem.Str) = some (.ref fa) := by
      have e : (HandSHeadRun.topDef (OpenLaw.row PySem.Challenge.rw_dotmoor_k05_strokes_refused).prog 17).name = ("law" : PySem.Str) := by kernel_rfl
      rw [← e]
      exact hmg0
    obtain ⟨fd, hb, hF⟩ := K05.facts (P := (PySem.Challenge.rw_dotmoor_k05_strokes_refused).prog) (w := w) KX G hmg c
    refine ⟨K, KX, DV.lawAt_of (tf := K05.tfL) KX c (fun p hp q hq _ => ?_) hb (DV.plain_k05 _) hF⟩
    simp only [DV.tabsT, K05.tfL, List.map_cons, List.map_nil, List.mem_singleton] at hp hq
    rw [hp, hq]