import PyProof.Rows.All
import Wide.All
import OpenK.AllK
import Wide.FinOn
import HandS.ForMost
import HandS.ForExc
import HandS.Wide
import HandS.TupAny
import HandS.TupMul
import HandS.TupLe
import HandS.Style
import HandS.Conv
import HandS.Deep
import HandS.CallSlots
import HandS.IsInst
import HandS.Rev
import HandS.Zip
import HandS.SortInts
import HandS.ExcIs
import HandS.ExcValue
import HandS.HotCalls
import HandS.SetFor
import HandS.TryOnly
import HandS.RaiseMore
import HandS.Dict
import KE.DatumOrd
import HandS.RevRange
import HandS.Strs
import HandS.Text
import HandS.Replace
import HandS.Flow
import HandS.TupSets
import HandS.SortRule
import KE.DataMinMax
import HandS.TupLen
import KE.KDictCopyH
import HandS.Iter
import HandS.More
import HandS.MapJoin
import PySem.Challenge.RW_rowtongue_k06_refusals_stand_alone
set_option Elab.async false
set_option linter.all false
set_option maxRecDepth 100000
namespace Mir
open PySem PySem.Spec PyProof.Rows L2

/-! ### slots, environments, results, handles -/
/-- other objects: a desk (its tongue, its row, those ahead); a dict whose keys are whole numbers -/
inductive Bx where
  | dsk (t k : PyData) (past : List PyData)
  | idc (m : List (Int × PyData))
inductive Slot where
  | unset
  | val (d : PyData)
  | own (ds : List PyData)
  | arg (ds : List PyData)
  | exn (c : Str)
  | dic (m : List (List Int × PyData))
  | darg (m : List (List Int × PyData))
  | lck (m : List (List Int × PyData))
  | bx (x : Bx)
  | bxa (x : Bx)
abbrev En := List Slot
inductive Rs (α : Type) where
  | ok (a : α) (ρ : En)
  | exc (c : Str) (ρ : En)
  | stuck
abbrev Mo (α : Type) := En → Rs α
def bnd {α β : Type} (r : Rs α) (k : α → En → Rs β) : Rs β :=
  match r with
  | .ok a ρ => k a ρ
  | .exc c ρ => .exc c ρ
  | .stuck => .stuck
inductive Hd where
  | imm (d : PyData)
  | slot (j : Nat)
  | fresh (ds : List PyData)
def Hd.hold : Hd → Hd
  | .imm d => .imm d
  | .slot j => .slot j
  | .fresh ds => .imm (.list ds)
/-- what a handle reads -/
def dr (h : Hd) (ρ : En) : Option PyData :=
  match h with
  | .imm d => some d
  | .fresh ds => some (.list ds)
  | .slot j => match ρ[j]? with
    | some (.val d) => some d
    | some (.own ds) => some (.list ds)
    | some (.arg ds) => some (.list ds)
    | _ => none
/-- a handle's datum, let out: an own list is an own one no more -/
def esc (h : Hd) (ρ : En) : Rs PyData :=
  match h with
  | .imm d => .ok d ρ
  | .fresh ds => .ok (.list ds) ρ
  | .slot j => match ρ[j]? with
    | some (.val d) => .ok d ρ
    | some (.own ds) => .ok (.list ds) (ρ.set j (.val (.list ds)))
    | _ => .stuck

/-! ### data without lists -/
mutual
def noList : PyData → Bool
  | .list _ => false
  | .dict _ => false
  | .tuple ds => noLists ds
  | _ => true
def noLists : List PyData → Bool
  | [] => true
  | d :: ds => noList d && noLists ds
end

end Mir
namespace L2
open PySem PySem.Spec PyProof.Rows
/-! ### data over heaps -/
theorem sameT {K : PySem.W.Frag} {H H' : Hp} {a : Addr} {xs : List V} (e : Same H H') (h : SqT K H a xs) : SqT K H' a xs := by
  rcases h with (h | ⟨o, h⟩) | h
  · exact .inl (.inl (e _ _ h))
  · exact .inl (.inr ⟨o, e _ _ h⟩)
  · exact .inr h
section
variable {K : PySem.W.Frag} {G G' H H' : Hp}
mutual
theorem dp_mono (e : Same G G') : ∀ (d : PyData) (v : V), Dp K G v d → Dp K G' v d
  | .none, _, h => by cases h; exact .non
  | .bool b, _, h => by cases h; exact .bl b
  | .int i, _, h => by cases h; exact .int i
  | .str x, _, h => by cases h; exact .str x
  | .list ds, _, h => by
    cases h with
    | lst hs ha => exact .lst (e.seq hs) (dpAll_mono e ds _ ha)
  | .tuple ds, _, h => by
    cases h with
    | tup hs ha => exact .tup (sameT e hs) (dpAll_mono e ds _ ha)
  | .dict _, _, h => by cases h
theorem dpAll_mono (e : Same G G') : ∀ (ds : List PyData) (vs : List V), DpAll K G vs ds → DpAll K G' vs ds
  | [], _, h => by cases h; exact .nil
  | d :: ds, _, h => by
    cases h with
    | cons h1 h2 => exact .cons (dp_mono e d _ h1) (dpAll_mono e ds _ h2)
end
theorem Dp.mono {v : V} {d : PyData} (h : Dp K G v d) (e : Same G G') : Dp K G' v d := dp_mono e d v h
theorem DpAll.mono {vs : List V} {ds : List PyData} (h : DpAll K G vs ds) (e : Same G G') : DpAll K G' vs ds := dpAll_mono e ds vs h
theorem DpAll.length : ∀ {ds : List PyData} {vs : List V}, DpAll K G vs ds → vs.length = ds.length
  | [], _, h => by cases h; rfl
  | d :: ds, _, h => by
    cases h with
    | cons h1 h2 => simp [DpAll.length h2]
theorem DpAll.append : ∀ {ds es : List PyData} {vs ws : List V}, DpAll K G vs ds → DpAll K G ws es → DpAll K G (vs ++ ws) (ds ++ es)
  | [], _, _, _, h, h' => by cases h; exact h'
  | d :: ds, _, _, _, h, h' => by
    cases h with
    | cons h1 h2 => exact .cons h1 (DpAll.append h2 h')
theorem DpAll.get : ∀ {ds : List PyData} {vs : List V} {i : Nat} {d : PyData}, DpAll K G vs ds → ds[i]? = some d → ∃ v, vs[i]? = some v ∧ Dp K G v d
  | [], _, _, _, _, e => by simp at e
  | d :: ds, _, 0, _, h, e => by
    cases h with
    | cons h1 h2 =>
      have e' : d = _ := Option.some.inj e
      subst e'
      exact ⟨_, rfl, h1⟩
  | d :: ds, _, i + 1, _, h, e => by
    cases h with
    | cons h1 h2 =>
      obtain ⟨v, e1, e2⟩ := DpAll.get (i := i) h2 (by simpa using e)
      exact ⟨v, by simpa using e1, e2⟩
theorem DpAll.take : ∀ {ds : List PyData} {vs : List V} (n : Nat), DpAll K G vs ds → DpAll K G (vs.take n) (ds.take n)
  | _, _, 0, _ => by simp; exact .nil
  | [], _, n + 1, h => by cases h; exact .nil
  | d :: ds, _, n + 1, h => by
    cases h with
    | cons h1 h2 => exact .cons h1 (DpAll.take n h2)
theorem DpAll.drop : ∀ {ds : List PyData} {vs : List V} (n : Nat), DpAll K G vs ds → DpAll K G (vs.drop n) (ds.drop n)
  | _, _, 0, h => h
  | [], _, n + 1, h => by cases h; exact .nil
  | d :: ds, _, n + 1, h => by
    cases h with
    | cons h1 h2 => exact DpAll.drop n h2
theorem DpAll.reverse : ∀ {ds : List PyData} {vs : List V}, DpAll K G vs ds → DpAll K G vs.reverse ds.reverse
  | [], _, h => by cases h; exact .nil
  | d :: ds, _, h => by
    cases h with
    | cons h1 h2 =>
      rw [List.reverse_cons, List.reverse_cons]
      exact DpAll.append (DpAll.reverse h2) (.cons h1 .nil)
theorem DpAll.set : ∀ {ds : List PyData} {vs : List V} (i : Nat) {v : V} {d : PyData}, DpAll K G vs ds → Dp K G v d → DpAll K G (vs.set i v) (ds.set i d)
  | [], _, _, _, _, h, _ => by cases h; exact .nil
  | d :: ds, _, 0, _, _, h, q => by
    cases h with
    | cons h1 h2 => exact .cons q h2
  | d :: ds, _, i + 1, _, _, h, q => by
    cases h with
    | cons h1 h2 => exact .cons h1 (DpAll.set i h2 q)
theorem DpAll.flat {ds : List PyData} {vs : List V} (h : DpAll K G vs ds) : ∀ n : Nat, DpAll K G (List.replicate n vs).flatten (List.replicate n ds).flatten
  | 0 => .nil
  | n + 1 => by
    rw [List.replicate_succ, List.replicate_succ, List.flatten_cons, List.flatten_cons]
    exact DpAll.append h (DpAll.flat h n)
theorem DpAll.one {v : V} {d : PyData} (h : Dp K G v d) : DpAll K G [v] [d] := .cons h .nil
theorem DpAll.ints : ∀ (ns : List Int), DpAll K G (ns.map V.int) (ns.map PyData.int)
  | [] => .nil
  | n :: ns => .cons (.int n) (DpAll.ints ns)
theorem DpAll.ints_of : ∀ {ns : List Int} {vs : List V}, DpAll K G vs (ns.map PyData.int) → vs = ns.map V.int
  | [], _, h => by cases h; rfl
  | n :: ns, _, h => by
    cases h with
    | cons h1 h2 =>
      cases h1
      rw [DpAll.ints_of h2]
      rfl
end
end L2
namespace Mir
open PySem PySem.Spec PyProof.Rows L2
section
variable {K : PySem.W.Frag} {G G' H H' : Hp}
/-- addresses of lists are taken out -/
def less (G : Hp) (S : Addr → Prop) [DecidablePred S] : Hp := fun a => if S a then none else G a
mutual
theorem dp_less (S : Addr → Prop) [DecidablePred S] (hS : ∀ a, S a → ∃ xs, G a = some (.lst xs)) : ∀ (d : PyData) (v : V), noList d = true → Dp K G v d → Dp K (less G S) v d
  | .none, _, _, h => by cases h; exact .non
  | .bool b, _, _, h => by cases h; exact .bl b
  | .int i, _, _, h => by cases h; exact .int i
  | .str x, _, _, h => by cases h; exact .str x
  | .list ds, _, n, _ => by simp [noList] at n
  | .tuple ds, _, n, h => by
    cases h with
    | tup hs ha =>
      refine .tup ?_ (dpAll_less S hS ds _ (by simpa [noList] using n) ha)
      rename_i a xs
      have hn : ∀ o, G a = some o → (∀ ys, o ≠ .lst ys) → less G S a = some o := fun o e ne => by
        unfold less
        rw [if_neg, e]
        intro z
        obtain ⟨ys, e'⟩ := hS a z
        rw [e] at e'
        exact ne ys (Option.some.inj e')
      rcases hs with (hs | ⟨o, hs⟩) | hs
      · exact .inl (.inl (hn _ hs (fun _ z => by cases z)))
      · exact .inl (.inr ⟨o, hn _ hs (fun _ z => by cases z)⟩)
      · exact .inr hs
  | .dict _, _, _, h => by cases h
theorem dpAll_less (S : Addr → Prop) [DecidablePred S] (hS : ∀ a, S a → ∃ xs, G a = some (.lst xs)) : ∀ (ds : List PyData) (vs : List V), noLists ds = true → DpAll K G vs ds → DpAll K (less G S) vs ds
  | [], _, _, h => by cases h; exact .nil
  | d :: ds, _, n, h => by
    cases h with
    | cons h1 h2 =>
      have n' : noList d = true ∧ noLists ds = true := by simpa [noLists] using n
      exact .cons (dp_less S hS d _ n'.1 h1) (dpAll_less S hS ds _ n'.2 h2)
end
end

/-! ### the state -/
def Cell (K : PySem.W.Frag) (Fm G H : Hp) (p : Addr) (ds : List PyData) : Prop := G p = none ∧ Fm p = none ∧ ∃ vs, H p = some (.lst vs) ∧ DpAll K G vs ds
/-- a dict, by its entries -/
def rawT (p : Addr) (es : List DictEntry) : HO := .ext fun h => ∃ o ep, h.get? p = some o ∧ o.ExactDict ∧ o.data = .dict es.toArray ep
/-- an entry: a tuple of whole numbers, a datum -/
def EntR (K : PySem.W.Frag) (G : Hp) (e : List Int × PyData) (d : DictEntry) : Prop :=
  (∀ (P : Program) (w : World), d.hash = (tupleKind (intKind P w)).hash e.1) ∧ (∃ b, d.key = .ref b ∧ SqT K G b (e.1.map V.int)) ∧ ∃ v, RelV v d.val ∧ Dp K G v e.2
/-- a dict of one's own -/
def DCell (K : PySem.W.Frag) (Fm G H : Hp) (p : Addr) (m : List (List Int × PyData)) : Prop :=
  G p = none ∧ Fm p = none ∧ (p == sysModules) = false ∧ m.length ≤ sizeLine ∧ (m.map (·.1)).Nodup ∧ ∃ es, H p = some (rawT p es) ∧ Paired (EntR K G) m es
/-- an exception object of a class, as a thing of the heap -/
def exT (cls : Value) (d : Option Addr) (a : Addr) : HO := .ext fun h => ∃ oe vs, h.get? a = some oe ∧ Zc cls d oe ∧ oe.data = .fields vs
def lstOb (its : List Value) (n : Nat) : Obj := { cls := .type "list", data := .seq its.toArray n }
/-- a list, by its object -/
def lstP (l : Addr) (its : List Value) (n : Nat) : HO := .ext fun h => h.get? l = some (lstOb its n)
/-- an object of one's own -/
def BCell (K : PySem.W.Frag) (Fm G H : Hp) (p : Addr) : Bx → Prop
  | .dsk t k past => ∃ (C dx l : Addr) (vt vk : V) (vs : List V) (its : List Value) (n : Nat), (G p = none ∧ Fm p = none) ∧ (G dx = none ∧ Fm dx = none) ∧ (G l = none ∧ Fm l = none) ∧ PySem.W.nsIn K mainGlobals "Desk" = some (some (.ref C)) ∧
      H p = some (.ins C dx [("tongue", vt), ("kept", vk), ("past", .ref l)]) ∧ H dx = some (.own p) ∧ H l = some (lstP l its n) ∧ Vals vs its ∧ vs.length ≤ sizeLine ∧ Dp K G vt t ∧ Dp K G vk k ∧ DpAll K G vs past
  | .idc m => (G p = none ∧ Fm p = none) ∧ ∃ kvs : List (Key × V), H p = some (.dK kvs) ∧ Paired (fun (e : Int × PyData) (f : Key × V) => f.1 = Sum.inl e.1 ∧ Dp K G f.2 e.2) m kvs
/-- the addresses that an object has -/
def Prv (H : Hp) (p r : Addr) : Prop := r = p ∨ ∃ C dx fs, H p = some (.ins C dx fs) ∧ (r = dx ∨ List.lookup ("past" : Str) fs = some (V.ref r))
/-- .. what stands there -/
def KB : HO → Prop
  | .ins _ _ _ => True
  | .own _ => True
  | .ext φ => ∃ l its n, φ = fun h : Heap => h.get? l = some (lstOb its n)
  | .dK _ => True
  | _ => False
theorem dpAll_tr {K : PySem.W.Frag} {G G' : Hp} (hd : ∀ v d, Dp K G v d → Dp K G' v d) : ∀ {ds : List PyData} {vs : List V}, DpAll K G vs ds → DpAll K G' vs ds
  | [], _, h => by cases h; exact .nil
  | d :: ds, _, h => by
    cases h with
    | cons h1 h2 => exact .cons (hd _ _ h1) (dpAll_tr hd h2)
theorem lk_past {vt vk : V} {l r : Addr} (h : List.lookup ("past" : Str) [(("tongue" : Str), vt), ("kept", vk), ("past", V.ref l)] = some (.ref r)) : r = l := by
  have e : List.lookup ("past" : Str) [(("tongue" : Str), vt), ("kept", vk), ("past", V.ref l)] = some (.ref l) := by
    have h1 : (("past" : Str) == ("tongue" : Str)) = false := by decide +kernel
    have h2 : (("past" : Str) == ("kept" : Str)) = false := by decide +kernel
    have h3 : (("past" : Str) == ("past" : Str)) = true := by decide +kernel
    simp only [List.lookup, h1, h2, h3]
  rw [e] at h
  cases h
  rfl
theorem lk_past' {vt vk : V} {l : Addr} : List.lookup ("past" : Str) [(("tongue" : Str), vt), ("kept", vk), ("past", V.ref l)] = some (.ref l) := by
  have h1 : (("past" : Str) == ("tongue" : Str)) = false := by decide +kernel
  have h2 : (("past" : Str) == ("kept" : Str)) = false := by decide +kernel
  have h3 : (("past" : Str) == ("past" : Str)) = true := by decide +kernel
  simp only [List.lookup, h1, h2, h3]
/-- what stands at the addresses of an object -/
theorem BCell.at {K : PySem.W.Frag} {Fm G H : Hp} {p r : Addr} {x : Bx} (c : BCell K Fm G H p x) (h : Prv H p r) : ∃ o, H r = some o ∧ KB o ∧ G r = none ∧ Fm r = none := by
  cases x with
  | dsk t k past =>
    obtain ⟨C, dx, l, vt, vk, vs, its, n, ⟨a1, a2⟩, ⟨b1, b2⟩, ⟨c1, c2⟩, _, e1, e2, e3, _⟩ := c
    rcases h with rfl | ⟨C', dx', fs, e, h⟩
    · exact ⟨_, e1, True.intro, a1, a2⟩
    · rw [e1] at e
      cases e
      rcases h with rfl | h
      · exact ⟨_, e2, True.intro, b1, b2⟩
      · have := lk_past h
        subst this
        exact ⟨_, e3, ⟨_, _, _, rfl⟩, c1, c2⟩
  | idc m =>
    obtain ⟨⟨a1, a2⟩, kvs, e1, _⟩ := c
    rcases h with rfl | ⟨C', dx', fs, e, h⟩
    · exact ⟨_, e1, True.intro, a1, a2⟩
    · rw [e1] at e
      cases e
theorem BCell.move {K : PySem.W.Frag} {Fm G H Fm' G' H' : Hp} {p : Addr} {x : Bx} (c : BCell K Fm G H p x) (h : ∀ r o, Prv H p r → G r = none → Fm r = none → H r = some o → KB o → H' r = some o ∧ G' r = none ∧ Fm' r = none) (hd : ∀ v d, Dp K G v d → Dp K G' v d) : BCell K Fm' G' H' p x := by
  cases x with
  | dsk t k past =>
    obtain ⟨C, dx, l, vt, vk, vs, its, n, ⟨a1, a2⟩, ⟨b1, b2⟩, ⟨c1, c2⟩, e0, e1, e2, e3, e4, e5, e6, e7, e8⟩ := c
    obtain ⟨g1, g2, g3⟩ := h p _ (.inl rfl) a1 a2 e1 True.intro
    obtain ⟨h1, h2, h3⟩ := h dx _ (.inr ⟨C, dx, _, e1, .inl rfl⟩) b1 b2 e2 True.intro
    obtain ⟨k1, k2, k3⟩ := h l _ (.inr ⟨C, dx, _, e1, .inr lk_past'⟩) c1 c2 e3 ⟨_, _, _, rfl⟩
    exact ⟨C, dx, l, vt, vk, vs, its, n, ⟨g2, g3⟩, ⟨h2, h3⟩, ⟨k2, k3⟩, e0, g1, h1, k1, e4, e5, hd _ _ e6, hd _ _ e7, dpAll_tr hd e8⟩
  | idc m =>
    obtain ⟨⟨a1, a2⟩, kvs, e1, q⟩ := c
    obtain ⟨g1, g2, g3⟩ := h p _ (.inl rfl) a1 a2 e1 True.intro
    exact ⟨⟨g2, g3⟩, kvs, g1, Paired.mapP q fun _ _ z => ⟨z.1, hd _ _ z.2⟩⟩
theorem KB_ne {H : Hp} {r q : Addr} {o : HO} (h : H r = some o) (k : KB o) (hq : ∀ u, H q = some u → ¬ KB u) : r ≠ q := fun z => by
  subst z
  exact hq _ h k
theorem not_KB_lst {xs : List V} : ¬ KB (.lst xs) := fun h => h
def SlR (K : PySem.W.Frag) (Fm : Hp) (B : Nat → Addr) (G H : Hp) (i : Nat) (o : Option V) : Slot → Prop
  | .unset => True
  | .val d => ∃ v, o = some v ∧ Dp K G v d
  | .own ds => ∃ p, o = some (.ref p) ∧ Cell K Fm G H p ds
  | .arg ds => o = some (.ref (B (i + 1))) ∧ Cell K Fm G H (B (i + 1)) ds
  | .exn c => ∃ a C, o = some (.ref a) ∧ PySem.W.nsIn K mainGlobals c = some (some (.ref C)) ∧ G a = some (exT (.ref C) none a)
  | .dic m => ∃ p, o = some (.ref p) ∧ DCell K Fm G H p m
  | .darg m => o = some (.ref (B (i + 1))) ∧ DCell K Fm G H (B (i + 1)) m
  | .bx x => ∃ p, o = some (.ref p) ∧ BCell K Fm G H p x
  | .bxa x => o = some (.ref (B (i + 1))) ∧ BCell K Fm G H (B (i + 1)) x
  | .lck m => ∃ p ob es, o = some (.ref p) ∧ ((p == sysModules) = false ∧ m.length ≤ sizeLine ∧ (m.map (·.1)).Nodup) ∧ G p = some (.frz ob (rawT p es)) ∧ Paired (EntR K G) m es
def isCell : Option Slot → Bool
  | some (.own _) => true
  | some (.arg _) => true
  | some (.dic _) => true
  | some (.darg _) => true
  | some (.bx _) => true
  | some (.bxa _) => true
  | _ => false
/-- .. another object -/
def isBx : Option Slot → Bool
  | some (.bx _) => true
  | some (.bxa _) => true
  | _ => false
theorem isBx_cell {o : Option Slot} (h : isBx o = true) : isCell o = true := by
  match o, h with
  | some (.bx _), _ => rfl
  | some (.bxa _), _ => rfl
/-- .. a list -/
def isLst : Option Slot → Bool
  | some (.own _) => true
  | some (.arg _) => true
  | _ => false
theorem isLst_cell {o : Option Slot} (h : isLst o = true) : isCell o = true := by
  match o, h with
  | some (.own _), _ => rfl
  | some (.arg _), _ => rfl
/-- fixed tuples have no dict -/
def OkO : HO → Prop
  | .tup _ => False
  | .frz o (.tup _) => o.dict = none ∧ o.cls = .type "tuple"
  | _ => True
/-- a fixed list (the script alone) -/
def frzL : HO → Bool
  | .frz _ (.lst _) => true
  | _ => false
def Cln (a : Nat) (G : Hp) : Prop := ∀ p o, G p = some o → OkO o ∧ (frzL o = true → p + 1 = a)
theorem Cln.upd {G : Hp} {a : Addr} (h : Cln a G) {p : Addr} {o : HO} (ho : OkO o) (hf : frzL o = false := by rfl) : Cln a (upd G p o) := fun q x e => by
  by_cases hq : q = p
  · subst hq
    rw [upd_same] at e
    cases e
    exact ⟨ho, fun z => by rw [hf] at z; cases z⟩
  · rw [upd_ne hq] at e
    exact h q x e
theorem Cln.sub {G G' : Hp} {a : Addr} (h : Cln a G) (s : ∀ p o, G' p = some o → G p = some o) : Cln a G' := fun p o e => h p o (s p o e)
/-- the addresses of what is handed in by reference; ahead of them the script's -/
def Bq (a p : Addr) : Nat → Addr
  | 0 => a
  | _ + 1 => p
/-- objects of two slots have no address in common -/
def NB (σ : L2.St) (H : Hp) (ρ : En) : Prop := ∀ (i j : Nat) (p q a : Addr), i ≠ j → isBx ρ[i]? = true → isBx ρ[j]? = true → σ[i]? = some (some (V.ref p)) → σ[j]? = some (some (V.ref q)) → Prv H p a → ¬ Prv H q a
structure Rep (K : PySem.W.Frag) (Fm : Hp) (B : Nat → Addr) (G : Hp) (σ : L2.St) (H : Hp) (ρ : En) : Prop where
  gh : Same G H
  fh : ∀ p o, Fm p = some o → H p = some o ∧ G p = none
  len : σ.length = ρ.length
  sl : ∀ i s, ρ[i]? = some s → SlR K Fm B G H i (σ[i]?.join) s
  nd : ∀ (i j : Nat) (p : Addr), i ≠ j → isCell ρ[i]? = true → isCell ρ[j]? = true → σ[i]? = some (some (V.ref p)) → σ[j]? ≠ some (some (V.ref p))
  cl : Cln (B 0) G
  nb : NB σ H ρ
/-- nothing but new objects -/
structure Grow (G H G' H' : Hp) : Prop where
  gg : Same G G'
  gh : Same G' H'
  hh : Same H H'
  nw : ∀ p o, G p = none → H p = some o → G' p = none
  cl : ∀ a, Cln a G → Cln a G'
section
variable {K : PySem.W.Frag} {Fm : Hp} {B : Nat → Addr} {G G' H H' : Hp} {σ : L2.St} {ρ : En}
theorem Grow.refl (h : Same G H) : Grow G H G H := ⟨Same.refl _, h, Same.refl _, fun _ _ n _ => n, fun _ => id⟩
theorem Grow.trans {G2 H2 : Hp} (a : Grow G H G' H') (b : Grow G' H' G2 H2) : Grow G H G2 H2 :=
  ⟨a.gg.trans b.gg, b.gh, a.hh.trans b.hh, fun p o n e => b.nw p o (a.nw p o n e) (a.hh p o e), fun x c => b.cl x (a.cl x c)⟩
theorem same_upd {p : Addr} {o : HO} (h : H p = none) : Same H (upd H p o) := fun b x e => by
  rw [upd_ne (ne_of_none e h)]
  exact e
/-- a new object, taken among the fixed ones -/
theorem Grow.new {p : Addr} {o : HO} (s : Same G H) (h : H p = none) (ho : OkO o := by exact True.intro) (hf : frzL o = false := by rfl) : Grow G H (upd G p o) (upd H p o) := by
  have hg : G p = none := s.free h
  refine ⟨same_upd hg, fun b x e => ?_, same_upd h, fun q x n e => ?_, fun a c => c.upd ho hf⟩
  · by_cases hb : b = p
    · subst hb; rw [upd_same] at e ⊢; exact e
    · rw [upd_ne hb] at e ⊢; exact s _ _ e
  · rw [upd_ne (ne_of_none e h)]; exact n
/-- .. not taken among them -/
theorem Grow.new0 {p : Addr} {o : HO} (s : Same G H) (h : H p = none) : Grow G H G (upd H p o) :=
  ⟨Same.refl _, fun b x e => same_upd h _ _ (s _ _ e), same_upd h, fun q x n e => n, fun _ => id⟩
theorem Cell.grow {p : Addr} {ds : List PyData} (c : Cell K Fm G H p ds) (g : Grow G H G' H') : Cell K Fm G' H' p ds := by
  obtain ⟨a, b, vs, e, q⟩ := c
  exact ⟨g.nw _ _ a e, b, vs, g.hh _ _ e, q.mono g.gg⟩
theorem EntR.mono {e : List Int × PyData} {d : DictEntry} (h : EntR K G e d) (s : Same G G') : EntR K G' e d := by
  obtain ⟨h1, ⟨b, h2, h3⟩, v, h4, h5⟩ := h
  exact ⟨h1, ⟨b, h2, sameT s h3⟩, v, h4, h5.mono s⟩
theorem entRs_mono {m : List (List Int × PyData)} {es : List DictEntry} (h : Paired (EntR K G) m es) (s : Same G G') : Paired (EntR K G') m es := Paired.mapP h fun _ _ q => q.mono s
theorem DCell.grow {p : Addr} {m : List (List Int × PyData)} (c : DCell K Fm G H p m) (g : Grow G H G' H') : DCell K Fm G' H' p m := by
  obtain ⟨a, b, c1, c2, c3, es, e, q⟩ := c
  exact ⟨g.nw _ _ a e, b, c1, c2, c3, es, g.hh _ _ e, entRs_mono q g.gg⟩
theorem BCell.grow {p : Addr} {x : Bx} (c : BCell K Fm G H p x) (g : Grow G H G' H') : BCell K Fm G' H' p x :=
  c.move (fun r o _ h1 h2 h3 _ => ⟨g.hh _ _ h3, g.nw _ _ h1 h3, h2⟩) fun v d q => q.mono g.gg
theorem SlR.grow {i : Nat} {o : Option V} {s : Slot} (c : SlR K Fm B G H i o s) (g : Grow G H G' H') : SlR K Fm B G' H' i o s := by
  cases s with
  | unset => trivial
  | val d => obtain ⟨v, e, q⟩ := c; exact ⟨v, e, q.mono g.gg⟩
  | own ds => obtain ⟨p, e, q⟩ := c; exact ⟨p, e, q.grow g⟩
  | arg ds => exact ⟨c.1, c.2.grow g⟩
  | exn x => obtain ⟨a, C, e1, e2, e3⟩ := c; exact ⟨a, C, e1, e2, g.gg _ _ e3⟩
  | lck m => obtain ⟨p, ob, es, e1, e0, e2, e3⟩ := c; exact ⟨p, ob, es, e1, e0, g.gg _ _ e2, entRs_mono e3 g.gg⟩
  | bx x => obtain ⟨p, e, q⟩ := c; exact ⟨p, e, q.grow g⟩
  | bxa x => exact ⟨c.1, c.2.grow g⟩
  | dic m => obtain ⟨p, e, q⟩ := c; exact ⟨p, e, q.grow g⟩
  | darg m => exact ⟨c.1, c.2.grow g⟩
theorem Rep.bxJ (r : Rep K Fm B G σ H ρ) {i : Nat} (h : isBx ρ[i]? = true) : ∃ p x, σ[i]?.join = some (V.ref p) ∧ BCell K Fm G H p x := by
  cases e : ρ[i]? with
  | none => rw [e] at h; cases h
  | some s =>
    rw [e] at h
    have x := r.sl i s e
    cases s with
    | bx b => obtain ⟨p, e1, c⟩ := x; exact ⟨p, b, e1, c⟩
    | bxa b => exact ⟨B (i + 1), b, x.1, x.2⟩
    | _ => cases h
theorem Rep.nb_to (r : Rep K Fm B G σ H ρ) {σ' : L2.St} {ρ' : En} (hH : ∀ (i : Nat) (p : Addr), isBx ρ[i]? = true → σ[i]? = some (some (V.ref p)) → ∀ o, H p = some o → KB o → H' p = some o)
    (hs : ∀ (i : Nat) (p : Addr), isBx ρ'[i]? = true → σ'[i]? = some (some (V.ref p)) → isBx ρ[i]? = true ∧ σ[i]? = some (some (V.ref p))) : NB σ' H' ρ' := by
  have key : ∀ (i : Nat) (p a : Addr), isBx ρ[i]? = true → σ[i]? = some (some (V.ref p)) → Prv H' p a → Prv H p a := fun i p a h1 h2 h => by
    obtain ⟨p', x, e1, c⟩ := r.bxJ h1
    rw [h2] at e1
    cases e1
    obtain ⟨o, k1, k2, _, _⟩ := c.at (.inl rfl)
    have k3 := hH i p h1 h2 o k1 k2
    rcases h with h | ⟨C, dx, fs, h3, h4⟩
    · exact .inl h
    · rw [k3] at h3
      exact .inr ⟨C, dx, fs, k1.trans h3, h4⟩
  intro i j p q a ij hi hj ei ej h1 h2
  obtain ⟨a1, a2⟩ := hs i p hi ei
  obtain ⟨b1, b2⟩ := hs j q hj ej
  exact r.nb i j p q a ij a1 b1 a2 b2 (key i p a a1 a2 h1) (key j q a b1 b2 h2)
/-- no object: nothing to be told -/
theorem NB.non (h : ∀ i : Nat, isBx ρ[i]? = false) : NB σ H ρ := fun i j p q a _ hi => by rw [h i] at hi; cases hi
theorem NB.nonC (h : ∀ i : Nat, isCell ρ[i]? = false) : NB σ H ρ := NB.non fun i => by
  cases e : isBx ρ[i]? with
  | false => rfl
  | true => have := isBx_cell e; rw [h i] at this; cases this
theorem Rep.nb_upd (r : Rep K Fm B G σ H ρ) {p : Addr} {o : HO} (hp : ∀ u, H p = some u → ¬ KB u) : NB σ (upd H p o) ρ :=
  r.nb_to (fun _ q _ _ u h k => by rw [upd_ne (KB_ne h k hp)]; exact h) fun _ _ h1 h2 => ⟨h1, h2⟩
theorem isBx_set {s : Slot} {j i : Nat} (hs : isBx (some s) = false) (h : isBx (ρ.set j s)[i]? = true) : i ≠ j ∧ isBx ρ[i]? = true := by
  by_cases hi : i = j
  · subst hi
    by_cases hl : i < ρ.length
    · rw [List.getElem?_set_self hl, hs] at h; cases h
    · rw [List.set_eq_of_length_le (by omega), List.getElem?_eq_none (by omega)] at h; cases h
  · exact ⟨hi, by rw [List.getElem?_set_ne (Ne.symm hi)] at h; exact h⟩
theorem Rep.grow (r : Rep K Fm B G σ H ρ) (g : Grow G H G' H') : Rep K Fm B G' σ H' ρ :=
  ⟨g.gh, fun p o e => ⟨g.hh _ _ (r.fh p o e).1, g.nw p o (r.fh p o e).2 (r.fh p o e).1⟩, r.len, fun i s e => (r.sl i s e).grow g, r.nd, g.cl _ r.cl, r.nb_to (fun _ p _ _ o h _ => g.hh _ _ h) fun _ _ h1 h2 => ⟨h1, h2⟩⟩
/-- what a handle is -/
def HdR (K : PySem.W.Frag) (Fm G : Hp) (σ : L2.St) (H : Hp) (ρ : En) (v : V) : Hd → Prop
  | .imm d => Dp K G v d
  | .slot j => σ[j]? = some (some v)
  | .fresh ds => ∃ p, v = .ref p ∧ Cell K Fm G H p ds ∧ ∀ i : Nat, isCell ρ[i]? = true → σ[i]? ≠ some (some (V.ref p))
/-- what is read: a fixed datum, or a list of fixed data -/
def ER (K : PySem.W.Frag) (G H : Hp) (v : V) (d : PyData) : Prop :=
  Dp K G v d ∨ ∃ p vs ds, v = .ref p ∧ d = .list ds ∧ H p = some (.lst vs) ∧ DpAll K G vs ds
theorem ER.grow {v : V} {d : PyData} (e : ER K G H v d) (g : Grow G H G' H') : ER K G' H' v d := by
  rcases e with e | ⟨p, vs, ds, a, b, c, q⟩
  · exact .inl (e.mono g.gg)
  · exact .inr ⟨p, vs, ds, a, b, g.hh _ _ c, q.mono g.gg⟩
theorem ER.dp {v : V} {d : PyData} (e : ER K G H v d) (s : Same G H) : Dp K H v d := by
  rcases e with e | ⟨p, vs, ds, rfl, rfl, c, q⟩
  · exact e.mono s
  · exact .lst (.of c) (q.mono s)
theorem ER.list {v : V} {ds : List PyData} (e : ER K G H v (.list ds)) (s : Same G H) : ∃ p vs, v = .ref p ∧ SqL K H p vs ∧ DpAll K G vs ds := by
  rcases e with e | ⟨p, vs, ds', rfl, e, c, q⟩
  · cases e with
    | lst hs ha => exact ⟨_, _, rfl, s.seq hs, ha⟩
  · cases e
    exact ⟨p, vs, rfl, .of c, q⟩
theorem ER.tuple {v : V} {ds : List PyData} (e : ER K G H v (.tuple ds)) (s : Same G H) : ∃ p vs, v = .ref p ∧ SqT K H p vs ∧ DpAll K G vs ds ∧ Dp K G v (.tuple ds) := by
  rcases e with e | ⟨p, vs, ds', rfl, e, c, q⟩
  · cases id e with
    | tup hs ha => exact ⟨_, _, rfl, sameT s hs, ha, e⟩
  · cases e
theorem ER.int {v : V} {i : Int} (e : ER K G H v (.int i)) : v = .int i := by
  rcases e with e | ⟨p, vs, ds', rfl, e, c, q⟩
  · cases e; rfl
  · cases e
theorem ER.bool {v : V} {i : Bool} (e : ER K G H v (.bool i)) : v = .bl i := by
  rcases e with e | ⟨p, vs, ds', rfl, e, c, q⟩
  · cases e; rfl
  · cases e
theorem ER.str {v : V} {i : Str} (e : ER K G H v (.str i)) : v = .str i := by
  rcases e with e | ⟨p, vs, ds', rfl, e, c, q⟩
  · cases e; rfl
  · cases e
theorem ER.none {v : V} (e : ER K G H v .none) : v = .non := by
  rcases e with e | ⟨p, vs, ds', rfl, e, c, q⟩
  · cases e; rfl
  · cases e
theorem ER.imm {v : V} {d : PyData} (e : ER K G H v d) (h : noList d = true) : Dp K G v d := by
  rcases e with e | ⟨p, vs, ds', rfl, rfl, c, q⟩
  · exact e
  · simp [noList] at h
theorem Rep.at (r : Rep K Fm B G σ H ρ) {j : Nat} {s : Slot} (e : ρ[j]? = some s) : SlR K Fm B G H j (σ[j]?.join) s := r.sl j s e
theorem join_some {α : Type} {o : Option (Option α)} {v : α} (h : o.join = some v) : o = some (some v) := by
  cases o with
  | none => cases h
  | some x => cases x with
    | none => cases h
    | some y => cases h; rfl
theorem Rep.er (r : Rep K Fm B G σ H ρ) {h : Hd} {v : V} {d : PyData} (hr : HdR K Fm G σ H ρ v h) (e : dr h ρ = some d) : ER K G H v d := by
  cases h with
  | imm d' => cases e; exact .inl hr
  | fresh ds =>
    cases e
    obtain ⟨p, rfl, ⟨_, _, vs, c, q⟩, _⟩ := hr
    exact .inr ⟨p, vs, ds, rfl, rfl, c, q⟩
  | slot j =>
    have hr : σ[j]? = some (some v) := hr
    simp only [dr] at e
    cases q : ρ[j]? with
    | none => rw [q] at e; cases e
    | some s =>
      rw [q] at e
      have x := r.at q
      rw [hr] at x
      cases s with
      | unset => cases e
      | val d' =>
        cases e
        obtain ⟨v', e1, q'⟩ := x
        cases e1
        exact .inl q'
      | own ds =>
        cases e
        obtain ⟨p, e1, _, _, vs, c, q'⟩ := x
        cases e1
        exact .inr ⟨p, vs, ds, rfl, rfl, c, q'⟩
      | arg ds =>
        cases e
        obtain ⟨e1, _, _, vs, c, q'⟩ := x
        cases e1
        exact .inr ⟨_, vs, ds, rfl, rfl, c, q'⟩
      | exn c => cases e
      | lck m => cases e
      | bx m => cases e
      | bxa m => cases e
      | dic m => cases e
      | darg m => cases e
end
end Mir


namespace Mir
open PySem PySem.Spec PyProof.Rows L2
section
variable {K : PySem.W.Frag} {Fm : Hp} {B : Nat → Addr} {G G' G2 H H' H2 : Hp} {σ : L2.St} {ρ ρ' : En}

/-! ### turning the state -/
theorem Rep.free {p : Addr} (r : Rep K Fm B G σ H ρ) (h : H p = none) : G p = none := r.gh.free h
theorem Rep.cellAt (r : Rep K Fm B G σ H ρ) {i : Nat} (h : isLst ρ[i]? = true) : ∃ p ds, σ[i]? = some (some (V.ref p)) ∧ Cell K Fm G H p ds := by
  cases e : ρ[i]? with
  | none => rw [e] at h; cases h
  | some s =>
    rw [e] at h
    have x := r.at e
    cases s with
    | unset => cases h
    | val d => cases h
    | own ds => obtain ⟨p, e1, c⟩ := x; exact ⟨p, ds, join_some e1, c⟩
    | arg ds => exact ⟨B (i + 1), ds, join_some x.1, x.2⟩
    | exn c => cases h
    | lck m => cases h
    | bx m => cases h
    | bxa m => cases h
    | dic m => cases h
    | darg m => cases h
/-- a cell is no fixed thing -/
theorem Rep.cellAny (r : Rep K Fm B G σ H ρ) {i : Nat} (h : isCell ρ[i]? = true) : ∃ p o, σ[i]? = some (some (V.ref p)) ∧ G p = none ∧ Fm p = none ∧ H p = some o := by
  cases e : ρ[i]? with
  | none => rw [e] at h; cases h
  | some s =>
    rw [e] at h
    have x := r.at e
    cases s with
    | unset => cases h
    | val d => cases h
    | own ds => obtain ⟨p, e1, c1, c2, vs, c3, _⟩ := x; exact ⟨p, _, join_some e1, c1, c2, c3⟩
    | arg ds => obtain ⟨e1, c1, c2, vs, c3, _⟩ := x; exact ⟨B (i + 1), _, join_some e1, c1, c2, c3⟩
    | exn c => cases h
    | lck m => cases h
    | dic m => obtain ⟨p, e1, c1, c2, _, _, _, es, c3, _⟩ := x; exact ⟨p, _, join_some e1, c1, c2, c3⟩
    | bx b => obtain ⟨p, e1, c⟩ := x; obtain ⟨o, h1, _, h2, h3⟩ := c.at (.inl rfl); exact ⟨p, _, join_some e1, h2, h3, h1⟩
    | bxa b => obtain ⟨e1, c⟩ := x; obtain ⟨o, h1, _, h2, h3⟩ := c.at (.inl rfl); exact ⟨B (i + 1), _, join_some e1, h2, h3, h1⟩
    | darg m => obtain ⟨e1, c1, c2, _, _, _, es, c3, _⟩ := x; exact ⟨B (i + 1), _, join_some e1, c1, c2, c3⟩
/-- a list of our own, in no slot, is laid among the fixed -/
theorem Rep.fix (r : Rep K Fm B G σ H ρ) {p : Addr} {vs : List V} {ds : List PyData} (c : G p = none) (cf : Fm p = none) (cv : H p = some (.lst vs)) (n : ∀ i : Nat, isCell ρ[i]? = true → σ[i]? ≠ some (some (V.ref p))) :
    Same G (upd G p (.lst vs)) ∧ Rep K Fm B (upd G p (.lst vs)) σ H ρ := by
  have sg : Same G (upd G p (.lst vs)) := same_upd c
  refine ⟨sg, ⟨fun b o e => ?_, fun q o e => ?_, r.len, fun i s e => ?_, r.nd, r.cl.upd True.intro, r.nb⟩⟩
  · by_cases hb : b = p
    · subst hb; rw [upd_same] at e; cases e; exact cv
    · rw [upd_ne hb] at e; exact r.gh _ _ e
  · refine ⟨(r.fh q o e).1, ?_⟩
    rw [upd_ne (ne_of_none e cf)]
    exact (r.fh q o e).2
  · have x := r.sl i s e
    have cc : ∀ q ds', isCell (some s) = true → σ[i]?.join = some (V.ref q) → Cell K Fm G H q ds' → Cell K Fm (upd G p (.lst vs)) H q ds' := fun q ds' hc hq ⟨c1, c2, ws, c3, c4⟩ => by
      have nq : q ≠ p := fun z => n i (by rw [e]; exact hc) (by rw [← z]; exact join_some hq)
      exact ⟨by rw [upd_ne nq]; exact c1, c2, ws, c3, c4.mono sg⟩
    have cd : ∀ q m, isCell (some s) = true → σ[i]?.join = some (V.ref q) → DCell K Fm G H q m → DCell K Fm (upd G p (.lst vs)) H q m := fun q m hc hq ⟨c1, c2, c3, c4, c5, es, c6, c7⟩ => by
      have nq : q ≠ p := fun z => n i (by rw [e]; exact hc) (by rw [← z]; exact join_some hq)
      exact ⟨by rw [upd_ne nq]; exact c1, c2, c3, c4, c5, es, c6, entRs_mono c7 sg⟩
    have cb : ∀ q b, BCell K Fm G H q b → BCell K Fm (upd G p (.lst vs)) H q b := fun q b c' => c'.move (fun t o _ h1 h2 h3 h4 => by
      have nt : t ≠ p := KB_ne h3 h4 fun u hu => by rw [cv] at hu; cases hu; exact not_KB_lst
      exact ⟨h3, by rw [upd_ne nt]; exact h1, h2⟩) fun v d q => q.mono sg
    cases s with
    | unset => trivial
    | val d => obtain ⟨v, e1, q⟩ := x; exact ⟨v, e1, q.mono sg⟩
    | own ds' => obtain ⟨q, e1, c'⟩ := x; exact ⟨q, e1, cc q ds' rfl e1 c'⟩
    | arg ds' => exact ⟨x.1, cc _ ds' rfl x.1 x.2⟩
    | exn c => obtain ⟨a, C, e1, e2, e3⟩ := x; exact ⟨a, C, e1, e2, sg _ _ e3⟩
    | lck m => obtain ⟨a, C, es, e1, e0, e2, e3⟩ := x; exact ⟨a, C, es, e1, e0, sg _ _ e2, entRs_mono e3 sg⟩
    | bx b => obtain ⟨q, e1, c'⟩ := x; exact ⟨q, e1, cb q b c'⟩
    | bxa b => exact ⟨x.1, cb _ b x.2⟩
    | dic m => obtain ⟨q, e1, c'⟩ := x; exact ⟨q, e1, cd q m rfl e1 c'⟩
    | darg m => exact ⟨x.1, cd _ m rfl x.1 x.2⟩
theorem Rep.hold (r : Rep K Fm B G σ H ρ) {h : Hd} {v : V} (hr : HdR K Fm G σ H ρ v h) : ∃ G', Same G G' ∧ Rep K Fm B G' σ H ρ ∧ HdR K Fm G' σ H ρ v h.hold := by
  cases h with
  | imm d => exact ⟨G, Same.refl _, r, hr⟩
  | slot j => exact ⟨G, Same.refl _, r, hr⟩
  | fresh ds =>
    obtain ⟨p, rfl, ⟨c, cf, vs, cv, q⟩, n⟩ := hr
    obtain ⟨sg, r'⟩ := r.fix (ds := ds) c cf cv n
    exact ⟨_, sg, r', Dp.lst (.of upd_same) (q.mono sg)⟩
theorem HdR.keep {h : Hd} {v : V} (hr : HdR K Fm G σ H ρ v h.hold) (s : Same G G') : HdR K Fm G' σ H' ρ' v h.hold := by
  cases h with
  | imm d => exact Dp.mono hr s
  | slot j => exact hr
  | fresh ds => exact Dp.mono hr s
/-- a slot is turned to what holds of its value -/
theorem Rep.put (r : Rep K Fm B G σ H ρ) {i : Nat} {s : Slot} {v : V} (hi : i < ρ.length) (hs : SlR K Fm B G H i (some v) s)
    (hn : isCell (some s) = true → ∀ j : Nat, j ≠ i → isCell ρ[j]? = true → σ[j]? ≠ some (some v)) (hbx : isBx (some s) = false := by rfl) : Rep K Fm B G (σ.set i (some v)) H (ρ.set i s) := by
  have hl : i < σ.length := by rw [r.len]; exact hi
  refine ⟨r.gh, r.fh, by rw [List.length_set, List.length_set]; exact r.len, fun j t e => ?_, fun j k p njk hj hk ej ek => ?_, r.cl, r.nb_to (fun _ _ _ _ _ h _ => h) fun k q h1 h2 => ?_⟩
  · by_cases hj : j = i
    · subst hj
      rw [List.getElem?_set_self hi] at e
      cases e
      rw [List.getElem?_set_self hl]
      exact hs
    · rw [List.getElem?_set_ne (Ne.symm hj)] at e
      rw [List.getElem?_set_ne (Ne.symm hj)]
      exact r.sl j t e
  · by_cases h1 : j = i
    · subst h1
      have h2 : k ≠ j := fun z => njk z.symm
      rw [List.getElem?_set_self hi] at hj
      rw [List.getElem?_set_self hl] at ej
      cases ej
      rw [List.getElem?_set_ne (Ne.symm h2)] at hk ek
      exact hn hj k h2 hk ek
    · rw [List.getElem?_set_ne (Ne.symm h1)] at hj ej
      by_cases h2 : k = i
      · subst h2
        rw [List.getElem?_set_self hi] at hk
        rw [List.getElem?_set_self hl] at ek
        cases ek
        exact hn hk j h1 hj ej
      · rw [List.getElem?_set_ne (Ne.symm h2)] at hk ek
        exact r.nd j k p njk hj hk ej ek
  · obtain ⟨k1, k2⟩ := isBx_set hbx h1
    exact ⟨k2, by rw [List.getElem?_set_ne (Ne.symm k1)] at h2; exact h2⟩
theorem Rep.putVal (r : Rep K Fm B G σ H ρ) {i : Nat} {d : PyData} {v : V} (hi : i < ρ.length) (q : Dp K G v d) : Rep K Fm B G (σ.set i (some v)) H (ρ.set i (.val d)) :=
  r.put hi ⟨v, rfl, q⟩ fun z => by cases z
theorem Rep.putOwn (r : Rep K Fm B G σ H ρ) {i : Nat} {ds : List PyData} {p : Addr} (hi : i < ρ.length) (c : Cell K Fm G H p ds) (n : ∀ j : Nat, isCell ρ[j]? = true → σ[j]? ≠ some (some (V.ref p))) :
    Rep K Fm B G (σ.set i (some (.ref p))) H (ρ.set i (.own ds)) :=
  r.put hi ⟨p, rfl, c⟩ fun _ j _ hj => n j hj
theorem set_same {α : Type} {l : List α} {i : Nat} {a : α} (h : l[i]? = some a) : l.set i a = l := by
  apply List.ext_getElem?
  intro j
  by_cases hj : i = j
  · subst hj
    rw [List.getElem?_set_self (List.getElem?_eq_some_iff.mp h).1, h]
  · rw [List.getElem?_set_ne hj]
theorem lt_of_get {α : Type} {l : List α} {i : Nat} {a : α} (h : l[i]? = some a) : i < l.length := (List.getElem?_eq_some_iff.mp h).1
/-- a slot is forgotten, or becomes what holds of the value that it has -/
theorem Rep.turn (r : Rep K Fm B G σ H ρ) {i : Nat} {s : Slot} (hs : SlR K Fm B G H i (σ[i]?.join) s) (hn : isCell (some s) = true → isCell ρ[i]? = true) (hbx : isBx (some s) = false := by rfl) : Rep K Fm B G σ H (ρ.set i s) := by
  by_cases hi : i < ρ.length
  · have hl : i < σ.length := by rw [r.len]; exact hi
    refine ⟨r.gh, r.fh, by rw [List.length_set]; exact r.len, fun j t e => ?_, fun j k p njk hj hk ej ek => ?_, r.cl, r.nb_to (fun _ _ _ _ _ h _ => h) fun k q h1 h2 => ⟨(isBx_set hbx h1).2, h2⟩⟩
    · by_cases hj : j = i
      · subst hj
        rw [List.getElem?_set_self hi] at e
        cases e
        exact hs
      · rw [List.getElem?_set_ne (Ne.symm hj)] at e
        exact r.sl j t e
    · have back : ∀ m : Nat, isCell (ρ.set i s)[m]? = true → isCell ρ[m]? = true := fun m hm => by
        by_cases h1 : m = i
        · subst h1
          rw [List.getElem?_set_self hi] at hm
          exact hn hm
        · rw [List.getElem?_set_ne (Ne.symm h1)] at hm
          exact hm
      exact r.nd j k p njk (back j hj) (back k hk) ej ek
  · rw [List.set_eq_of_length_le (by omega)]
    exact r
theorem Rep.unset (r : Rep K Fm B G σ H ρ) (i : Nat) : Rep K Fm B G σ H (ρ.set i .unset) := r.turn trivial fun z => by cases z
/-- an own list of a slot is laid among the fixed -/
theorem Rep.freeze (r : Rep K Fm B G σ H ρ) {j : Nat} {ds : List PyData} (e : ρ[j]? = some (.own ds)) : ∃ G' v, Same G G' ∧ Rep K Fm B G' σ H (ρ.set j (.val (.list ds))) ∧ σ[j]? = some (some v) ∧ Dp K G' v (.list ds) := by
  obtain ⟨p, e1, c, cf, vs, cv, q⟩ := r.at e
  have es := join_some e1
  have r1 := r.unset j
  have hj := lt_of_get e
  obtain ⟨sg, r2⟩ := r1.fix (p := p) (vs := vs) (ds := ds) c cf cv fun i hi z => by
    by_cases hij : i = j
    · subst hij
      rw [List.getElem?_set_self hj] at hi
      cases hi
    · rw [List.getElem?_set_ne (Ne.symm hij)] at hi
      exact r.nd i j p hij hi (by rw [e]; rfl) z es
  have dd : Dp K (upd G p (.lst vs)) (.ref p) (.list ds) := .lst (.of upd_same) (q.mono sg)
  refine ⟨_, .ref p, sg, ?_, es, dd⟩
  have r3 := r2.turn (i := j) (s := .val (.list ds)) ⟨_, e1, dd⟩ fun z => by cases z
  rw [List.set_set] at r3
  exact r3
theorem Rep.esc (r : Rep K Fm B G σ H ρ) {h : Hd} {v : V} {d : PyData} (hr : HdR K Fm G σ H ρ v h) (e : esc h ρ = .ok d ρ') : ∃ G', Same G G' ∧ Rep K Fm B G' σ H ρ' ∧ Dp K G' v d := by
  cases h with
  | imm d' => cases e; exact ⟨G, Same.refl _, r, hr⟩
  | fresh ds =>
    cases e
    obtain ⟨G', a, b, c⟩ := r.hold hr
    exact ⟨G', a, b, c⟩
  | slot j =>
    have hr : σ[j]? = some (some v) := hr
    simp only [Mir.esc] at e
    cases q : ρ[j]? with
    | none => rw [q] at e; cases e
    | some s =>
      rw [q] at e
      cases s with
      | unset => cases e
      | arg ds => cases e
      | exn c => cases e
      | lck m => cases e
      | bx m => cases e
      | bxa m => cases e
      | dic m => cases e
      | darg m => cases e
      | val d' =>
        cases e
        obtain ⟨v', e1, q'⟩ := r.at q
        rw [hr] at e1
        cases e1
        exact ⟨G, Same.refl _, r, q'⟩
      | own ds =>
        cases e
        obtain ⟨G', v', a, b, c, q'⟩ := r.freeze q
        rw [hr] at c
        cases c
        exact ⟨G', a, b, q'⟩
/-- the list of a slot is turned -/
theorem Rep.write (r : Rep K Fm B G σ H ρ) {j : Nat} {p : Addr} {vs : List V} {ds : List PyData} {s : Slot} (hs : σ[j]? = some (some (.ref p))) (e : ρ[j]? = some (.own ds) ∧ s = .own ds' ∨ ρ[j]? = some (.arg ds) ∧ s = .arg ds') (q : DpAll K G vs ds') :
    Rep K Fm B G σ (upd H p (.lst vs)) (ρ.set j s) := by
  have hc : isCell ρ[j]? = true := by
    rcases e with ⟨e, _⟩ | ⟨e, _⟩ <;> rw [e] <;> rfl
  have hj : j < ρ.length := by
    rcases e with ⟨e, _⟩ | ⟨e, _⟩ <;> exact lt_of_get e
  have cl : Cell K Fm G H p ds := by
    rcases e with ⟨e, _⟩ | ⟨e, _⟩
    · obtain ⟨p', e1, c⟩ := r.at e
      rw [hs] at e1
      cases e1
      exact c
    · obtain ⟨e1, c⟩ := r.at e
      rw [hs] at e1
      cases e1
      exact c
  obtain ⟨c1, c2, ws, c3, _⟩ := cl
  have r1 : Rep K Fm B G σ (upd H p (.lst vs)) (ρ.set j .unset) := by
    refine ⟨fun b o e => ?_, fun a o e => ?_, by rw [List.length_set]; exact r.len, fun i t e => ?_, (r.unset j).nd, r.cl, (r.unset j).nb_upd fun u hu => by rw [c3] at hu; cases hu; exact not_KB_lst⟩
    · rw [upd_ne (ne_of_none e c1)]; exact r.gh _ _ e
    · rw [upd_ne (ne_of_none e c2)]; exact r.fh _ _ e
    · by_cases hi : i = j
      · subst hi
        rw [List.getElem?_set_self hj] at e
        cases e
        trivial
      · rw [List.getElem?_set_ne (Ne.symm hi)] at e
        have x := r.sl i t e
        have cc : ∀ a ds', isCell (some t) = true → σ[i]?.join = some (V.ref a) → Cell K Fm G H a ds' → Cell K Fm G (upd H p (.lst vs)) a ds' := fun a ds' h1 ha ⟨b1, b2, us, b3, b4⟩ => by
          have na : a ≠ p := fun z => r.nd i j a hi (by rw [e]; exact h1) hc (join_some ha) (by rw [z]; exact hs)
          exact ⟨b1, b2, us, by rw [upd_ne na]; exact b3, b4⟩
        have cd : ∀ a m, isCell (some t) = true → σ[i]?.join = some (V.ref a) → DCell K Fm G H a m → DCell K Fm G (upd H p (.lst vs)) a m := fun a m h1 ha ⟨b1, b2, b3, b4, b5, es, b6, b7⟩ => by
          have na : a ≠ p := fun z => r.nd i j a hi (by rw [e]; exact h1) hc (join_some ha) (by rw [z]; exact hs)
          exact ⟨b1, b2, b3, b4, b5, es, by rw [upd_ne na]; exact b6, b7⟩
        have cb : ∀ a b, BCell K Fm G H a b → BCell K Fm G (upd H p (.lst vs)) a b := fun a b c' => c'.move (fun t o _ h1 h2 h3 h4 => by
          have nt : t ≠ p := KB_ne h3 h4 fun u hu => by rw [c3] at hu; cases hu; exact not_KB_lst
          exact ⟨by rw [upd_ne nt]; exact h3, h1, h2⟩) fun v d q => q
        cases t with
        | unset => trivial
        | val d => exact x
        | own es => obtain ⟨a, e1, c⟩ := x; exact ⟨a, e1, cc a es rfl e1 c⟩
        | arg es => exact ⟨x.1, cc _ es rfl x.1 x.2⟩
        | exn c => exact x
        | lck m => exact x
        | bx b => obtain ⟨a, e1, c⟩ := x; exact ⟨a, e1, cb a b c⟩
        | bxa b => exact ⟨x.1, cb _ b x.2⟩
        | dic m => obtain ⟨a, e1, c⟩ := x; exact ⟨a, e1, cd a m rfl e1 c⟩
        | darg m => exact ⟨x.1, cd _ m rfl x.1 x.2⟩
  have r2 := r1.put (i := j) (s := s) (v := .ref p) (by rw [List.length_set]; exact hj) (by
    rcases e with ⟨e, rfl⟩ | ⟨e, rfl⟩
    · exact ⟨p, rfl, c1, c2, vs, upd_same, q⟩
    · obtain ⟨e1, c⟩ := r.at e
      rw [hs] at e1
      have e2 : p = B (j + 1) := by cases e1; rfl
      subst e2
      exact ⟨rfl, c1, c2, vs, upd_same, q⟩) (by
    intro _ k hk hck z
    rw [List.getElem?_set_ne (Ne.symm hk)] at hck
    exact r.nd k j p hk hck hc z hs) (by rcases e with ⟨_, rfl⟩ | ⟨_, rfl⟩ <;> rfl)
  rw [List.set_set, set_same hs] at r2
  exact r2

/-! ### the readings -/
def Exw (mg : Str → Option Value) (W : WX) (c : Str) (σ : L2.St) (H : Hp) : Prop := ∀ C, mg c = some (.ref C) → W (.ref C) none σ H
variable {mg : Str → Option Value} {W : WX}
def PoH (K : PySem.W.Frag) (mg : Str → Option Value) (W : WX) (Fm : Hp) (B : Nat → Addr) (G : Hp) (σ : L2.St) (Q : VK) : Rs Hd → Prop
  | .ok h ρ' => ∀ v G' H', Same G G' → Rep K Fm B G' σ H' ρ' → HdR K Fm G' σ H' ρ' v h → Q v H'
  | .exc c ρ' => ∀ G' H', Same G G' → Rep K Fm B G' σ H' ρ' → Exw mg W c σ H'
  | .stuck => False
def PoT (K : PySem.W.Frag) (mg : Str → Option Value) (W : WX) (Fm : Hp) (B : Nat → Addr) (G : Hp) (σ : L2.St) (Q : Bool → Hp → Prop) : Rs Bool → Prop
  | .ok b ρ' => ∀ G' H', Same G G' → Rep K Fm B G' σ H' ρ' → Q b H'
  | .exc c ρ' => ∀ G' H', Same G G' → Rep K Fm B G' σ H' ρ' → Exw mg W c σ H'
  | .stuck => False
/-- values and their handles -/
inductive HdRs (K : PySem.W.Frag) (Fm G : Hp) (σ : L2.St) : List V → List Hd → Prop
  | nil : HdRs K Fm G σ [] []
  | imm {v : V} {d : PyData} {vs : List V} {hs : List Hd} : Dp K G v d → HdRs K Fm G σ vs hs → HdRs K Fm G σ (v :: vs) (.imm d :: hs)
  | slot {v : V} {j : Nat} {vs : List V} {hs : List Hd} : σ[j]? = some (some v) → HdRs K Fm G σ vs hs → HdRs K Fm G σ (v :: vs) (.slot j :: hs)
theorem HdRs.mono {vs : List V} {hs : List Hd} (h : HdRs K Fm G σ vs hs) (s : Same G G') : HdRs K Fm G' σ vs hs := by
  induction h with
  | nil => exact .nil
  | imm q _ ih => exact .imm (q.mono s) ih
  | slot q _ ih => exact .slot q ih
def PoA (K : PySem.W.Frag) (mg : Str → Option Value) (W : WX) (Fm : Hp) (B : Nat → Addr) (G : Hp) (σ : L2.St) (Q : List V → Hp → Prop) : Rs (List Hd) → Prop
  | .ok hs ρ' => ∀ vs G' H', Same G G' → Rep K Fm B G' σ H' ρ' → HdRs K Fm G' σ vs hs → Q vs H'
  | .exc c ρ' => ∀ G' H', Same G G' → Rep K Fm B G' σ H' ρ' → Exw mg W c σ H'
  | .stuck => False
def tH (K : PySem.W.Frag) (mg : Str → Option Value) (W : WX) (f : Mo Hd) : TE := fun σ H Q => ∃ Fm B G ρ, Rep K Fm B G σ H ρ ∧ PoH K mg W Fm B G σ Q (f ρ)
def tT (K : PySem.W.Frag) (mg : Str → Option Value) (W : WX) (f : Mo Bool) : TT := fun σ H Q => ∃ Fm B G ρ, Rep K Fm B G σ H ρ ∧ PoT K mg W Fm B G σ Q (f ρ)
def tA (K : PySem.W.Frag) (mg : Str → Option Value) (W : WX) (f : Mo (List Hd)) : TA := fun σ H Q => ∃ Fm B G ρ, Rep K Fm B G σ H ρ ∧ PoA K mg W Fm B G σ Q (f ρ)
inductive So where
  | nx (ρ : En)
  | rt (h : Hd) (ρ : En)
  | bk (ρ : En)
  | ct (ρ : En)
  | exc (c : Str) (ρ : En)
  | stuck
def PoS (K : PySem.W.Frag) (mg : Str → Option Value) (W : WX) (Fm : Hp) (B : Nat → Addr) (G : Hp) (D : Ends) : So → Prop
  | .nx ρ' => ∀ G' σ' H', Same G G' → Rep K Fm B G' σ' H' ρ' → D.nx σ' H'
  | .bk ρ' => ∀ G' σ' H', Same G G' → Rep K Fm B G' σ' H' ρ' → D.bk σ' H'
  | .ct ρ' => ∀ G' σ' H', Same G G' → Rep K Fm B G' σ' H' ρ' → D.ct σ' H'
  | .rt h ρ' => ∀ v G' σ' H', Same G G' → Rep K Fm B G' σ' H' ρ' → HdR K Fm G' σ' H' ρ' v h → D.rt v H'
  | .exc c ρ' => ∀ G' σ' H', Same G G' → Rep K Fm B G' σ' H' ρ' → Exw mg W c σ' H'
  | .stuck => False
def tS (K : PySem.W.Frag) (mg : Str → Option Value) (W : WX) (f : En → So) : TS := fun D σ H => ∃ Fm B G ρ, Rep K Fm B G σ H ρ ∧ PoS K mg W Fm B G D (f ρ)
/-- nothing but the slots T has been turned -/
def Off (T : List Nat) (σ σ' : L2.St) : Prop := σ'.length = σ.length ∧ ∀ k, k ∉ T → σ'[k]? = σ[k]?
theorem Off.refl {T : List Nat} (σ : L2.St) : Off T σ σ := ⟨rfl, fun _ _ => rfl⟩
theorem Off.trans {T T' : List Nat} {a b c : L2.St} (h : Off T a b) (h' : Off T' b c) : Off (T ++ T') a c :=
  ⟨h'.1.trans h.1, fun k hk => (h'.2 k fun z => hk (List.mem_append_right _ z)).trans (h.2 k fun z => hk (List.mem_append_left _ z))⟩
theorem Off.set (i : Nat) (σ : L2.St) (o : Option V) : Off [i] σ (σ.set i o) :=
  ⟨List.length_set, fun k hk => List.getElem?_set_ne fun z => hk (by rw [z]; exact List.mem_singleton.mpr rfl)⟩
/-- an item of an iterable: a fixed datum, or (of enumerate and zip) a tuple that may be turned -/
def Itm (b : Bool) (K : PySem.W.Frag) (G H : Hp) (v : V) (d : PyData) : Prop := Dp K G v d ∨ (b = true ∧ ∃ p vs ds, v = .ref p ∧ d = .tuple ds ∧ H p = some (.tup vs) ∧ DpAll K G vs ds)
theorem Itm.dp {K : PySem.W.Frag} {G H : Hp} {v : V} {d : PyData} (h : Itm false K G H v d) : Dp K G v d := h.elim id fun z => by cases z.1
def tG (b : Bool) (K : PySem.W.Frag) (T : List Nat) (tf : PyData → En → Option En) : TG := fun v σ H Q => ∃ Fm B G ρ d ρ', Rep K Fm B G σ H ρ ∧ Itm b K G H v d ∧ tf d ρ = some ρ' ∧ ∀ σ', Off T σ σ' → Rep K Fm B G σ' H ρ' → Q σ' H
theorem PoH.up {Q : VK} {r : Rs Hd} (h : PoH K mg W Fm B G σ Q r) (s : Same G G') : PoH K mg W Fm B G' σ Q r := by
  cases r with
  | ok a ρ' => exact fun v G2 H2 s2 => h v G2 H2 (s.trans s2)
  | exc c ρ' => exact fun G2 H2 s2 => h G2 H2 (s.trans s2)
  | stuck => exact h
theorem PoT.up {Q : Bool → Hp → Prop} {r : Rs Bool} (h : PoT K mg W Fm B G σ Q r) (s : Same G G') : PoT K mg W Fm B G' σ Q r := by
  cases r with
  | ok a ρ' => exact fun G2 H2 s2 => h G2 H2 (s.trans s2)
  | exc c ρ' => exact fun G2 H2 s2 => h G2 H2 (s.trans s2)
  | stuck => exact h
theorem PoA.up {Q : List V → Hp → Prop} {r : Rs (List Hd)} (h : PoA K mg W Fm B G σ Q r) (s : Same G G') : PoA K mg W Fm B G' σ Q r := by
  cases r with
  | ok a ρ' => exact fun v G2 H2 s2 => h v G2 H2 (s.trans s2)
  | exc c ρ' => exact fun G2 H2 s2 => h G2 H2 (s.trans s2)
  | stuck => exact h
theorem PoS.up {D : Ends} {r : So} (h : PoS K mg W Fm B G D r) (s : Same G G') : PoS K mg W Fm B G' D r := by
  cases r with
  | nx ρ' => exact fun G2 σ2 H2 s2 => h G2 σ2 H2 (s.trans s2)
  | bk ρ' => exact fun G2 σ2 H2 s2 => h G2 σ2 H2 (s.trans s2)
  | ct ρ' => exact fun G2 σ2 H2 s2 => h G2 σ2 H2 (s.trans s2)
  | rt v ρ' => exact fun v G2 σ2 H2 s2 => h v G2 σ2 H2 (s.trans s2)
  | exc c ρ' => exact fun G2 σ2 H2 s2 => h G2 σ2 H2 (s.trans s2)
  | stuck => exact h
/-- THE CHAIN of two expressions -/
theorem PoH.bnd {f : Rs Hd} {k : Hd → En → Rs Hd} {Q : VK} (h : PoH K mg W Fm B G σ Q (bnd f k)) {Q1 : VK} (hk : ∀ v hd G1 H1 ρ1, Same G G1 → Rep K Fm B G1 σ H1 ρ1 → HdR K Fm G1 σ H1 ρ1 v hd → PoH K mg W Fm B G1 σ Q (k hd ρ1) → Q1 v H1) : PoH K mg W Fm B G σ Q1 f := by
  cases f with
  | ok a ρ1 => exact fun v G1 H1 s1 r1 q1 => hk v a G1 H1 ρ1 s1 r1 q1 (PoH.up h s1)
  | exc c ρ1 => exact h
  | stuck => exact h
end
end Mir


namespace Mir
open PySem PySem.Spec PyProof.Rows L2
def bndS {α : Type} (r : Rs α) (k : α → En → So) : So :=
  match r with
  | .ok a ρ => k a ρ
  | .exc c ρ => .exc c ρ
  | .stuck => .stuck
section
variable {K : PySem.W.Frag} {Fm : Hp} {B : Nat → Addr} {G G' G2 H H' H2 : Hp} {σ : L2.St} {ρ ρ' : En} {mg : Str → Option Value} {W : WX}
theorem PoH.bndT {f : Rs Hd} {k : Hd → En → Rs Bool} {Q : Bool → Hp → Prop} (h : PoT K mg W Fm B G σ Q (Mir.bnd f k)) {Q1 : VK} (hk : ∀ v hd G1 H1 ρ1, Same G G1 → Rep K Fm B G1 σ H1 ρ1 → HdR K Fm G1 σ H1 ρ1 v hd → PoT K mg W Fm B G1 σ Q (k hd ρ1) → Q1 v H1) : PoH K mg W Fm B G σ Q1 f := by
  cases f with
  | ok a ρ1 => exact fun v G1 H1 s1 r1 q1 => hk v a G1 H1 ρ1 s1 r1 q1 (PoT.up h s1)
  | exc c ρ1 => exact h
  | stuck => exact h
theorem PoH.bndA {f : Rs Hd} {k : Hd → En → Rs (List Hd)} {Q : List V → Hp → Prop} (h : PoA K mg W Fm B G σ Q (Mir.bnd f k)) {Q1 : VK} (hk : ∀ v hd G1 H1 ρ1, Same G G1 → Rep K Fm B G1 σ H1 ρ1 → HdR K Fm G1 σ H1 ρ1 v hd → PoA K mg W Fm B G1 σ Q (k hd ρ1) → Q1 v H1) : PoH K mg W Fm B G σ Q1 f := by
  cases f with
  | ok a ρ1 => exact fun v G1 H1 s1 r1 q1 => hk v a G1 H1 ρ1 s1 r1 q1 (PoA.up h s1)
  | exc c ρ1 => exact h
  | stuck => exact h
theorem PoA.bndA {f : Rs (List Hd)} {k : List Hd → En → Rs (List Hd)} {Q : List V → Hp → Prop} (h : PoA K mg W Fm B G σ Q (bnd f k)) {Q1 : List V → Hp → Prop} (hk : ∀ vs hds G1 H1 ρ1, Same G G1 → Rep K Fm B G1 σ H1 ρ1 → HdRs K Fm G1 σ vs hds → PoA K mg W Fm B G1 σ Q (k hds ρ1) → Q1 vs H1) : PoA K mg W Fm B G σ Q1 f := by
  cases f with
  | ok a ρ1 => exact fun v G1 H1 s1 r1 q1 => hk v a G1 H1 ρ1 s1 r1 q1 (PoA.up h s1)
  | exc c ρ1 => exact h
  | stuck => exact h
theorem PoA.bndH {f : Rs (List Hd)} {k : List Hd → En → Rs Hd} {Q : VK} (h : PoH K mg W Fm B G σ Q (bnd f k)) {Q1 : List V → Hp → Prop} (hk : ∀ vs hds G1 H1 ρ1, Same G G1 → Rep K Fm B G1 σ H1 ρ1 → HdRs K Fm G1 σ vs hds → PoH K mg W Fm B G1 σ Q (k hds ρ1) → Q1 vs H1) : PoA K mg W Fm B G σ Q1 f := by
  cases f with
  | ok a ρ1 => exact fun v G1 H1 s1 r1 q1 => hk v a G1 H1 ρ1 s1 r1 q1 (PoH.up h s1)
  | exc c ρ1 => exact h
  | stuck => exact h
theorem PoT.bndT {f : Rs Bool} {k : Bool → En → Rs Bool} {Q : Bool → Hp → Prop} (h : PoT K mg W Fm B G σ Q (bnd f k)) {Q1 : Bool → Hp → Prop} (hk : ∀ b G1 H1 ρ1, Same G G1 → Rep K Fm B G1 σ H1 ρ1 → PoT K mg W Fm B G1 σ Q (k b ρ1) → Q1 b H1) : PoT K mg W Fm B G σ Q1 f := by
  cases f with
  | ok a ρ1 => exact fun G1 H1 s1 r1 => hk a G1 H1 ρ1 s1 r1 (PoT.up h s1)
  | exc c ρ1 => exact h
  | stuck => exact h
theorem PoT.bndH {f : Rs Bool} {k : Bool → En → Rs Hd} {Q : VK} (h : PoH K mg W Fm B G σ Q (bnd f k)) {Q1 : Bool → Hp → Prop} (hk : ∀ b G1 H1 ρ1, Same G G1 → Rep K Fm B G1 σ H1 ρ1 → PoH K mg W Fm B G1 σ Q (k b ρ1) → Q1 b H1) : PoT K mg W Fm B G σ Q1 f := by
  cases f with
  | ok a ρ1 => exact fun G1 H1 s1 r1 => hk a G1 H1 ρ1 s1 r1 (PoH.up h s1)
  | exc c ρ1 => exact h
  | stuck => exact h
theorem PoH.bndS {f : Rs Hd} {k : Hd → En → So} {D : Ends} (h : PoS K mg W Fm B G D (bndS f k)) {Q1 : VK} (hk : ∀ v hd G1 H1 ρ1, Same G G1 → Rep K Fm B G1 σ H1 ρ1 → HdR K Fm G1 σ H1 ρ1 v hd → PoS K mg W Fm B G1 D (k hd ρ1) → Q1 v H1) : PoH K mg W Fm B G σ Q1 f := by
  cases f with
  | ok a ρ1 => exact fun v G1 H1 s1 r1 q1 => hk v a G1 H1 ρ1 s1 r1 q1 (PoS.up h s1)
  | exc c ρ1 => exact fun G1 H1 s1 r1 => h G1 σ H1 s1 r1
  | stuck => exact h
theorem PoT.bndS {f : Rs Bool} {k : Bool → En → So} {D : Ends} (h : PoS K mg W Fm B G D (bndS f k)) {Q1 : Bool → Hp → Prop} (hk : ∀ b G1 H1 ρ1, Same G G1 → Rep K Fm B G1 σ H1 ρ1 → PoS K mg W Fm B G1 D (k b ρ1) → Q1 b H1) : PoT K mg W Fm B G σ Q1 f := by
  cases f with
  | ok a ρ1 => exact fun G1 H1 s1 r1 => hk a G1 H1 ρ1 s1 r1 (PoS.up h s1)
  | exc c ρ1 => exact fun G1 H1 s1 r1 => h G1 σ H1 s1 r1
  | stuck => exact h
theorem PoA.bndS {f : Rs (List Hd)} {k : List Hd → En → So} {D : Ends} (h : PoS K mg W Fm B G D (bndS f k)) {Q1 : List V → Hp → Prop} (hk : ∀ vs hds G1 H1 ρ1, Same G G1 → Rep K Fm B G1 σ H1 ρ1 → HdRs K Fm G1 σ vs hds → PoS K mg W Fm B G1 D (k hds ρ1) → Q1 vs H1) : PoA K mg W Fm B G σ Q1 f := by
  cases f with
  | ok a ρ1 => exact fun v G1 H1 s1 r1 q1 => hk v a G1 H1 ρ1 s1 r1 q1 (PoS.up h s1)
  | exc c ρ1 => exact fun G1 H1 s1 r1 => h G1 σ H1 s1 r1
  | stuck => exact h

/-! ### what an operation gives -/
def NR (K : PySem.W.Frag) (G' H H' : Hp) (v : V) : Hd → Prop
  | .imm d => Dp K G' v d
  | .fresh ds => ∃ p vs, v = .ref p ∧ H p = none ∧ G' p = none ∧ H' p = some (.lst vs) ∧ DpAll K G' vs ds
  | .slot _ => False
theorem Rep.nr (r : Rep K Fm B G σ H ρ) (g : Grow G H G' H') {v : V} {h : Hd} (n : NR K G' H H' v h) : HdR K Fm G' σ H' ρ v h := by
  cases h with
  | imm d => exact n
  | slot j => exact n.elim
  | fresh ds =>
    obtain ⟨p, vs, rfl, hp, gp, hv, q⟩ := n
    refine ⟨p, rfl, ⟨gp, ?_, vs, hv, q⟩, fun i hi z => ?_⟩
    · cases e : Fm p with
      | none => rfl
      | some o => have := (r.fh p o e).1; rw [hp] at this; cases this
    · obtain ⟨p', o', e1, _, _, e2⟩ := r.cellAny hi
      rw [z] at e1
      cases e1
      rw [hp] at e2
      cases e2
inductive ERs (K : PySem.W.Frag) (G H : Hp) : List V → List PyData → Prop
  | nil : ERs K G H [] []
  | cons {v : V} {d : PyData} {vs : List V} {ds : List PyData} : ER K G H v d → ERs K G H vs ds → ERs K G H (v :: vs) (d :: ds)
def drs : List Hd → En → Option (List PyData)
  | [], _ => some []
  | h :: hs, ρ => match dr h ρ, drs hs ρ with
    | some d, some ds => some (d :: ds)
    | _, _ => none
theorem Rep.ers (r : Rep K Fm B G σ H ρ) {hs : List Hd} {vs : List V} (h : HdRs K Fm G σ vs hs) : ∀ {ds : List PyData}, drs hs ρ = some ds → ERs K G H vs ds := by
  induction h with
  | nil => intro ds e; cases e; exact .nil
  | @imm v d vs hs q _ ih =>
    intro ds e
    simp only [drs, dr] at e
    split at e
    · rename_i e1 e2
      cases e1
      cases e
      exact .cons (.inl q) (ih e2)
    · cases e
  | @slot v j vs hs q _ ih =>
    intro ds e
    simp only [drs] at e
    split at e
    · rename_i e1 e2
      cases e
      exact .cons (r.er (h := .slot j) q e1) (ih e2)
    · cases e

/-! ### the rules of values -/
def rOp (K : PySem.W.Frag) (op : PyData → PyData → Option Hd) : R2 := fun x y H Q => ∃ G d1 d2 r, Same G H ∧ ER K G H x d1 ∧ ER K G H y d2 ∧ op d1 d2 = some r ∧ ∀ v G' H', Grow G H G' H' → NR K G' H H' v r → Q v H'
def rUn (K : PySem.W.Frag) (op : PyData → Option Hd) : V → Hp → VK → Prop := fun x H Q => ∃ G d r, Same G H ∧ ER K G H x d ∧ op d = some r ∧ ∀ v G' H', Grow G H G' H' → NR K G' H H' v r → Q v H'
def rCl (K : PySem.W.Frag) (op : List PyData → Option Hd) : List V → Hp → VK → Prop := fun xs H Q => ∃ G ds r, Same G H ∧ ERs K G H xs ds ∧ op ds = some r ∧ ∀ v G' H', Grow G H G' H' → NR K G' H H' v r → Q v H'
def rMt (K : PySem.W.Frag) (op : PyData → List PyData → Option Hd) : V → List V → Hp → VK → Prop := fun x xs H Q => ∃ G d ds r, Same G H ∧ ER K G H x d ∧ ERs K G H xs ds ∧ op d ds = some r ∧ ∀ v G' H', Grow G H G' H' → NR K G' H H' v r → Q v H'

/-! ### expressions -/
def isSet : Option Slot → Bool
  | some .unset => false
  | none => false
  | _ => true
def eN (i : Nat) : Mo Hd := fun ρ => if isSet ρ[i]? = true then .ok (.slot i) ρ else .stuck
def eC (d : PyData) : Mo Hd := fun ρ => .ok (.imm d) ρ
def opt (o : Option Hd) (ρ : En) : Rs Hd := match o with
  | some r => .ok r ρ
  | none => .stuck
def fin2 (op : PyData → PyData → Option Hd) (h1 h2 : Hd) (ρ : En) : Rs Hd := match dr h1 ρ, dr h2 ρ with
  | some a, some b => opt (op a b) ρ
  | _, _ => .stuck
def e2 (op : PyData → PyData → Option Hd) (fa fb : Mo Hd) : Mo Hd := fun ρ => bnd (fa ρ) fun h1 ρ1 => bnd (fb ρ1) fun h2 ρ2 => fin2 op h1.hold h2 ρ2
def e1 (op : PyData → Option Hd) (fa : Mo Hd) : Mo Hd := fun ρ => bnd (fa ρ) fun h ρ1 => match dr h ρ1 with
  | some a => opt (op a) ρ1
  | none => .stuck
def aNil : Mo (List Hd) := fun ρ => .ok [] ρ
def aCons (fe : Mo Hd) (fr : Mo (List Hd)) : Mo (List Hd) := fun ρ => bnd (fe ρ) fun h ρ1 => bnd (fr ρ1) fun hs ρ2 => .ok (h.hold :: hs) ρ2
def eCl (op : List PyData → Option Hd) (fa : Mo (List Hd)) : Mo Hd := fun ρ => bnd (fa ρ) fun hs ρ1 => match drs hs ρ1 with
  | some ds => opt (op ds) ρ1
  | none => .stuck
def eMt (tg : PyData → Bool) (op : PyData → List PyData → Option Hd) (fo : Mo Hd) (fa : Mo (List Hd)) : Mo Hd := fun ρ => bnd (fo ρ) fun h ρ1 => match dr h.hold ρ1 with
  | some d0 => if tg d0 = true then bnd (fa ρ1) fun hs ρ2 => match dr h.hold ρ2, drs hs ρ2 with
      | some d, some ds => opt (op d ds) ρ2
      | _, _ => .stuck else .stuck
  | none => .stuck
end
section
variable {X : Cx} {W : WX} {a b : Expr} {fa fb : Mo Hd} {pos : Pos}
theorem PE.weak {e : Expr} {t t' : TE} (h : PE X e t) (i : ∀ σ H Q, t' σ H Q → t σ H Q) : PE X e t' := ⟨fun pins s σ H Q I hw => h.run pins s σ H Q I (i σ H Q hw)⟩
theorem PT.weak {e : Expr} {t t' : TT} (h : PT X e t) (i : ∀ σ H Q, t' σ H Q → t σ H Q) : PT X e t' := ⟨fun pins s σ H Q I hw => h.run pins s σ H Q I (i σ H Q hw)⟩
theorem PA.weak {e : List Expr} {t t' : TA} (h : PA X e t) (i : ∀ σ H Q, t' σ H Q → t σ H Q) : PA X e t' := ⟨fun pos pins s σ H Q I hw => h.run pos pins s σ H Q I (i σ H Q hw)⟩
theorem PS.weak {e : Stmt} {t t' : TS} (h : PS X e t) (i : ∀ D σ H, t' D σ H → t D σ H) : PS X e t' := ⟨fun pins s σ H D I hw => h.run pins s σ H D I (i D σ H hw)⟩
theorem PSs.weak {e : List Stmt} {t t' : TS} (h : PSs X e t) (i : ∀ D σ H, t' D σ H → t D σ H) : PSs X e t' := ⟨fun pins s σ H D I hw => h.run pins s σ H D I (i D σ H hw)⟩
theorem re_name (i : Nat) {x : Str} {pos : Pos} (hN : X.N[i]? = some x := by rfl) (hv : Vis X.env.scope x := by first | exact Or.inl rfl | exact Or.inr (Or.inl rfl) | exact Or.inr (Or.inr rfl)) (hd : (x == ("__debug__" : Str)) = false := by decide)
    (hcd : (x == ("__classdict__" : Str)) = false := by decide) : PE X (.Name x pos) (tH X.K X.mg W (eN i)) := PE.weak (pe_var hN hv hd hcd) fun σ H Q h => by
  obtain ⟨Fm, B, G, ρ, r, p⟩ := h
  unfold eN at p
  by_cases c : isSet ρ[i]? = true
  · rw [if_pos c] at p
    cases e : ρ[i]? with
    | none => rw [e] at c; cases c
    | some s =>
      rw [e] at c
      have x := r.at e
      have fin : ∀ v, σ[i]?.join = some v → tVar i σ H Q := fun v z => ⟨v, join_some z, p v G H (Same.refl _) r (join_some z)⟩
      cases s with
      | unset => cases c
      | val d => obtain ⟨v, z, _⟩ := x; exact fin v z
      | own ds => obtain ⟨q, z, _⟩ := x; exact fin _ z
      | arg ds => exact fin _ x.1
      | exn c => obtain ⟨_, _, z, _⟩ := x; exact fin _ z
      | lck m => obtain ⟨_, _, _, z, _⟩ := x; exact fin _ z
      | bx b => obtain ⟨q, z, _⟩ := x; exact fin _ z
      | bxa b => exact fin _ x.1
      | dic m => obtain ⟨q, z, _⟩ := x; exact fin _ z
      | darg m => exact fin _ x.1
  · rw [if_neg c] at p
    exact p.elim
theorem re_const {v : V} {d : PyData} {e : Expr} (h : PE X e (tC v)) (q : ∀ G, Dp X.K G v d) : PE X e (tH X.K X.mg W (eC d)) := PE.weak h fun σ H Q h => by
  obtain ⟨Fm, B, G, ρ, r, p⟩ := h
  exact p v G H (Same.refl _) r (q G)
theorem re_int {i : Int} {j pos} : PE X (.Constant (.int i) j pos) (tH X.K X.mg W (eC (.int i))) := re_const pe_int fun _ => .int i
theorem re_bool {i : Bool} {j pos} : PE X (.Constant (.bool i) j pos) (tH X.K X.mg W (eC (.bool i))) := re_const pe_bl fun _ => .bl i
theorem re_str {i : Str} {j pos} : PE X (.Constant (.str i) j pos) (tH X.K X.mg W (eC (.str i))) := re_const pe_str fun _ => .str i
/-- two operands -/
theorem two {f3 : Hd → Hd → En → Rs Hd} {σ : L2.St} {H : Hp} {Q : VK} {r : R2} (h : tH X.K X.mg W (fun ρ => bnd (fa ρ) fun h1 ρ1 => bnd (fb ρ1) fun h2 ρ2 => f3 h1.hold h2 ρ2) σ H Q)
    (hr : ∀ x y Fm B G H ρ h1 h2, Rep X.K Fm B G σ H ρ → HdR X.K Fm G σ H ρ x h1 → HdR X.K Fm G σ H ρ y h2 → PoH X.K X.mg W Fm B G σ Q (f3 h1 h2 ρ) → r x y H Q) : tOp r (tH X.K X.mg W fa) (tH X.K X.mg W fb) σ H Q := by
  obtain ⟨Fm, B, G, ρ, r0, p⟩ := h
  refine ⟨Fm, B, G, ρ, r0, p.bnd fun x h1 G1 H1 ρ1 s1 r1 q1 p1 => ?_⟩
  obtain ⟨G1', s1', r1', q1'⟩ := r1.hold q1
  refine ⟨Fm, B, G1', ρ1, r1', (p1.up s1').bnd fun y h2 G2 H2 ρ2 s2 r2 q2 p2 => ?_⟩
  exact hr x y Fm B G2 H2 ρ2 h1.hold h2 r2 (HdR.keep q1' s2) q2 p2
theorem use2 {op : PyData → PyData → Option Hd} {σ : L2.St} {H : Hp} {Q : VK} (h : tH X.K X.mg W (e2 op fa fb) σ H Q) : tOp (rOp X.K op) (tH X.K X.mg W fa) (tH X.K X.mg W fb) σ H Q :=
  two h fun x y Fm B G H ρ h1 h2 r q1 q2 p => by
    unfold fin2 at p
    split at p
    · rename_i d1 d2 z1 z2
      cases e : op d1 d2 with
      | none => rw [e] at p; exact p.elim
      | some res =>
        rw [e] at p
        exact ⟨G, d1, d2, res, r.gh, r.er q1 z1, r.er q2 z2, e, fun v G' H' g n => p v G' H' g.gg (r.grow g) (r.nr g n)⟩
    · exact p.elim
theorem re_op {op : Operator} {o2 : PyData → PyData → Option Hd} (ho : OpR X (binaryOp op) (rOp X.K o2)) (ha : PE X a (tH X.K X.mg W fa)) (hb : PE X b (tH X.K X.mg W fb)) : PE X (.BinOp a op b pos) (tH X.K X.mg W (e2 o2 fa fb)) :=
  PE.weak (pe_op ho ha hb) fun _ _ _ h => use2 h
theorem re_cmp {op : CmpOp} {o2 : PyData → PyData → Option Hd} (ho : OpR X (compareOp op) (rOp X.K o2)) (ha : PE X a (tH X.K X.mg W fa)) (hb : PE X b (tH X.K X.mg W fb)) (hm : behindInMarks op b = false) : PE X (.Compare a [op] [b] pos) (tH X.K X.mg W (e2 o2 fa fb)) :=
  PE.weak (pe_cmpR ho ha hb hm) fun _ _ _ h => use2 h
theorem re_ix {o2 : PyData → PyData → Option Hd} (ho : IxR X (rOp X.K o2)) (ha : PE X a (tH X.K X.mg W fa)) (hb : PE X b (tH X.K X.mg W fb)) (hs : PlainIx b) : PE X (.Subscript a b pos) (tH X.K X.mg W (e2 o2 fa fb)) :=
  PE.weak (pe_ix ho ha hb hs) fun _ _ _ h => use2 h
theorem ra_nil : PA X [] (tA X.K X.mg W aNil) := PA.weak pa_nil fun σ H Q h => by
  obtain ⟨Fm, B, G, ρ, r0, p⟩ := h
  exact p [] G H (Same.refl _) r0 .nil
theorem ra_cons {e : Expr} {es : List Expr} {fe : Mo Hd} {fr : Mo (List Hd)} (ha : PE X e (tH X.K X.mg W fe)) (hr : PA X es (tA X.K X.mg W fr)) (hs : starEach (e :: es) X.env = (false, eval e X.env) :: starEach es X.env := by rfl) :
    PA X (e :: es) (tA X.K X.mg W (aCons fe fr)) := PA.weak (pa_cons ha hr hs) fun σ H Q h => by
  obtain ⟨Fm, B, G, ρ, r0, p⟩ := h
  refine ⟨Fm, B, G, ρ, r0, PoH.bndA p fun x h1 G1 H1 ρ1 s1 r1 q1 p1 => ?_⟩
  obtain ⟨G1', s1', r1', q1'⟩ := r1.hold q1
  refine ⟨Fm, B, G1', ρ1, r1', (p1.up s1').bndA fun xs hs G2 H2 ρ2 s2 r2 q2 p2 => ?_⟩
  refine p2 (x :: xs) G2 H2 (Same.refl _) r2 ?_
  have k := HdR.keep (H' := H2) (ρ' := ρ2) q1' s2
  cases h1 with
  | imm d => exact .imm k q2
  | slot j => exact .slot k q2
  | fresh ds => exact .imm k q2
theorem useA {op : List PyData → Option Hd} {f : Mo (List Hd)} {σ : L2.St} {H : Hp} {Q : VK} (h : tH X.K X.mg W (eCl op f) σ H Q) : tCB (rCl X.K op) (tA X.K X.mg W f) σ H Q := by
  obtain ⟨Fm, B, G, ρ, r0, p⟩ := h
  refine ⟨Fm, B, G, ρ, r0, PoA.bndH p fun xs hs G1 H1 ρ1 s1 r1 q1 p1 => ?_⟩
  cases z : drs hs ρ1 with
  | none => rw [z] at p1; exact p1.elim
  | some ds =>
    rw [z] at p1
    cases e : op ds with
    | none => simp only [e, opt] at p1; exact p1.elim
    | some res =>
      simp only [e, opt] at p1
      exact ⟨G1, ds, res, r1.gh, r1.ers q1 z, e, fun v G' H' g n => p1 v G' H' g.gg (r1.grow g) (r1.nr g n)⟩
/-- f(e, ..), f a built-in function | type -/
theorem re_callB {id : String} {x : Str} {p : Pos} {e : Expr} {es : List Expr} {f : Mo (List Hd)} {op : List PyData → Option Hd} (hc : CallR X (.builtin id) (rCl X.K op)) (hg : Gl X x) (hm : X.mg x = none) (hv : bootBuiltins x = some (.builtin id)) (ha : PA X (e :: es) (tA X.K X.mg W f))
    (hn : x ≠ "__name__" := by decide) (hdb : (x == ("__debug__" : Str)) = false := by decide)
    (he : starEach (e :: es) X.env = (false, eval e X.env) :: starEach es X.env := by rfl) (hpl : (backTo pos (starEach es X.env)).any (·.1) = false := by rfl) : PE X (.Call (.Name x p) (e :: es) [] pos) (tH X.K X.mg W (eCl op f)) :=
  PE.weak (pe_callB hc hg hm hv ha hn hdb he hpl) fun _ _ _ h => useA h
theorem re_callTy {T : String} {x : Str} {p : Pos} {e : Expr} {es : List Expr} {f : Mo (List Hd)} {op : List PyData → Option Hd} (hc : CallR X (.type T) (rCl X.K op)) (hg : Gl X x) (hm : X.mg x = none) (hv : bootBuiltins x = some (.type T)) (ha : PA X (e :: es) (tA X.K X.mg W f))
    (hn : x ≠ "__name__" := by decide) (hdb : (x == ("__debug__" : Str)) = false := by decide)
    (he : starEach (e :: es) X.env = (false, eval e X.env) :: starEach es X.env := by rfl) (hpl : (backTo pos (starEach es X.env)).any (·.1) = false := by rfl) : PE X (.Call (.Name x p) (e :: es) [] pos) (tH X.K X.mg W (eCl op f)) :=
  PE.weak (pe_callTy hc hg hm hv ha hn hdb he hpl) fun _ _ _ h => useA h
/-! ### tuples and lists written -/
def escs : List Hd → En → Rs (List PyData)
  | [], ρ => .ok [] ρ
  | h :: hs, ρ => bnd (esc h ρ) fun d ρ1 => bnd (escs hs ρ1) fun ds ρ2 => .ok (d :: ds) ρ2
theorem Rep.escs {K : PySem.W.Frag} {Fm : Hp} {B : Nat → Addr} {G : Hp} {σ : L2.St} {H : Hp} {vs : List V} {hs : List Hd} (h : HdRs K Fm G σ vs hs) : ∀ {G0 : Hp} {ρ ρ' : En} {ds : List PyData}, Same G G0 → Rep K Fm B G0 σ H ρ → escs hs ρ = .ok ds ρ' →
    ∃ G', Same G0 G' ∧ Rep K Fm B G' σ H ρ' ∧ DpAll K G' vs ds := by
  induction h with
  | nil => intro G0 ρ ρ' ds s r e; cases e; exact ⟨G0, Same.refl _, r, .nil⟩
  | @imm v d vs hs q _ ih =>
    intro G0 ρ ρ' ds s r e
    simp only [Mir.escs, Mir.esc, bnd] at e
    cases e2 : Mir.escs hs ρ with
    | exc c ρ2 => rw [e2] at e; cases e
    | stuck => rw [e2] at e; cases e
    | ok ds2 ρ2 =>
      rw [e2] at e
      cases e
      obtain ⟨G', s', r', q'⟩ := ih s r e2
      exact ⟨G', s', r', .cons (q.mono (s.trans s')) q'⟩
  | @slot v j vs hs q _ ih =>
    intro G0 ρ ρ' ds s r e
    simp only [Mir.escs] at e
    cases e1 : Mir.esc (.slot j) ρ with
    | exc c ρ2 => rw [e1] at e; cases e
    | stuck => rw [e1] at e; cases e
    | ok d1 ρ1 =>
      rw [e1] at e
      simp only [bnd] at e
      cases e2 : Mir.escs hs ρ1 with
      | exc c ρ2 => rw [e2] at e; cases e
      | stuck => rw [e2] at e; cases e
      | ok ds2 ρ2 =>
        rw [e2] at e
        cases e
        obtain ⟨G1, s1, r1, q1⟩ := r.esc (h := .slot j) q e1
        obtain ⟨G', s', r', q'⟩ := ih (s.trans s1) r1 e2
        exact ⟨G', s1.trans s', r', .cons (q1.mono s') q'⟩
noncomputable def eTup (f : Mo (List Hd)) : Mo Hd := fun ρ => bnd (f ρ) fun hs ρ1 => bnd (escs hs ρ1) fun ds ρ2 => @ite _ (ds.length ≤ sizeLine) (Classical.propDecidable _) (.ok (.imm (.tuple ds)) ρ2) .stuck
noncomputable def eLst (f : Mo (List Hd)) : Mo Hd := fun ρ => bnd (f ρ) fun hs ρ1 => bnd (escs hs ρ1) fun ds ρ2 => @ite _ (ds.length ≤ sizeLine) (Classical.propDecidable _) (.ok (.fresh ds) ρ2) .stuck
theorem esc_ne {h : Hd} {ρ ρ2 : En} {c : Str} : esc h ρ ≠ .exc c ρ2 := fun z => by
  cases h with
  | imm d => cases z
  | fresh ds => cases z
  | slot j =>
    simp only [esc] at z
    split at z <;> cases z
theorem escs_ne {c : Str} : ∀ {hs : List Hd} {ρ ρ2 : En}, escs hs ρ ≠ .exc c ρ2
  | [], _, _, z => by cases z
  | h :: hs, ρ, ρ2, z => by
    simp only [escs] at z
    cases e : esc h ρ with
    | exc c' ρ1 => exact esc_ne e
    | stuck => rw [e] at z; cases z
    | ok d ρ1 =>
      rw [e] at z
      simp only [bnd] at z
      cases e2 : escs hs ρ1 with
      | exc c' ρ3 => exact escs_ne e2
      | stuck => rw [e2] at z; cases z
      | ok ds ρ3 => rw [e2] at z; cases z
/-- a tuple that is made, as the fixed object that it is -/
def Bare (ob : Obj) : Prop := ob.dict = none ∧ ob.cls = .type "tuple"
theorem sqT_frz {K : PySem.W.Frag} {G : Hp} {p : Addr} {ob : Obj} {ys : List V} : SqT K (upd G p (.frz ob (.tup ys))) p ys := .inl (.inr ⟨ob, upd_same⟩)
/-- a new tuple is laid as the fixed object that it is -/
theorem lay_frz {X : Cx} {pins : List (Addr × Obj)} {σ : L2.St} {H : Hp} {s : Shared} (I : Inv X pins σ H s) {ys : List V} {us : List Value} {arr : Array Value} (r : Vals ys us) (ha : arr = us.toArray) (z : ys.length ≤ sizeLine) :
    ∃ ob, Bare ob ∧ H s.heap.objs.size = none ∧ Inv X pins σ (upd H s.heap.objs.size (.frz ob (.tup ys))) { s with heap := s.heap.push { cls := .type "tuple", data := .seq arr } } := by
  subst ha
  have free := I.hok.fresh (a := s.heap.objs.size) (Nat.le_refl _)
  have got : (s.heap.push { cls := .type "tuple", data := .seq us.toArray }).get? s.heap.objs.size = some { cls := .type "tuple", data := .seq us.toArray } := Heap.get?_push_size _ rfl
  exact ⟨_, ⟨rfl, rfl⟩, free, I.laid (t' := s.toks) (fun _ _ q => Heap.get?_push_of_some _ q) (Nat.le_refl _) ⟨got, z, us, r, ⟨_, got, rfl, _, rfl⟩⟩⟩
def rCatF (K : PySem.W.Frag) : R2 := fun x y H Q => ∃ a c ys zs, x = .ref a ∧ y = .ref c ∧ SqT K H a ys ∧ SqT K H c zs ∧ ys.length + zs.length ≤ sizeLine ∧
  (ys = [] → Q (.ref c) H) ∧ (ys ≠ [] → zs = [] → Q (.ref a) H) ∧ (ys ≠ [] → zs ≠ [] → ∀ p ob, H p = none → Bare ob → Q (.ref p) (upd H p (.frz ob (.tup (ys ++ zs)))))
theorem op_catF {X : Cx} : OpR X (binaryOp .Add) (rCatF X.K) := by
  intro pins s σ H x y v u Q I rx ry w
  obtain ⟨a, c, ys, zs, rfl, rfl, ha, hc, hz, q0, q1, q2⟩ := w
  obtain rfl : v = Value.ref a := rx
  obtain rfl : u = Value.ref c := ry
  obtain ⟨us, r1, p1, _⟩ := I.tuple ha
  obtain ⟨ws, r2, p2, _⟩ := I.tuple hc
  by_cases hx : ys = []
  · subst hx
    cases r1
    exact cat_tup0 p1 p2 ⟨.ref c, H, I, rfl, q0 rfl⟩
  · refine HT.cat_tup p1 p2 (fun z => hx (r1.nil_iff.mp z)) (fun z => ⟨.ref a, H, I, rfl, q1 hx (r2.nil_iff.mp z)⟩) (fun z => ?_) (by rw [← r1.length, ← r2.length]; exact hz)
    obtain ⟨ob, bo, free, I3⟩ := lay_frz I (r1.append r2) rfl (by rw [List.length_append]; exact hz)
    exact ⟨.ref _, _, I3, rfl, q2 hx (fun k => z (r2.nil_iff.mpr k)) _ _ free bo⟩
def rSlF (K : PySem.W.Frag) : V → Option Int → Option Int → Hp → VK → Prop := fun x lo hi H Q => ∃ a ys, x = .ref a ∧ SqT K H a ys ∧
  (HT.sIx ys.length 0 lo = 0 ∧ HT.sIx ys.length ys.length hi = ys.length → Q (.ref a) H) ∧ (¬ (HT.sIx ys.length 0 lo = 0 ∧ HT.sIx ys.length ys.length hi = ys.length) → ∀ p ob, H p = none → Bare ob → Q (.ref p) (upd H p (.frz ob (.tup (cutV ys lo hi)))))
theorem call_tupleF {X : Cx} : CallR X (.type "tuple") (fun xs H Q => ∃ p ys, xs = [.ref p] ∧ ((SqL X.K H p ys ∧ ∀ l ob, H l = none → Bare ob → Q (.ref l) (upd H l (.frz ob (.tup ys)))) ∨ (SqT X.K H p ys ∧ Q (.ref p) H))) := by
  intro pins s σ H xs us Q I rs w
  obtain ⟨p, ys, rfl, w⟩ := w
  obtain ⟨u, rfl, ru⟩ := vals1 rs
  obtain rfl : u = Value.ref p := ru
  rcases w with ⟨hq, q⟩ | ⟨hq, q⟩
  · obtain ⟨its, r, pl, hz⟩ := I.list hq
    refine call_tuple_list pl.isList (fun h' kp => ?_) (by rw [List.size_toArray, ← r.length]; exact hz)
    have I1 : Inv X pins σ H { s with heap := h' } := I.kept (t' := s.toks) kp
    obtain ⟨ob, bo, free, I3⟩ := lay_frz I1 r rfl hz
    exact ⟨.ref _, _, I3, rfl, q _ _ free bo⟩
  · obtain ⟨its, r, pl, _⟩ := I.tuple hq
    exact call_tuple_same pl ⟨.ref p, H, I, rfl, q⟩
def tTupF (t : TA) : TE := fun σ H Q => t σ H fun ys H2 => ys.length ≤ sizeLine ∧ ∀ p ob, H2 p = none → Bare ob → Q (.ref p) (upd H2 p (.frz ob (.tup ys)))
theorem pe_tupF {X : Cx} {es : List Expr} {t : TA} {x1} {pos : Pos} (h : PA X es t) : PE X (.Tuple es x1 pos) (tTupF t) := by
  refine ⟨fun pins s σ H Q I w => ?_⟩
  refine wpAny_Tuple_spliced (thn (h.run pos pins s σ H _ I w) fun us s2 ⟨ys, H2, I2, r, z, q⟩ => ⟨by rw [← r.length]; exact z, ?_⟩)
  obtain ⟨ob, b, free, I3⟩ := lay_frz I2 r rfl z
  exact ⟨.ref s2.heap.objs.size, _, I3, rfl, q _ _ free b⟩
theorem re_tup {es : List Expr} {x1} {f : Mo (List Hd)} (ha : PA X es (tA X.K X.mg W f)) : PE X (.Tuple es x1 pos) (tH X.K X.mg W (eTup f)) := PE.weak (pe_tupF ha) fun σ H Q h => by
  obtain ⟨Fm, B, G, ρ, r0, p⟩ := h
  refine ⟨Fm, B, G, ρ, r0, PoA.bndH p fun xs hs G1 H1 ρ1 s1 r1 q1 p1 => ?_⟩
  cases e : escs hs ρ1 with
  | stuck => rw [e] at p1; exact p1.elim
  | exc c ρ2 => exact (escs_ne e).elim
  | ok ds ρ2 =>
    rw [e] at p1
    obtain ⟨G2, s2, r2, q2⟩ := Rep.escs q1 (Same.refl _) r1 e
    simp only [bnd] at p1
    by_cases hz : ds.length ≤ sizeLine
    · rw [if_pos hz] at p1
      refine ⟨by rw [q2.length]; exact hz, fun p ob np bo => ?_⟩
      have g := Grow.new (o := .frz ob (.tup xs)) r2.gh np bo
      exact p1 (.ref p) _ _ (s2.trans g.gg) (r2.grow g) (Dp.tup sqT_frz (q2.mono g.gg))
    · rw [if_neg hz] at p1
      exact p1.elim
theorem re_lst {es : List Expr} {f : Mo (List Hd)} (ha : PA X es (tA X.K X.mg W f)) : PE X (.List es pos) (tH X.K X.mg W (eLst f)) := PE.weak (pe_lst ha) fun σ H Q h => by
  obtain ⟨Fm, B, G, ρ, r0, p⟩ := h
  refine ⟨Fm, B, G, ρ, r0, PoA.bndH p fun xs hs G1 H1 ρ1 s1 r1 q1 p1 => ?_⟩
  cases e : escs hs ρ1 with
  | stuck => rw [e] at p1; exact p1.elim
  | exc c ρ2 => exact (escs_ne e).elim
  | ok ds ρ2 =>
    rw [e] at p1
    obtain ⟨G2, s2, r2, q2⟩ := Rep.escs q1 (Same.refl _) r1 e
    simp only [bnd] at p1
    by_cases hz : ds.length ≤ sizeLine
    · rw [if_pos hz] at p1
      refine ⟨by rw [q2.length]; exact hz, fun p np => ?_⟩
      have g := Grow.new0 (o := .lst xs) r2.gh np
      exact p1 (.ref p) _ _ (s2.trans g.gg) (r2.grow g) (r2.nr g (h := .fresh ds) ⟨p, xs, rfl, np, r2.free np, upd_same, q2⟩)
    · rw [if_neg hz] at p1
      exact p1.elim
/-! ### truths -/
def t1 (f : Mo Hd) : Mo Bool := fun ρ => bnd (f ρ) fun h ρ1 => match dr h ρ1 with
  | some (.bool b) => .ok b ρ1
  | _ => .stuck
theorem useT {f : Mo Hd} {σ : L2.St} {H : Hp} {Q : Bool → Hp → Prop} (h : tT X.K X.mg W (t1 f) σ H Q) : tH X.K X.mg W f σ H fun x H1 => ∃ c, x = .bl c ∧ Q c H1 := by
  obtain ⟨Fm, B, G, ρ, r0, p⟩ := h
  refine ⟨Fm, B, G, ρ, r0, PoH.bndT p fun x h1 G1 H1 ρ1 s1 r1 q1 p1 => ?_⟩
  split at p1
  · rename_i b z
    exact ⟨b, (r1.er q1 z).bool, p1 G1 H1 (Same.refl _) r1⟩
  · exact p1.elim
theorem rt_cmp {op : CmpOp} {o2 : PyData → PyData → Option Hd} (ho : OpR X (compareOp op) (rOp X.K o2)) (ha : PE X a (tH X.K X.mg W fa)) (hb : PE X b (tH X.K X.mg W fb)) (hm : behindInMarks op b = false) : PT X (.Compare a [op] [b] pos) (tT X.K X.mg W (t1 (e2 o2 fa fb))) :=
  PT.weak (pt_cmpR ho ha hb hm) fun σ H Q h => use2 (useT h)
def tAnd' (f g : Mo Bool) : Mo Bool := fun ρ => bnd (f ρ) fun b ρ1 => if b = true then g ρ1 else .ok false ρ1
def tOr' (f g : Mo Bool) : Mo Bool := fun ρ => bnd (f ρ) fun b ρ1 => if b = true then .ok true ρ1 else g ρ1
def tNot' (f : Mo Bool) : Mo Bool := fun ρ => bnd (f ρ) fun b ρ1 => .ok (!b) ρ1
theorem PW.weak {e : Expr} {t t' : TT} (h : PW X e t) (i : ∀ σ H Q, t' σ H Q → t σ H Q) : PW X e t' := ⟨fun wh pins s σ H Q I hw => h.run wh pins s σ H Q I (i σ H Q hw)⟩
/-- as values -/
def eAnd (f g : Mo Hd) : Mo Hd := fun ρ => bnd (t1 f ρ) fun b ρ1 => if b = true then g ρ1 else .ok (.imm (.bool false)) ρ1
def eOr (f g : Mo Hd) : Mo Hd := fun ρ => bnd (t1 f ρ) fun b ρ1 => if b = true then .ok (.imm (.bool true)) ρ1 else g ρ1
def eNot (f : Mo Hd) : Mo Hd := fun ρ => bnd (t1 f ρ) fun b ρ1 => .ok (.imm (.bool (!b))) ρ1
def eIf (c : Mo Bool) (f g : Mo Hd) : Mo Hd := fun ρ => bnd (c ρ) fun b ρ1 => if b = true then f ρ1 else g ρ1
/-- a < b < c -/
def eCh (o o' : PyData → PyData → Option Hd) (fa fb fc : Mo Hd) : Mo Hd := fun ρ => bnd (fa ρ) fun h1 ρ1 => bnd (fb ρ1) fun h2 ρ2 => bnd (fin2 o h1.hold h2.hold ρ2) fun h3 ρ3 => match dr h3 ρ3 with
  | some (.bool true) => bnd (fc ρ3) fun h4 ρ4 => fin2 o' h2.hold h4 ρ4
  | some (.bool false) => .ok (.imm (.bool false)) ρ3
  | _ => .stuck
end
end Mir


namespace Mir
open PySem PySem.Spec PyProof.Rows L2
/-! ### statements -/
def sNil : En → So := fun ρ => .nx ρ
def sSeq (f g : En → So) : En → So := fun ρ => match f ρ with
  | .nx ρ1 => g ρ1
  | o => o
def setV (i : Nat) (s : Slot) (ρ : En) : So := if i < ρ.length then .nx (ρ.set i s) else .stuck
def sSet (i : Nat) (f : Mo Hd) : En → So := fun ρ => bndS (f ρ) fun h ρ1 => match h with
  | .imm d => setV i (.val d) ρ1
  | .fresh ds => setV i (.own ds) ρ1
  | .slot j => bndS (esc (.slot j) ρ1) fun d ρ2 => setV i (.val d) ρ2
def sAsg (tf : PyData → En → Option En) (f : Mo Hd) : En → So := fun ρ => bndS (f ρ) fun h ρ1 => bndS (esc h ρ1) fun d ρ2 => match tf d ρ2 with
  | some ρ3 => .nx ρ3
  | none => .stuck
def sPar (i j : Nat) (f : Mo (List Hd)) : En → So := fun ρ => bndS (f ρ) fun hs ρ1 => bndS (escs hs ρ1) fun ds ρ2 => match ds with
  | [d, e] => if i < ρ2.length ∧ j < ρ2.length then .nx ((ρ2.set i (.val d)).set j (.val e)) else .stuck
  | _ => .stuck
def sExpr (f : Mo Hd) : En → So := fun ρ => bndS (f ρ) fun _ ρ1 => .nx ρ1
def retS (h : Hd) (ρ : En) : So := match h with
  | .imm d => .rt (.imm d) ρ
  | .fresh ds => .rt (.fresh ds) ρ
  | .slot j => match ρ[j]? with
    | some (.val d) => .rt (.imm d) ρ
    | some (.own ds) => .rt (.fresh ds) (ρ.set j .unset)
    | _ => .stuck
def sRet (f : Mo Hd) : En → So := fun ρ => bndS (f ρ) retS
def sIf (c : Mo Bool) (f g : En → So) : En → So := fun ρ => bndS (c ρ) fun b ρ1 => if b = true then f ρ1 else g ρ1
def sBrk : En → So := fun ρ => .bk ρ
def sCnt : En → So := fun ρ => .ct ρ
def sExc (c : Str) : En → So := fun ρ => .exc c ρ
/-- a loop's turn: what stands behind the body -/
def turnS (o : So) (again : En → So) : So := match o with
  | .nx ρ => again ρ
  | .ct ρ => again ρ
  | .bk ρ => .nx ρ
  | o => o
def iterW (c : Mo Bool) (b : En → So) : Nat → En → So
  | 0, _ => .stuck
  | n + 1, ρ => bndS (c ρ) fun t ρ1 => if t = true then turnS (b ρ1) (iterW c b n) else .nx ρ1
def So.isStuck : So → Bool
  | .stuck => true
  | _ => false
open Classical in
noncomputable def sWhile (c : Mo Bool) (b : En → So) : En → So := fun ρ => if h : ∃ n, (iterW c b n ρ).isStuck = false then iterW c b h.choose ρ else .stuck
def forL (tf : PyData → En → Option En) (b : En → So) : List PyData → En → So
  | [], ρ => .nx ρ
  | d :: ds, ρ => match tf d ρ with
    | some ρ1 => turnS (b ρ1) (forL tf b ds)
    | none => .stuck
def sFor (fi : Mo (List PyData)) (tf : PyData → En → Option En) (b : En → So) : En → So := fun ρ => bndS (fi ρ) fun ds ρ1 => forL tf b ds ρ1
/-! ### their rules -/
section
variable {X : Cx} {W : WX} {st : Stmt} {rest : List Stmt} {f g : En → So} {e : Expr} {fe : Mo Hd} {pos : Pos}
theorem rs_nil : PSs X [] (tS X.K X.mg W sNil) := PSs.weak pss_nil fun D σ H h => by
  obtain ⟨Fm, B, G, ρ, r0, p⟩ := h
  exact p G σ H (Same.refl _) r0
theorem useSeq {D : Ends} {σ : L2.St} {H : Hp} (h : tS X.K X.mg W (sSeq f g) D σ H) : tSeq (tS X.K X.mg W f) (tS X.K X.mg W g) D σ H := by
  obtain ⟨Fm, B, G, ρ, r0, p⟩ := h
  refine ⟨Fm, B, G, ρ, r0, ?_⟩
  unfold sSeq at p
  cases e : f ρ with
  | nx ρ1 =>
    rw [e] at p
    exact fun G1 σ1 H1 s1 r1 => ⟨Fm, B, G1, ρ1, r1, PoS.up p s1⟩
  | bk ρ1 => rw [e] at p; exact p
  | ct ρ1 => rw [e] at p; exact p
  | rt v ρ1 => rw [e] at p; exact p
  | exc c ρ1 => rw [e] at p; exact p
  | stuck => rw [e] at p; exact p.elim
theorem rs_cons (h1 : PS X st (tS X.K X.mg W f)) (h2 : PSs X rest (tS X.K X.mg W g)) : PSs X (st :: rest) (tS X.K X.mg W (sSeq f g)) := PSs.weak (pss_cons h1 h2) fun _ _ _ h => useSeq h
theorem rs_one (h1 : PS X st (tS X.K X.mg W f)) : PSs X [st] (tS X.K X.mg W f) := pss_one h1
theorem rs_expr (he : PE X e (tH X.K X.mg W fe)) (hs : swapsWith e none pos.line X.env = pure false := by rfl) : PS X (.Expr e pos) (tS X.K X.mg W (sExpr fe)) := PS.weak (ps_expr he hs) fun D σ H h => by
  obtain ⟨Fm, B, G, ρ, r0, p⟩ := h
  refine ⟨Fm, B, G, ρ, r0, PoH.bndS p fun x h1 G1 H1 ρ1 s1 r1 q1 p1 => ?_⟩
  exact p1 G1 σ H1 (Same.refl _) r1
theorem rs_ret (he : PE X e (tH X.K X.mg W fe)) : PS X (.Return (some e) pos) (tS X.K X.mg W (sRet fe)) := PS.weak (ps_ret he) fun D σ H h => by
  obtain ⟨Fm, B, G, ρ, r0, p⟩ := h
  refine ⟨Fm, B, G, ρ, r0, PoH.bndS p fun x h1 G1 H1 ρ1 s1 r1 q1 p1 => ?_⟩
  cases h1 with
  | imm d => exact p1 x G1 σ H1 (Same.refl _) r1 q1
  | fresh ds => exact p1 x G1 σ H1 (Same.refl _) r1 q1
  | slot j =>
    have q1 : σ[j]? = some (some x) := q1
    simp only [retS] at p1
    cases z : ρ1[j]? with
    | none => simp only [z] at p1; exact p1.elim
    | some s =>
      cases s with
      | unset => simp only [z] at p1; exact p1.elim
      | arg ds => simp only [z] at p1; exact p1.elim
      | exn c => simp only [z] at p1; exact p1.elim
      | lck m => simp only [z] at p1; exact p1.elim
      | bx m => simp only [z] at p1; exact p1.elim
      | bxa m => simp only [z] at p1; exact p1.elim
      | dic m => simp only [z] at p1; exact p1.elim
      | darg m => simp only [z] at p1; exact p1.elim
      | val d =>
        simp only [z] at p1
        refine p1 x G1 σ H1 (Same.refl _) r1 ?_
        obtain ⟨v, e1, q⟩ := r1.at z
        rw [q1] at e1
        cases e1
        exact q
      | own ds =>
        simp only [z] at p1
        obtain ⟨a, e1, c⟩ := r1.at z
        rw [q1] at e1
        cases e1
        refine p1 _ G1 σ H1 (Same.refl _) (r1.unset j) ⟨a, rfl, c, fun i hi y => ?_⟩
        have hj := lt_of_get z
        by_cases hij : i = j
        · subst hij
          rw [List.getElem?_set_self hj] at hi
          cases hi
        · rw [List.getElem?_set_ne (Ne.symm hij)] at hi
          exact r1.nd i j a hij hi (by rw [z]; rfl) y q1
theorem rs_if {c : Expr} {a b : List Stmt} {fc : Mo Bool} (hc : PT X c (tT X.K X.mg W fc)) (ha : PSs X a (tS X.K X.mg W f)) (hb : PSs X b (tS X.K X.mg W g)) : PS X (.If c a b pos) (tS X.K X.mg W (sIf fc f g)) := PS.weak (ps_if hc ha hb) fun D σ H h => by
  obtain ⟨Fm, B, G, ρ, r0, p⟩ := h
  refine ⟨Fm, B, G, ρ, r0, PoT.bndS p fun c G1 H1 ρ1 s1 r1 p1 => ?_⟩
  cases c with
  | true => rw [if_pos rfl] at p1 ⊢; exact ⟨Fm, B, G1, ρ1, r1, p1⟩
  | false => exact ⟨Fm, B, G1, ρ1, r1, p1⟩
theorem useSet {i : Nat} {D : Ends} {σ : L2.St} {H : Hp} (h : tS X.K X.mg W (sSet i fe) D σ H) : tAsg (tH X.K X.mg W fe) (gName i) D σ H := by
  obtain ⟨Fm, B, G, ρ, r0, p⟩ := h
  refine ⟨Fm, B, G, ρ, r0, PoH.bndS p fun x h1 G1 H1 ρ1 s1 r1 q1 p1 => ?_⟩
  show D.nx (σ.set i (some x)) H1
  cases h1 with
  | imm d =>
    simp only [setV] at p1
    split at p1
    · exact p1 G1 _ H1 (Same.refl _) (r1.putVal (by assumption) q1)
    · exact p1.elim
  | fresh ds =>
    simp only [setV] at p1
    split at p1
    · obtain ⟨a, rfl, c, n⟩ := q1
      exact p1 G1 _ H1 (Same.refl _) (r1.putOwn (by assumption) c n)
    · exact p1.elim
  | slot j =>
    simp only at p1
    cases z : esc (.slot j) ρ1 with
    | exc c ρ2 => exact (esc_ne z).elim
    | stuck => rw [z] at p1; exact p1.elim
    | ok d ρ2 =>
      rw [z] at p1
      obtain ⟨G2, s2, r2, q2⟩ := r1.esc (h := .slot j) q1 z
      simp only [bndS, setV] at p1
      split at p1
      · exact p1 G2 _ H1 s2 (r2.putVal (by assumption) q2)
      · exact p1.elim
theorem rs_set (i : Nat) {x : Str} {pos' : Pos} (hN : X.N.Nodup) (he : PE X e (tH X.K X.mg W fe)) (hi : X.N[i]? = some x := by rfl) (hx : Loc X.env.scope x := by first | exact Or.inl rfl | exact Or.inr rfl) (hs : swapsWith e (some (.Name x pos')) pos.line X.env = pure false := by rfl)
    (hf : X.fn x = true ∨ X.env.scope.names.lookup x = some .local := by first | exact .inl rfl | exact .inr rfl | assumption) :
    PS X (.Assign [.Name x pos'] e pos) (tS X.K X.mg W (sSet i fe)) := PS.weak (ps_set hN hi hx he hs hf) fun _ _ _ h => useSet h
/-! targets -/
def gN (i : Nat) : PyData → En → Option En := fun d ρ => if i < ρ.length then some (ρ.set i (.val d)) else none
def gT (tfs : List PyData → En → Option En) : PyData → En → Option En := fun d ρ => match d with
  | .tuple ds => tfs ds ρ
  | .list ds => tfs ds ρ
  | _ => none
def gNil' : List PyData → En → Option En := fun ds ρ => match ds with
  | [] => some ρ
  | _ => none
def gCons' (tf : PyData → En → Option En) (tfs : List PyData → En → Option En) : List PyData → En → Option En := fun ds ρ => match ds with
  | d :: ds => (tf d ρ).bind fun ρ1 => tfs ds ρ1
  | [] => none
def tGs (K : PySem.W.Frag) (n : Nat) (T : List Nat) (tfs : List PyData → En → Option En) : TGs := fun vs σ H Q => ∃ Fm B G ρ ds ρ', Rep K Fm B G σ H ρ ∧ DpAll K G vs ds ∧ ds.length = n ∧ tfs ds ρ = some ρ' ∧ ∀ σ', Off T σ σ' → Rep K Fm B G σ' H ρ' → Q σ' H
theorem PG.weak {tg : Expr} {t t' : TG} (h : PG X tg t) (i : ∀ v σ H Q, t' v σ H Q → t v σ H Q) : PG X tg t' := ⟨fun pins s σ H v u Q I r hw => h.run pins s σ H v u Q I r (i v σ H Q hw)⟩
theorem PGs.weak {tg : List Expr} {t t' : TGs} (h : PGs X tg t) (i : ∀ v σ H Q, t' v σ H Q → t v σ H Q) : PGs X tg t' := ⟨fun pins s σ H v u Q I r hw => h.run pins s σ H v u Q I r (i v σ H Q hw)⟩
theorem rg_name (i : Nat) {x : Str} (hN : X.N.Nodup) (hi : X.N[i]? = some x := by rfl) (hx : Loc X.env.scope x := by first | exact Or.inl rfl | exact Or.inr rfl) (hf : X.fn x = true ∨ X.env.scope.names.lookup x = some .local := by first | exact .inl rfl | exact .inr rfl | assumption) :
    PG X (.Name x pos) (tG false X.K [i] (gN i)) := PG.weak (pg_name (i := i) hN hi hx hf) fun v σ H Q h => by
  obtain ⟨Fm, B, G, ρ, d, ρ', r, q, e, k⟩ := h
  unfold gN at e
  split at e
  · cases e
    exact k _ (Off.set i σ _) (r.putVal (by assumption) q.dp)
  · cases e
theorem rg_nil : PGs X [] (tGs X.K 0 [] gNil') := PGs.weak pgs_nil fun vs σ H Q h => by
  obtain ⟨Fm, B, G, ρ, ds, ρ', r, q, n, e, k⟩ := h
  cases q with
  | nil => cases e; exact ⟨rfl, k σ (Off.refl σ) r⟩
  | cons _ _ => cases e
theorem rg_cons {e : Expr} {es : List Expr} {tf : PyData → En → Option En} {tfs : List PyData → En → Option En} {n : Nat} {T T' : List Nat} (h1 : PG X e (tG false X.K T tf)) (h2 : PGs X es (tGs X.K n T' tfs))
    (hs : (assignEach (e :: es) X.env).map (·.2) = assign e X.env :: (assignEach es X.env).map (·.2) := by rfl) : PGs X (e :: es) (tGs X.K (n + 1) (T ++ T') (gCons' tf tfs)) := PGs.weak (pgs_cons h1 h2 hs) fun vs σ H Q h => by
  obtain ⟨Fm, B, G, ρ, ds, ρ', r, q, nn, e, k⟩ := h
  cases q with
  | nil => cases e
  | @cons v vs d ds q1 q2 =>
    simp only [gCons'] at e
    cases z : tf d ρ with
    | none => rw [z] at e; cases e
    | some ρ1 =>
      rw [z] at e
      refine ⟨v, vs, rfl, Fm, B, G, ρ, d, ρ1, r, .inl q1, z, fun σ1 o1 r1 => ?_⟩
      exact ⟨Fm, B, G, ρ1, ds, ρ', r1, q2, by simpa using nn, e, fun σ2 o2 r2 => k σ2 (o1.trans o2) r2⟩
theorem rg_tup {b : Bool} {es : List Expr} {k n : Nat} {T : List Nat} {tfs : List PyData → En → Option En} (hc : X.calm = true) (h : PGs X es (tGs X.K n T tfs)) (hl : ∀ ds ρ ρ', tfs ds ρ = some ρ' → ds.length = n)
    (hn : (assignEach es X.env).length = n := by rfl) (hst : (assignEach es X.env).findIdx? (·.1) = none := by rfl) : PG X (.Tuple es k pos) (tG b X.K T (gT tfs)) := ⟨fun pins s σ H v u Q I rv hw => by
  obtain ⟨Fm, B, G, ρ, d, ρ', r, q, e, k⟩ := hw
  rcases q with q | ⟨_, p0, vs0, ds0, rfl, rfl, q1, q2⟩
  rotate_left
  · have e : tfs _ ρ = some ρ' := e
    have ln := hl _ _ _ e
    exact (pg_tup hc h hn hst).run pins s σ H _ u Q I rv ⟨_, _, rfl, .inl (.inl q1), q2.length.trans ln, Fm, B, G, ρ, _, ρ', r, q2, ln, e, k⟩
  cases q with
  | tup hs ha =>
    have e : tfs _ ρ = some ρ' := e
    have ln := hl _ _ _ e
    exact (pg_tup hc h hn hst).run pins s σ H _ u Q I rv ⟨_, _, rfl, sameT r.gh hs, ha.length.trans ln, Fm, B, G, ρ, _, ρ', r, ha, ln, e, k⟩
  | lst hs ha =>
    have e : tfs _ ρ = some ρ' := e
    have ln := hl _ _ _ e
    exact (pg_lst hc h hn hst).run pins s σ H _ u Q I rv ⟨_, _, rfl, r.gh.seq hs, ha.length.trans ln, Fm, B, G, ρ, _, ρ', r, ha, ln, e, k⟩
  | _ => cases e⟩
theorem gl_nil : ∀ ds ρ ρ', gNil' ds ρ = some ρ' → ds.length = 0
  | [], _, _, _ => rfl
  | _ :: _, _, _, e => by cases e
theorem gl_cons {tf : PyData → En → Option En} {tfs : List PyData → En → Option En} {n : Nat} (h : ∀ ds ρ ρ', tfs ds ρ = some ρ' → ds.length = n) : ∀ ds ρ ρ', gCons' tf tfs ds ρ = some ρ' → ds.length = n + 1
  | [], _, _, e => by cases e
  | d :: ds, ρ, ρ', e => by
    simp only [gCons'] at e
    cases z : tf d ρ with
    | none => rw [z] at e; cases e
    | some ρ1 =>
      rw [z] at e
      rw [List.length_cons, h ds ρ1 ρ' e]
theorem rs_raise {c : Str} {e : Expr} {C : Addr} (hc : X.calm = true) (tk : Takes X W) (he : PMk X e (fun _ H Q => Q (.ref C) none H)) (hm : X.mg c = some (.ref C)) : PS X (.Raise (some e) none pos) (tS X.K X.mg W (sExc c)) :=
  PS.weak (ps_raise hc tk he) fun D σ H h => by
    obtain ⟨Fm, B, G, ρ, r0, p⟩ := h
    exact p G σ H (Same.refl _) r0 C hm
/-! iterables -/
/-- an iterator that yields these data, whatever is made meanwhile -/
def ItR (b : Bool) (K : PySem.W.Frag) (G0 : Hp) (J : It) (ds : List PyData) : Prop := ∀ (i : Nat) (G H : Hp), Same G0 G → Same G H →
  (ds.length ≤ i → J.stop i H) ∧ ∀ d, ds[i]? = some d → J.go i H ∧ ∀ x H', J.yld i H x H' → ∃ G', Grow G H G' H' ∧ Itm b K G' H' x d
def tI (b : Bool) (K : PySem.W.Frag) (mg : Str → Option Value) (W : WX) (f : Mo (List PyData)) : TI := fun σ H R => ∃ Fm B G ρ, Rep K Fm B G σ H ρ ∧ match f ρ with
  | .ok ds ρ' => ∀ J G' H', Same G G' → Rep K Fm B G' σ H' ρ' → ItR b K G' J ds → R J H'
  | .exc c ρ' => ∀ G' H', Same G G' → Rep K Fm B G' σ H' ρ' → Exw mg W c σ H'
  | .stuck => False
theorem PI.weak {tg iter : Expr} {t t' : TI} (h : PI X tg iter t) (i : ∀ σ H R, t' σ H R → t σ H R) : PI X tg iter t' := ⟨fun pins s σ H R I hw => h.run pins s σ H R I (i σ H R hw)⟩
theorem rs_for {b : Bool} {tg iter : Expr} {T : List Nat} {body : List Stmt} {fi : Mo (List PyData)} {tf : PyData → En → Option En} (hp : PassesOwn (model X.prog X.w) X.A X.env X.xe) (hc : X.calm = true) (hi : PI X tg iter (tI b X.K X.mg W fi)) (hg : PG X tg (tG b X.K T tf)) (hb : PSs X body (tS X.K X.mg W f))
    (hs : ∀ x, foldedSetIterable iter X.env x = pure x := by intro _; rfl) : PS X (.For tg iter body [] pos) (tS X.K X.mg W (sFor fi tf f)) :=
  PS.weak (ps_for hp hc hi hg hb hs) fun D σ H h => by
    obtain ⟨Fm, B, G, ρ, r0, p⟩ := h
    refine ⟨Fm, B, G, ρ, r0, ?_⟩
    unfold sFor at p
    cases e : fi ρ with
    | stuck => rw [e] at p; exact p.elim
    | exc c ρ1 => rw [e] at p; exact fun G1 H1 s1 r1 => p G1 σ H1 s1 r1
    | ok ds ρ1 =>
      rw [e] at p
      simp only [bndS] at p
      intro J G1 H1 s1 r1 it
      refine ⟨fun i m σ H => i + m = ds.length ∧ ∃ G' ρ', Same G1 G' ∧ Rep X.K Fm B G' σ H ρ' ∧ PoS X.K X.mg W Fm B G' D (forL tf f (ds.drop i) ρ'), ⟨ds.length, by omega, G1, ρ1, Same.refl _, r1, PoS.up p s1⟩, ?_⟩
      rintro i m σ2 H2 ⟨im, G2, ρ2, s2, r2, p2⟩
      obtain ⟨istop, igo⟩ := it i G2 H2 s2 r2.gh
      cases m with
      | zero =>
        refine .inl ⟨istop (by omega), ?_⟩
        rw [List.drop_of_length_le (by omega)] at p2
        exact p2 G2 σ2 H2 (Same.refl _) r2
      | succ m =>
        have hi' : i < ds.length := by omega
        have ed : ds[i]? = some ds[i] := List.getElem?_eq_getElem hi'
        obtain ⟨go, yl⟩ := igo _ ed
        rw [List.drop_eq_getElem_cons hi'] at p2
        simp only [forL] at p2
        refine .inr ⟨go, fun σ' H' => i + 1 + m = ds.length ∧ ∃ G' ρ', Same G1 G' ∧ Rep X.K Fm B G' σ' H' ρ' ∧ PoS X.K X.mg W Fm B G' D (forL tf f (ds.drop (i + 1)) ρ'), fun σ' H' hh => ⟨m, Nat.lt_succ_self m, hh⟩, fun x H3 y3 => ?_⟩
        obtain ⟨G3, g3, q3⟩ := yl x H3 y3
        have r3 := r2.grow g3
        cases z : tf ds[i] ρ2 with
        | none => rw [z] at p2; exact p2.elim
        | some ρ4 =>
          rw [z] at p2
          refine ⟨Fm, B, G3, ρ2, ds[i], ρ4, r3, q3, z, fun σ4 _ r4 => ?_⟩
          refine ⟨Fm, B, G3, ρ4, r4, ?_⟩
          replace p2 := PoS.up p2 g3.gg
          cases e4 : f ρ4 with
          | nx ρ5 => simp only [e4, turnS] at p2; exact fun G5 σ5 H5 s5 r5 => ⟨by omega, G5, ρ5, s2.trans (g3.gg.trans s5), r5, PoS.up p2 s5⟩
          | ct ρ5 => simp only [e4, turnS] at p2; exact fun G5 σ5 H5 s5 r5 => ⟨by omega, G5, ρ5, s2.trans (g3.gg.trans s5), r5, PoS.up p2 s5⟩
          | bk ρ5 => simp only [e4, turnS] at p2; exact fun G5 σ5 H5 s5 r5 => p2 G5 σ5 H5 s5 r5
          | rt v ρ5 => simp only [e4, turnS] at p2; exact p2
          | exc c ρ5 => simp only [e4, turnS] at p2; exact p2
          | stuck => simp only [e4, turnS] at p2; exact p2.elim
end
end Mir


namespace Mir
open PySem PySem.Spec PyProof.Rows L2
/-! ### iterables -/
section
variable {X : Cx} {W : WX} {tg : Expr} {e : Expr} {fe : Mo Hd} {pos : Pos}
/-- the items of what is walked -/
def items : PyData → Option (List PyData)
  | .list ds => some ds
  | .tuple ds => some ds
  | .str x => some (x.cps.toList.map fun c => .str ⟨#[c]⟩)
  | _ => none
def iL (f : Mo Hd) : Mo (List PyData) := fun ρ => bnd (f ρ) fun h ρ1 => bnd (esc h ρ1) fun d ρ2 => match items d with
  | some ds => .ok ds ρ2
  | none => .stuck
def iSeq (K : PySem.W.Frag) (tl : TE) : TI := fun σ H R => tl σ H fun x H1 => (∃ a, x = .ref a ∧ (((∃ xs, SqL K H1 a xs) ∧ R (Itl K a) H1) ∨ ((∃ xs, SqT K H1 a xs) ∧ R (Itt K a) H1))) ∨ ∃ z, x = .str z ∧ R (Its z) H1
theorem pi_seq {l : Expr} {tl : TE} (hl : PE X l tl) : PI X tg l (iSeq X.K tl) := by
  refine ⟨fun pins s σ H R I h => ?_⟩
  refine thn (hl.run pins s σ H _ I h) fun v s1 ⟨x, H1, I1, r1, q1⟩ => ?_
  rcases q1 with ⟨a, e, ⟨⟨xs, hq⟩, q⟩ | ⟨⟨xs, hq⟩, q⟩⟩ | ⟨z, e, q⟩
  · subst e
    cases r1
    obtain ⟨its, rv, p, hz⟩ := I1.list hq
    refine wpAny_pyIter_list p.isList ?_
    refine ⟨s1.heap.objs.size, [s1.heap.objs.size], _, _, H1, rfl, I1.kept (t' := s1.toks) fun b o e => Heap.get?_push_of_some _ e, turn_list a _, ⟨_, Heap.get?_push_size _ rfl, rfl, rfl⟩, fun b hb => ?_, q⟩
    have e : b = s1.heap.objs.size := by simpa using hb
    subst e
    exact I1.fpOk (Nat.le_refl _) (I1.hok.fresh (Nat.le_refl _))
  · subst e
    cases r1
    obtain ⟨its, rv, p, hz⟩ := I1.tuple hq
    refine wpAny_pyIter_tuple (show s1.heap.IsTuple a its.toArray from p) ?_
    refine ⟨s1.heap.objs.size, [s1.heap.objs.size], _, _, H1, rfl, I1.kept (t' := s1.toks) fun b o e => Heap.get?_push_of_some _ e, turn_tuple a _, ⟨_, Heap.get?_push_size _ rfl, rfl, rfl⟩, fun b hb => ?_, q⟩
    have e : b = s1.heap.objs.size := by simpa using hb
    subst e
    exact I1.fpOk (Nat.le_refl _) (I1.hok.fresh (Nat.le_refl _))
  · subst e
    obtain ⟨t, rfl⟩ := r1
    cases ha : z.cps.all (· < 128)
    · exact wpAny_pyIter_wide ha (pi_one (tk := s1.toks) I1 _ (turn_str _ z t "str_iterator" (.inr rfl)) ⟨_, Heap.get?_push_size _ rfl, rfl, rfl⟩ q)
    · exact wpAny_pyIter_ascii ha (pi_one (tk := s1.toks) I1 _ (turn_str _ z t "str_ascii_iterator" (.inl rfl)) ⟨_, Heap.get?_push_size _ rfl, rfl, rfl⟩ q)
theorem itr_tup {K : PySem.W.Frag} {G : Hp} {a : Addr} {vs : List V} {ds : List PyData} (h : SqT K G a vs) (q : DpAll K G vs ds) : ItR false K G (Itt K a) ds := fun i G1 H1 s1 s2 => by
  have hq : SqT K H1 a vs := sameT s2 (sameT s1 h)
  refine ⟨fun hl => ⟨vs, hq, by rw [q.length]; exact hl⟩, fun d hd => ?_⟩
  obtain ⟨v, e1, q1⟩ := q.get hd
  refine ⟨⟨vs, v, hq, e1⟩, fun x H' y => ?_⟩
  obtain ⟨e, y⟩ := y
  subst e
  have := y vs hq
  rw [e1] at this
  cases this
  exact ⟨G1, Grow.refl s2, .inl (q1.mono s1)⟩
theorem itr_list' {K : PySem.W.Frag} {G : Hp} {a : Addr} {vs : List V} {ds : List PyData} (h : SqL K G a vs) (q : DpAll K G vs ds) : ItR false K G (Itl K a) ds := fun i G1 H1 s1 s2 => by
  have hq : SqL K H1 a vs := s2.seq (s1.seq h)
  refine ⟨fun hl => ⟨vs, hq, by rw [q.length]; exact hl⟩, fun d hd => ?_⟩
  obtain ⟨v, e1, q1⟩ := q.get hd
  refine ⟨⟨vs, v, hq, e1⟩, fun x H' y => ?_⟩
  obtain ⟨e, y⟩ := y
  subst e
  have := y vs hq
  rw [e1] at this
  cases this
  exact ⟨G1, Grow.refl s2, .inl (q1.mono s1)⟩
theorem itr_str {K : PySem.W.Frag} {G : Hp} (z : Str) : ItR false K G (Its z) (z.cps.toList.map fun c => .str ⟨#[c]⟩) := fun i G1 H1 s1 s2 => by
  refine ⟨fun hl => (by simpa using hl : z.cps.size ≤ i), fun d hd => ?_⟩
  rw [List.getElem?_map] at hd
  cases e : z.cps.toList[i]? with
  | none => rw [e] at hd; cases hd
  | some c =>
    rw [e] at hd
    cases hd
    have hi : i < z.cps.size := by
      have := lt_of_get e
      simpa using this
    refine ⟨hi, fun x H' y => ?_⟩
    obtain ⟨rfl, c', e', rfl⟩ := y
    have : c' = c := by
      rw [Array.getElem?_toList] at e
      rw [e'] at e
      exact Option.some.inj e
    subst this
    exact ⟨G1, Grow.refl s2, .inl (.str _)⟩
/-- over a list, a tuple, a text that stays -/
theorem ri_seq (he : PE X e (tH X.K X.mg W fe)) : PI X tg e (tI false X.K X.mg W (iL fe)) := PI.weak (pi_seq he) fun σ H R h => by
  obtain ⟨Fm, B, G, ρ, r0, p⟩ := h
  refine ⟨Fm, B, G, ρ, r0, ?_⟩
  unfold iL at p
  cases z0 : fe ρ with
  | stuck => rw [z0] at p; exact p.elim
  | exc c ρ1 => rw [z0] at p; exact p
  | ok h1 ρ1 =>
    rw [z0] at p
    intro x G1 H1 s1 r1 q1
    simp only [bnd] at p
    cases z : esc h1 ρ1 with
    | exc c ρ2 => exact (esc_ne z).elim
    | stuck => rw [z] at p; exact p.elim
    | ok d ρ2 =>
      rw [z] at p
      obtain ⟨G2, s2, r2, q2⟩ := r1.esc q1 z
      cases q2 with
      | lst hs ha => exact .inl ⟨_, rfl, .inl ⟨⟨_, r2.gh.seq hs⟩, p _ G2 H1 (s1.trans s2) r2 (itr_list' hs ha)⟩⟩
      | tup hs ha => exact .inl ⟨_, rfl, .inr ⟨⟨_, sameT r2.gh hs⟩, p _ G2 H1 (s1.trans s2) r2 (itr_tup hs ha)⟩⟩
      | str zz => exact .inr ⟨zz, rfl, p _ G2 H1 (s1.trans s2) r2 (itr_str zz)⟩
      | non => exact p.elim
      | bl b => exact p.elim
      | int i => exact p.elim
/-- range -/
def rng (lo : Int) (n : Nat) : List PyData := (List.range n).map fun (k : Nat) => .int (lo + (k : Int))
def rngC (lo c : Int) (n : Nat) : List PyData := (List.range n).map fun (k : Nat) => .int (lo + (k : Int) * c)
noncomputable def iR1 (f : Mo (List Hd)) : Mo (List PyData) := fun ρ => bnd (f ρ) fun hs ρ1 => match drs hs ρ1 with
  | some [.int j] => @ite _ (-(2 ^ 62) ≤ j ∧ j < 2 ^ 62) (Classical.propDecidable _) (.ok (rng 0 j.toNat) ρ1) .stuck
  | _ => .stuck
noncomputable def iR2 (f : Mo (List Hd)) : Mo (List PyData) := fun ρ => bnd (f ρ) fun hs ρ1 => match drs hs ρ1 with
  | some [.int i, .int j] => @ite _ (-(2 ^ 62) ≤ i ∧ i < 2 ^ 62 ∧ -(2 ^ 62) ≤ j ∧ j < 2 ^ 62) (Classical.propDecidable _) (.ok (rng i (j - i).toNat) ρ1) .stuck
  | _ => .stuck
/-- down by ones -/
noncomputable def iR3 (f : Mo (List Hd)) : Mo (List PyData) := fun ρ => bnd (f ρ) fun hs ρ1 => match drs hs ρ1 with
  | some [.int i, .int j, .int (-1)] => @ite _ (-(2 ^ 62) ≤ i ∧ i < 2 ^ 62 ∧ -(2 ^ 62) ≤ j ∧ j < 2 ^ 62) (Classical.propDecidable _) (.ok (rngC i (-1) (i - j).toNat) ρ1) .stuck
  | _ => .stuck
theorem itr_rng {K : PySem.W.Frag} {G : Hp} (lo : Int) (n : Nat) : ItR false K G (Itr lo n) (rng lo n) := fun i G1 H1 s1 s2 => by
  refine ⟨fun hl => (by simpa [rng] using hl : n ≤ i), fun d hd => ?_⟩
  have hi : i < n := by
    have := lt_of_get hd
    simpa [rng] using this
  refine ⟨hi, fun x H' y => ?_⟩
  obtain ⟨rfl, rfl⟩ := y
  have e : d = .int (lo + (i : Int)) := by
    simp only [rng, List.getElem?_map, List.getElem?_range hi] at hd
    exact (Option.some.inj hd).symm
  subst e
  exact ⟨G1, Grow.refl s2, .inl (.int _)⟩
theorem tI_args {b : Bool} {f : Mo (List Hd)} {k : List Hd → En → Rs (List PyData)} {σ : L2.St} {H : Hp} {R : It → Hp → Prop} (h : tI b X.K X.mg W (fun ρ => bnd (f ρ) k) σ H R) {Q : List V → Hp → Prop}
    (hk : ∀ vs hs Fm B G ρ H1, Rep X.K Fm B G σ H1 ρ → HdRs X.K Fm G σ vs hs → (match k hs ρ with
      | .ok ds ρ' => ∀ J G' H', Same G G' → Rep X.K Fm B G' σ H' ρ' → ItR b X.K G' J ds → R J H'
      | .exc c ρ' => ∀ G' H', Same G G' → Rep X.K Fm B G' σ H' ρ' → Exw X.mg W c σ H'
      | .stuck => False) → Q vs H1) : tA X.K X.mg W f σ H Q := by
  obtain ⟨Fm, B, G, ρ, r0, p⟩ := h
  refine ⟨Fm, B, G, ρ, r0, ?_⟩
  cases z0 : f ρ with
  | stuck => simp only [z0, bnd] at p
  | exc c ρ1 => simp only [z0, bnd] at p; exact p
  | ok hs ρ1 =>
    simp only [z0, bnd] at p
    intro vs G1 H1 s1 r1 q1
    refine hk vs hs Fm B G1 ρ1 H1 r1 q1 ?_
    cases z1 : k hs ρ1 with
    | stuck => rw [z1] at p; exact p
    | exc c ρ2 => rw [z1] at p; exact fun G2 H2 s2 => p G2 H2 (s1.trans s2)
    | ok ds ρ2 => rw [z1] at p; exact fun J G2 H2 s2 => p J G2 H2 (s1.trans s2)
theorem ers_int1 {K : PySem.W.Frag} {G H : Hp} {vs : List V} {j : Int} (h : ERs K G H vs [.int j]) : vs = [.int j] := by
  cases h with
  | cons a b => cases b; rw [a.int]
theorem ri_range1 {a : Expr} {f : Mo (List Hd)} {p pos : Pos} (hg : Gl X "range") (hm : X.mg "range" = none) (ha : PA X [a] (tA X.K X.mg W f)) (hs : starEach [a] X.env = [(false, eval a X.env)] := by rfl) : PI X tg (.Call (.Name "range" p) [a] [] pos) (tI false X.K X.mg W (iR1 f)) :=
  PI.weak (pi_range1 hg hm ha hs) fun σ H R h => tI_args h fun vs hs Fm B G ρ H1 r q p => by
    split at p
    · rename_i z
      split at z
      · rename_i j z2
        split at z
        · rename_i c
          cases z
          exact ⟨j, ers_int1 (r.ers q z2), c.1, c.2, p _ G H1 (Same.refl _) r (itr_rng 0 _)⟩
        · cases z
      · cases z
    · rename_i z
      split at z
      · split at z <;> cases z
      · cases z
    · exact p.elim
/-- enumerate, zip, reversed -/
def enumD (ds : List PyData) : List PyData := ds.mapIdx fun i d => .tuple [.int (i : Nat), d]
def zipD (xs ys : List PyData) : List PyData := List.zipWith (fun a b => .tuple [a, b]) xs ys
def iEn (f : Mo (List Hd)) : Mo (List PyData) := fun ρ => bnd (f ρ) fun hs ρ1 => bnd (escs hs ρ1) fun ds ρ2 => match ds with
  | [.list ds] => .ok (enumD ds) ρ2
  | _ => .stuck
def iZi (f : Mo (List Hd)) : Mo (List PyData) := fun ρ => bnd (f ρ) fun hs ρ1 => bnd (escs hs ρ1) fun ds ρ2 => match ds with
  | [.list xs, .list ys] => .ok (zipD xs ys) ρ2
  | [.tuple xs, .tuple ys] => .ok (zipD xs ys) ρ2
  | _ => .stuck
def iRv (f : Mo Hd) : Mo (List PyData) := fun ρ => bnd (f ρ) fun h ρ1 => bnd (esc h ρ1) fun d ρ2 => match d with
  | .list ds => .ok ds.reverse ρ2
  | .tuple ds => .ok ds.reverse ρ2
  | _ => .stuck
theorem itr_enum {K : PySem.W.Frag} {G : Hp} {a : Addr} {vs : List V} {ds : List PyData} (h : SqL K G a vs) (q : DpAll K G vs ds) : ItR true K G (Ite K a) (enumD ds) := fun i G1 H1 s1 s2 => by
  have hq : SqL K H1 a vs := s2.seq (s1.seq h)
  refine ⟨fun hl => ⟨vs, hq, by rw [q.length]; simpa [enumD] using hl⟩, fun d hd => ?_⟩
  simp only [enumD, List.getElem?_mapIdx] at hd
  cases e : ds[i]? with
  | none => rw [e] at hd; cases hd
  | some d0 =>
    rw [e] at hd
    cases hd
    obtain ⟨v, e1, q1⟩ := q.get e
    refine ⟨⟨vs, v, hq, e1⟩, fun x H' y => ?_⟩
    obtain ⟨T, x', rfl, nT, rfl, y⟩ := y
    have := y vs hq
    rw [e1] at this
    cases this
    exact ⟨_, Grow.new0 s2 nT, .inr ⟨rfl, T, _, _, rfl, rfl, upd_same, .cons (.int _) (.cons (q1.mono s1) .nil)⟩⟩
theorem ri_enum {a : Expr} {f : Mo (List Hd)} {p pos tpos : Pos} {elts : List Expr} {kk : Nat} (hg : Gl X "enumerate") (hm : X.mg "enumerate" = none) (ha : PA X [a] (tA X.K X.mg W f)) (hs : starEach [a] X.env = [(false, eval a X.env)] := by rfl) :
    PI X (.Tuple elts kk tpos) (.Call (.Name "enumerate" p) [a] [] pos) (tI true X.K X.mg W (iEn f)) :=
  PI.weak (pi_enum hg hm ha hs) fun σ H R h => tI_args h fun vs hs Fm B G ρ H1 r q p => by
    cases z : escs hs ρ with
    | exc c ρ2 => exact (escs_ne z).elim
    | stuck => simp only [z, bnd] at p
    | ok ds ρ2 =>
      simp only [z, bnd] at p
      obtain ⟨G2, s2, r2, q2⟩ := Rep.escs q (Same.refl _) r z
      split at p
      · rename_i z3
        split at z3
        · cases z3
          cases q2 with
          | cons qa qb =>
            cases qb
            cases qa with
            | lst hs ha => exact ⟨_, _, rfl, r2.gh.seq hs, p _ G2 H1 s2 r2 (itr_enum hs ha)⟩
        · cases z3
      · rename_i z3
        split at z3 <;> cases z3
      · exact p.elim
end
end Mir


namespace Mir
open PySem PySem.Spec PyProof.Rows L2
/-! ### functions -/
def keepA : List Slot → En → Option (List Slot)
  | [], _ => some []
  | .arg _ :: as, .arg ds :: ρ => (keepA as ρ).map (.arg ds :: ·)
  | .arg _ :: _, _ => none
  | .darg _ :: as, .darg m :: ρ => (keepA as ρ).map (.darg m :: ·)
  | .darg _ :: _, _ => none
  | .bxa _ :: as, .bxa x :: ρ => (keepA as ρ).map (.bxa x :: ·)
  | .bxa _ :: _, _ => none
  | _ :: as, _ :: ρ => (keepA as ρ).map (.unset :: ·)
  | _ :: _, [] => none
def finF (as : List Slot) (o : So) : So := match o with
  | .nx ρ => match keepA as ρ with
    | some as' => .rt (.imm .none) as'
    | none => .stuck
  | .rt (.imm d) ρ => match keepA as ρ with
    | some as' => .rt (.imm d) as'
    | none => .stuck
  | .rt (.fresh ds) ρ => match keepA as ρ with
    | some as' => .rt (.fresh ds) as'
    | none => .stuck
  | .exc c ρ => match keepA as ρ with
    | some as' => .exc c as'
    | none => .stuck
  | _ => .stuck
/-- a def with so many names -/
def fnM (tot : Nat) (body : En → So) : List Slot → So := fun as => finF as (body (as ++ List.replicate (tot - as.length) .unset))
def spF (K : PySem.W.Frag) (mg : Str → Option Value) (n : Nat) (m : List Slot → So) : Sp := fun vs H Q E => vs.length = n ∧ tS K mg (fun cls d _ H => E cls d H) m { nx := fun _ _ => False, rt := Q } (vs.map some) H
section
variable {K : PySem.W.Frag} {Fm : Hp} {B : Nat → Addr} {G H : Hp}
theorem keepA_rep {σ : L2.St} {ρ as as' : List Slot} (r : Rep K Fm B G σ H ρ) (e : keepA as ρ = some as') : Rep K Fm B G (σ.take as.length) H as' ∧ as'.length = as.length ∧ as.length ≤ ρ.length ∧ ∀ i : Nat, isCell as'[i]? = true → isCell ρ[i]? = true := by
  have key : ∀ (as ρ as' : List Slot), keepA as ρ = some as' → as'.length = as.length ∧ as.length ≤ ρ.length ∧ ∀ (i : Nat) (s : Slot), as'[i]? = some s → s = .unset ∨ ρ[i]? = some s := by
    intro as
    induction as with
    | nil => intro ρ as' e; cases e; exact ⟨rfl, Nat.zero_le _, fun i s e => by simp at e⟩
    | cons a as ih =>
      intro ρ as' e
      cases ρ with
      | nil => cases a <;> simp [keepA] at e
      | cons s ρ =>
        have gen : ∀ t, (keepA as ρ).map (t :: ·) = some as' → (t = .unset ∨ t = s) → as'.length = as.length + 1 ∧ as.length + 1 ≤ ρ.length + 1 ∧ ∀ (i : Nat) (u : Slot), as'[i]? = some u → u = .unset ∨ (s :: ρ)[i]? = some u := fun t h ht => by
          cases e1 : keepA as ρ with
          | none => rw [e1] at h; cases h
          | some bs =>
            rw [e1] at h
            cases h
            obtain ⟨h1, h2, h3⟩ := ih ρ bs e1
            refine ⟨by simp [h1], by omega, fun i u hu => ?_⟩
            cases i with
            | zero =>
              have : t = u := by simpa using hu
              subst this
              rcases ht with z | z
              · exact .inl z
              · exact .inr (by rw [z]; rfl)
            | succ i => exact h3 i u (by simpa using hu)
        cases a with
        | arg ds =>
          cases s with
          | arg es => exact gen _ e (.inr rfl)
          | _ => simp [keepA] at e
        | darg ds =>
          cases s with
          | darg es => exact gen _ e (.inr rfl)
          | _ => simp [keepA] at e
        | bxa ds =>
          cases s with
          | bxa es => exact gen _ e (.inr rfl)
          | _ => simp [keepA] at e
        | bx d => exact gen .unset (by simpa [keepA] using e) (.inl rfl)
        | dic d => exact gen .unset (by simpa [keepA] using e) (.inl rfl)
        | unset => exact gen .unset (by simpa [keepA] using e) (.inl rfl)
        | val d => exact gen .unset (by simpa [keepA] using e) (.inl rfl)
        | own d => exact gen .unset (by simpa [keepA] using e) (.inl rfl)
        | exn c => exact gen .unset (by simpa [keepA] using e) (.inl rfl)
        | lck m => exact gen .unset (by simpa [keepA] using e) (.inl rfl)
  obtain ⟨h1, h2, h3⟩ := key as ρ as' e
  have cel : ∀ i : Nat, isCell as'[i]? = true → isCell ρ[i]? = true := fun i hi => by
    cases e1 : as'[i]? with
    | none => rw [e1] at hi; cases hi
    | some s =>
      rcases h3 i s e1 with z | z
      · rw [e1, z] at hi; cases hi
      · rw [e1] at hi; rw [z]; exact hi
  have lt : ∀ (i : Nat) (s : Slot), as'[i]? = some s → i < as.length := fun i s h => by have := lt_of_get h; omega
  refine ⟨⟨r.gh, r.fh, by rw [List.length_take, h1, r.len]; omega, fun i s e1 => ?_, fun i j p nij hi hj ei ej => ?_, r.cl, r.nb_to (fun _ _ _ _ _ h _ => h) fun i q k1 k2 => ?_⟩, h1, h2, cel⟩
  · rw [List.getElem?_take_of_lt (lt i s e1)]
    rcases h3 i s e1 with z | z
    · subst z; trivial
    · exact r.sl i s z
  · have li : i < as.length := by
      cases e1 : as'[i]? with
      | none => rw [e1] at hi; cases hi
      | some s => exact lt i s e1
    have lj : j < as.length := by
      cases e1 : as'[j]? with
      | none => rw [e1] at hj; cases hj
      | some s => exact lt j s e1
    rw [List.getElem?_take_of_lt li] at ei
    rw [List.getElem?_take_of_lt lj] at ej
    exact r.nd i j p nij (cel i hi) (cel j hj) ei ej
  · cases e1 : as'[i]? with
    | none => rw [e1] at k1; cases k1
    | some s =>
      rcases h3 i s e1 with z | z
      · rw [e1, z] at k1; cases k1
      · rw [e1] at k1
        rw [List.getElem?_take_of_lt (lt i s e1)] at k2
        exact ⟨by rw [z]; exact k1, k2⟩
theorem Rep.start {N : List Str} {vs : List V} {as : List Slot} (hl : vs.length ≤ N.length) (r : Rep K Fm B G (vs.map some) H as) : Rep K Fm B G (start N vs) H (as ++ List.replicate (N.length - as.length) .unset) := by
  have ln : vs.length = as.length := by have := r.len; simpa using this
  unfold L2.start
  have left : ∀ (i : Nat) (s : Slot), (as ++ List.replicate (N.length - as.length) Slot.unset)[i]? = some s → s = .unset ∨ (i < as.length ∧ as[i]? = some s) := fun i s e => by
    by_cases hi : i < as.length
    · rw [List.getElem?_append_left hi] at e
      exact .inr ⟨hi, e⟩
    · rw [List.getElem?_append_right (by omega)] at e
      exact .inl (List.eq_of_mem_replicate (List.mem_of_getElem? e))
  have cl : ∀ i : Nat, isCell (as ++ List.replicate (N.length - as.length) Slot.unset)[i]? = true → i < as.length ∧ isCell as[i]? = true := fun i h => by
    cases e1 : (as ++ List.replicate (N.length - as.length) Slot.unset)[i]? with
    | none => rw [e1] at h; cases h
    | some s =>
      rw [e1] at h
      rcases left i s e1 with z | ⟨z1, z2⟩
      · rw [z] at h; cases h
      · exact ⟨z1, by rw [z2]; exact h⟩
  refine ⟨r.gh, r.fh, by simp only [List.length_append, List.length_map, List.length_replicate]; omega, fun i s e => ?_, fun i j p nij hi hj ei ej => ?_, r.cl, r.nb_to (fun _ _ _ _ _ h _ => h) fun i q k1 k2 => ?_⟩
  · rcases left i s e with z | ⟨z1, z2⟩
    · subst z; trivial
    · rw [List.getElem?_append_left (by simp; omega)]
      exact r.sl i s z2
  · obtain ⟨i1, i2⟩ := cl i hi
    obtain ⟨j1, j2⟩ := cl j hj
    rw [List.getElem?_append_left (by simp; omega)] at ei ej
    exact r.nd i j p nij i2 j2 ei ej
  · cases e1 : (as ++ List.replicate (N.length - as.length) Slot.unset)[i]? with
    | none => rw [e1] at k1; cases k1
    | some s =>
      rw [e1] at k1
      rcases left i s e1 with z | ⟨z1, z2⟩
      · rw [z] at k1; cases k1
      · rw [List.getElem?_append_left (by simp; omega)] at k2
        exact ⟨by rw [z2]; exact k1, k2⟩
end
section
variable {P : Program} {w : World} {K : PySem.W.Frag} {mg : Str → Option Value} {base : Heap}
theorem PoS_fin {Fm : Hp} {B : Nat → Addr} {G : Hp} {W : WX} {D : Ends} {Q : VK} {as : List Slot} {o : So} (hW : ∀ c d σ σ' H, W c d σ H → W c d σ' H) (h : PoS K mg W Fm B G { nx := fun _ _ => False, rt := Q } (finF as o)) (hD : D = { nx := fun _ H' => Q .non H', rt := Q }) : PoS K mg W Fm B G D o := by
  subst hD
  cases o with
  | bk ρ => exact h.elim
  | ct ρ => exact h.elim
  | stuck => exact h.elim
  | nx ρ =>
    intro G' σ' H' s r
    simp only [finF] at h
    cases e : keepA as ρ with
    | none => rw [e] at h; exact h.elim
    | some as' =>
      rw [e] at h
      exact h .non G' _ H' s (keepA_rep r e).1 Dp.non
  | rt hd ρ =>
    intro v G' σ' H' s r q
    cases hd with
    | slot j => exact h.elim
    | imm d =>
      simp only [finF] at h
      cases e : keepA as ρ with
      | none => rw [e] at h; exact h.elim
      | some as' =>
        rw [e] at h
        obtain ⟨r', l1, l2, cl⟩ := keepA_rep r e
        exact h v G' _ H' s r' q
    | fresh ds =>
      simp only [finF] at h
      cases e : keepA as ρ with
      | none => rw [e] at h; exact h.elim
      | some as' =>
        rw [e] at h
        obtain ⟨r', l1, l2, cl⟩ := keepA_rep r e
        obtain ⟨p, rfl, c, n⟩ := q
        refine h _ G' _ H' s r' ⟨p, rfl, c, fun i hi z => ?_⟩
        have hlt : i < as.length := by
          cases e1 : as'[i]? with
          | none => rw [e1] at hi; cases hi
          | some s => have := lt_of_get e1; omega
        rw [List.getElem?_take_of_lt hlt] at z
        exact n i (cl i hi) z
  | exc c ρ =>
    intro G' σ' H' s r
    simp only [finF] at h
    cases e : keepA as ρ with
    | none => rw [e] at h; exact h.elim
    | some as' =>
      rw [e] at h
      exact fun C hC => hW _ _ _ _ _ (h G' _ H' s (keepA_rep r e).1 C hC)
/-- THE RULE of a def -/
theorem fn_rule {x qual : Str} {st : Stmt} {f : Addr} {fd : FuncData} {N ps : List Str} {k : Nat} {mb : En → So} (F : Fun K x qual st f fd) (S : FnScope N ps (defScope st))
    (hb : ∀ (cdv : Value) (A : Around) (outer : List Env) (s : Shared) (H : Hp) (E : XK), Room k (A.deeper (envOfC qual (defScope st) s.heap.objs.size f cdv)) →
      PSs (cxOf (L2.CX P w) P w K mg base N qual (defScope st) f cdv A outer s H E) (defBody st) (tS K mg (fun cls d _ H => E cls d H) mb)) :
    FnOk P w K mg base (L2.CX P w) (k + 1) f fd ps (spF K mg ps.length (fnM N.length mb)) := by
  refine F.okX S (fun vs H Q E h => h.1) (fun cdv A outer s H vs Q E hr h => ?_)
  obtain ⟨hl, Fm, B, G, as, r, p⟩ := h
  refine ⟨tS K mg (fun cls d _ H => E cls d H) mb, hb cdv A outer s H E hr, ?_⟩
  have hN : vs.length ≤ N.length := by
    have := congrArg List.length S.pre
    rw [List.length_take] at this
    omega
  have ln : as.length = vs.length := by have := r.len; simpa using this.symm
  refine ⟨Fm, B, G, _, Rep.start hN r, ?_⟩
  exact PoS_fin (fun _ _ _ _ _ h => h) p rfl
end
/-! ### calls -/
/-- own lists that are handed in to be read -/
def lent (ρ : En) : List Hd → List Nat
  | [] => []
  | .slot j :: hs => if isLst ρ[j]? = true then j :: lent ρ hs else lent ρ hs
  | _ :: hs => lent ρ hs
/-- a result that may be taken: no own list was lent, or it has none -/
def cleanH (e : Bool) : Hd → Bool
  | .imm d => e || noList d
  | .fresh ds => e || noLists ds
  | .slot _ => false
def eCall (n : Nat) (m : List Slot → So) (fa : Mo (List Hd)) : Mo Hd := fun ρ => bnd (fa ρ) fun hs ρ1 => match drs hs ρ1 with
  | some ds => if ds.length ≠ n then .stuck else match m (ds.map .val) with
    | .rt h _ => if cleanH (lent ρ1 hs).isEmpty h = true then .ok h ρ1 else .stuck
    | .exc c _ => .exc c ρ1
    | _ => .stuck
  | none => .stuck
/-- .. own lists are let out ahead of the call -/
def eCallF (n : Nat) (m : List Slot → So) (fa : Mo (List Hd)) : Mo Hd := fun ρ => bnd (fa ρ) fun hs ρ1 => bnd (escs hs ρ1) fun ds ρ2 => if ds.length ≠ n then .stuck else match m (ds.map .val) with
    | .rt h _ => if cleanH true h = true then .ok h ρ2 else .stuck
    | .exc c _ => .exc c ρ2
    | _ => .stuck
/-- the n-th argument, a list of a slot, is turned by the call -/
def eCallR (np n : Nat) (m : List Slot → So) (fa : Mo (List Hd)) : Mo Hd := fun ρ => bnd (fa ρ) fun hs ρ1 => match drs hs ρ1, hs[n]? with
  | some ds, some (.slot j) => if ds.length ≠ np ∨ j ∈ lent ρ1 (hs.eraseIdx n) then .stuck else match ρ1[j]? with
    | some (.own es) => (match m ((ds.map .val).set n (.arg es)) with
      | .rt h as' => (match as'[n]? with
        | some (.arg fs) => if (cleanH (lent ρ1 (hs.eraseIdx n)).isEmpty h && ((lent ρ1 (hs.eraseIdx n)).isEmpty || noLists fs)) = true then .ok h (ρ1.set j (.own fs)) else .stuck
        | _ => .stuck)
      | .exc c as' => (match as'[n]? with
        | some (.arg fs) => if ((lent ρ1 (hs.eraseIdx n)).isEmpty || noLists fs) = true then .exc c (ρ1.set j (.own fs)) else .stuck
        | _ => .stuck)
      | _ => .stuck)
    | some (.arg es) => (match m ((ds.map .val).set n (.arg es)) with
      | .rt h as' => (match as'[n]? with
        | some (.arg fs) => if (cleanH (lent ρ1 (hs.eraseIdx n)).isEmpty h && ((lent ρ1 (hs.eraseIdx n)).isEmpty || noLists fs)) = true then .ok h (ρ1.set j (.arg fs)) else .stuck
        | _ => .stuck)
      | .exc c as' => (match as'[n]? with
        | some (.arg fs) => if ((lent ρ1 (hs.eraseIdx n)).isEmpty || noLists fs) = true then .exc c (ρ1.set j (.arg fs)) else .stuck
        | _ => .stuck)
      | _ => .stuck)
    | _ => .stuck
  | _, _ => .stuck
section
variable {K : PySem.W.Frag} {Fm : Hp} {B : Nat → Addr} {G H : Hp} {σ : L2.St} {ρ : En} {mg : Str → Option Value}
theorem lent_mem {ρ : En} : ∀ {hs : List Hd} {j : Nat}, j ∈ lent ρ hs → isLst ρ[j]? = true
  | [], _, h => by cases h
  | .imm d :: hs, _, h => lent_mem (hs := hs) h
  | .fresh d :: hs, _, h => lent_mem (hs := hs) h
  | .slot i :: hs, j, h => by
    unfold lent at h
    by_cases c : isLst ρ[i]? = true
    · rw [if_pos c] at h
      rcases List.mem_cons.mp h with z | z
      · rw [z]; exact c
      · exact lent_mem z
    · rw [if_neg c] at h
      exact lent_mem h
open Classical in
/-- the addresses that are lent, the heap that the callee sees as fixed, what it must leave -/
def lentA (σ : L2.St) (l : List Nat) (p : Addr) : Prop := ∃ j ∈ l, σ[j]? = some (some (V.ref p))
open Classical in
noncomputable def Gc (σ : L2.St) (l : List Nat) (G H : Hp) : Hp := fun p => if lentA σ l p then H p else G p
/-- the addresses of one's own objects -/
def CelA (σ : L2.St) (ρ : En) (H : Hp) (a : Addr) : Prop := ∃ (i : Nat) (p : Addr), isCell ρ[i]? = true ∧ σ[i]? = some (some (V.ref p)) ∧ (a = p ∨ isBx ρ[i]? = true ∧ Prv H p a)
theorem Rep.bxAt (r : Rep K Fm B G σ H ρ) {i : Nat} (h : isBx ρ[i]? = true) : ∃ p x, σ[i]? = some (some (V.ref p)) ∧ BCell K Fm G H p x := by
  cases e : ρ[i]? with
  | none => rw [e] at h; cases h
  | some s =>
    rw [e] at h
    have x := r.at e
    cases s with
    | bx b => obtain ⟨p, e1, c⟩ := x; exact ⟨p, b, join_some e1, c⟩
    | bxa b => exact ⟨B (i + 1), b, join_some x.1, x.2⟩
    | _ => cases h
theorem Rep.bx_ne (r : Rep K Fm B G σ H ρ) {i : Nat} {s : Slot} {p t q : Addr} {u : HO} (e : ρ[i]? = some s) (ep : σ[i]? = some (some (V.ref p))) (hb : isBx (some s) = true) (hp : Prv H p t) (hq : H q = some u) (hu : ¬ KB u) : t ≠ q := by
  obtain ⟨p', x, e1, c⟩ := r.bxAt (i := i) (by rw [e]; exact hb)
  rw [ep] at e1
  cases e1
  obtain ⟨o, h1, h2, _, _⟩ := c.at hp
  exact KB_ne h1 h2 fun v hv => by rw [hq] at hv; cases hv; exact hu
theorem Rep.celAt (r : Rep K Fm B G σ H ρ) {a : Addr} (h : CelA σ ρ H a) : ∃ o, H a = some o ∧ G a = none ∧ Fm a = none := by
  obtain ⟨i, p, hi, ei, h⟩ := h
  rcases h with rfl | ⟨hb, hp⟩
  · obtain ⟨p', o', e1, c1, c2, c3⟩ := r.cellAny hi
    rw [ei] at e1
    cases e1
    exact ⟨o', c3, c1, c2⟩
  · obtain ⟨p', x, e1, c⟩ := r.bxAt hb
    rw [ei] at e1
    cases e1
    obtain ⟨o, h1, _, h2, h3⟩ := c.at hp
    exact ⟨o, h1, h2, h3⟩
open Classical in
noncomputable def Fc (σ : L2.St) (ρ : En) (l : List Nat) (own : Addr → Prop) (Fm H : Hp) : Hp := fun p => if CelA σ ρ H p ∧ ¬ lentA σ l p ∧ ¬ own p then H p else Fm p
section
variable {l : List Nat} {own : Addr → Prop} (r : Rep K Fm B G σ H ρ) (hl : ∀ j ∈ l, isLst ρ[j]? = true)
include r hl
theorem lent_cell {p : Addr} (h : lentA σ l p) : ∃ ds, Cell K Fm G H p ds := by
  obtain ⟨j, hj, e⟩ := h
  obtain ⟨p', ds, e1, c⟩ := r.cellAt (hl j hj)
  rw [e] at e1
  cases e1
  exact ⟨ds, c⟩
theorem gc_same : Same G (Gc σ l G H) := fun p o e => by
  unfold Gc
  rw [if_neg, e]
  intro z
  obtain ⟨ds, c, _⟩ := lent_cell r hl z
  rw [e] at c
  cases c
theorem gc_heap : Same (Gc σ l G H) H := fun p o e => by
  unfold Gc at e
  split at e
  · exact e
  · exact r.gh _ _ e
theorem gc_cl : Cln (B 0) (Gc σ l G H) := fun p o e => by
  unfold Gc at e
  split at e
  · rename_i z
    obtain ⟨ds, _, _, vs, c, _⟩ := lent_cell r hl z
    rw [c] at e
    cases e
    exact ⟨True.intro, fun z => by cases z⟩
  · exact r.cl p o e
theorem fc_fm {p : Addr} {o : HO} (e : Fm p = some o) : Fc σ ρ l own Fm H p = some o := by
  unfold Fc
  rw [if_neg, e]
  rintro ⟨hc, _⟩
  obtain ⟨o', _, _, c⟩ := r.celAt hc
  rw [e] at c
  cases c
theorem fc_ok {p : Addr} {o : HO} (e : Fc σ ρ l own Fm H p = some o) : H p = some o ∧ Gc σ l G H p = none := by
  unfold Fc at e
  split at e
  · rename_i c
    obtain ⟨hc, n1, n2⟩ := c
    obtain ⟨o', _, c, _⟩ := r.celAt hc
    refine ⟨e, ?_⟩
    unfold Gc
    rw [if_neg n1]
    exact c
  · refine ⟨(r.fh p o e).1, ?_⟩
    unfold Gc
    rw [if_neg]
    · exact (r.fh p o e).2
    · intro z
      obtain ⟨ds, _, c, _⟩ := lent_cell r hl z
      rw [e] at c
      cases c
/-- behind the call -/
theorem back {G' H' : Hp} (s : Same (Gc σ l G H) G') (gh : Same G' H') (fh : ∀ p o, Fc σ ρ l own Fm H p = some o → H' p = some o ∧ G' p = none) : ∃ G2, Same G G2 ∧ Same G2 H' ∧ (∀ p o, Fm p = some o → H' p = some o ∧ G2 p = none) ∧ (∀ (i : Nat) (s : Slot), ρ[i]? = some s → (∀ p, σ[i]? = some (some (V.ref p)) → isCell (some s) = true → ¬ own p) → (∀ p t, σ[i]? = some (some (V.ref p)) → isBx (some s) = true → Prv H p t → ¬ own t) → SlR K Fm B G2 H' i (σ[i]?.join) s) ∧
      (∀ v d, (l = [] ∨ noList d = true) → Dp K G' v d → Dp K G2 v d) ∧ (∀ v d, (l = [] ∨ noLists d = true) → DpAll K G' v d → DpAll K G2 v d) ∧ (∀ p, G' p = none → G2 p = none) ∧ (∀ (i : Nat) (p : Addr), isCell ρ[i]? = true → σ[i]? = some (some (V.ref p)) → ¬ own p → (∃ o, G' p = some o) ∨ ∃ o, Fc σ ρ l own Fm H p = some o) ∧ (∀ a, Cln a G' → Cln a G2) ∧ (∀ (i : Nat) (p : Addr), isBx ρ[i]? = true → σ[i]? = some (some (V.ref p)) → ¬ own p → ∀ o, H p = some o → KB o → H' p = some o) := by
  classical
  have inS : ∀ p, lentA σ l p → ∃ vs ds, Cell K Fm G H p ds ∧ H p = some (.lst vs) ∧ G' p = some (.lst vs) := fun p z => by
    obtain ⟨ds, c⟩ := lent_cell r hl z
    obtain ⟨c1, c2, vs, c3, c4⟩ := id c
    refine ⟨vs, ds, c, c3, s p _ ?_⟩
    unfold Gc
    rw [if_pos z]
    exact c3
  have gG : Same G (less G' (lentA σ l)) := fun p o e => by
    have h1 := s p o (gc_same r hl p o e)
    unfold less
    rw [if_neg, h1]
    intro z
    obtain ⟨ds, c, _⟩ := lent_cell r hl z
    rw [e] at c
    cases c
  have gnone : ∀ p, G' p = none → less G' (lentA σ l) p = none := fun p e => by
    unfold less
    split
    · rfl
    · exact e
  have emp : l = [] → Same G' (less G' (lentA σ l)) := fun e p o h => by
    unfold less
    rw [if_neg, h]
    rintro ⟨j, hj, _⟩
    rw [e] at hj
    cases hj
  have cell : ∀ (i : Nat) (p : Addr), isCell ρ[i]? = true → σ[i]? = some (some (V.ref p)) → ¬ own p → (∃ o, G' p = some o) ∨ ∃ o, Fc σ ρ l own Fm H p = some o := fun i p hi ei no => by
    by_cases z : lentA σ l p
    · obtain ⟨vs, ds, _, _, h⟩ := inS p z
      exact .inl ⟨_, h⟩
    · obtain ⟨p', o', e1, c1, c2, c3⟩ := r.cellAny hi
      rw [ei] at e1
      cases e1
      refine .inr ⟨o', ?_⟩
      unfold Fc
      rw [if_pos ⟨⟨i, p, hi, ei, .inl rfl⟩, z, no⟩]
      exact c3
  refine ⟨less G' (lentA σ l), gG, fun p o e => ?_, fun p o e => ?_, fun i t e hi hb => ?_, fun v d hd q => ?_, fun v d hd q => ?_, gnone, cell, fun _ c => c.sub fun p o e => by
    unfold less at e
    split at e
    · cases e
    · exact e, fun i p hb ep no o ho hk => ?_⟩
  · unfold less at e
    split at e
    · cases e
    · exact gh _ _ e
  · have := fh p o (fc_fm r hl e)
    exact ⟨this.1, gnone p this.2⟩
  · have x := r.sl i t e
    have cc : ∀ p ds', isCell (some t) = true → σ[i]?.join = some (V.ref p) → Cell K Fm G H p ds' → Cell K Fm (less G' (lentA σ l)) H' p ds' := fun p ds' ht hp ⟨c1, c2, vs, c3, c4⟩ => by
      have no := hi p (join_some hp) ht
      by_cases z : lentA σ l p
      · obtain ⟨vs', ds2, _, h1, h2⟩ := inS p z
        rw [c3] at h1
        cases h1
        refine ⟨?_, c2, vs, gh _ _ h2, c4.mono gG⟩
        unfold less
        rw [if_pos z]
      · have hF : Fc σ ρ l own Fm H p = some (.lst vs) := by
          unfold Fc
          rw [if_pos ⟨⟨i, p, by rw [e]; exact ht, join_some hp, .inl rfl⟩, z, no⟩]
          exact c3
        obtain ⟨h1, h2⟩ := fh p _ hF
        exact ⟨gnone p h2, c2, vs, h1, c4.mono gG⟩
    have cd : ∀ p m, isCell (some t) = true → isLst (some t) = false → σ[i]?.join = some (V.ref p) → DCell K Fm G H p m → DCell K Fm (less G' (lentA σ l)) H' p m := fun p m ht hnl hp ⟨c1, c2, x1, x2, x3, es, c3, c4⟩ => by
      have no := hi p (join_some hp) ht
      have z : ¬ lentA σ l p := by
        rintro ⟨j, hj, ej⟩
        have hij : i ≠ j := fun y => by
          have := hl j hj
          rw [← y, e, hnl] at this
          cases this
        exact r.nd i j p hij (by rw [e]; exact ht) (isLst_cell (hl j hj)) (join_some hp) ej
      have hF : Fc σ ρ l own Fm H p = some (rawT p es) := by
        unfold Fc
        rw [if_pos ⟨⟨i, p, by rw [e]; exact ht, join_some hp, .inl rfl⟩, z, no⟩]
        exact c3
      obtain ⟨h1, h2⟩ := fh p _ hF
      exact ⟨gnone p h2, c2, x1, x2, x3, es, h1, entRs_mono c4 gG⟩
    have cb : ∀ p b, isCell (some t) = true → isBx (some t) = true → σ[i]?.join = some (V.ref p) → BCell K Fm G H p b → BCell K Fm (less G' (lentA σ l)) H' p b := fun p b ht htb hp c => c.move (fun u o hu h1 h2 h3 h4 => by
      have z : ¬ lentA σ l u := fun y => by
        obtain ⟨vs, _, _, h5, _⟩ := inS u y
        rw [h3] at h5
        cases h5
        exact h4
      have hF : Fc σ ρ l own Fm H u = some o := by
        unfold Fc
        rw [if_pos ⟨⟨i, p, by rw [e]; exact ht, join_some hp, .inr ⟨by rw [e]; exact htb, hu⟩⟩, z, hb p u (join_some hp) htb hu⟩]
        exact h3
      obtain ⟨k1, k2⟩ := fh u _ hF
      exact ⟨k1, gnone u k2, h2⟩) fun v d q => q.mono gG
    cases t with
    | unset => trivial
    | val d => obtain ⟨v, e1, q⟩ := x; exact ⟨v, e1, q.mono gG⟩
    | own ds' => obtain ⟨p, e1, c⟩ := x; exact ⟨p, e1, cc p ds' rfl e1 c⟩
    | arg ds' => exact ⟨x.1, cc _ ds' rfl x.1 x.2⟩
    | exn c => obtain ⟨a, C, e1, e2, e3⟩ := x; exact ⟨a, C, e1, e2, gG _ _ e3⟩
    | lck m => obtain ⟨a, C, es, e1, e0, e2, e3⟩ := x; exact ⟨a, C, es, e1, e0, gG _ _ e2, entRs_mono e3 gG⟩
    | bx b => obtain ⟨p, e1, c⟩ := x; exact ⟨p, e1, cb p b rfl rfl e1 c⟩
    | bxa b => exact ⟨x.1, cb _ b rfl rfl x.1 x.2⟩
    | dic m => obtain ⟨p, e1, c⟩ := x; exact ⟨p, e1, cd p m rfl rfl e1 c⟩
    | darg m => exact ⟨x.1, cd _ m rfl rfl x.1 x.2⟩
  · rcases hd with hd | hd
    · exact q.mono (emp hd)
    · exact dp_less _ (fun a z => let ⟨vs, _, _, _, h⟩ := inS a z; ⟨vs, h⟩) d v hd q
  · rcases hd with hd | hd
    · exact q.mono (emp hd)
    · exact dpAll_less _ (fun a z => let ⟨vs, _, _, _, h⟩ := inS a z; ⟨vs, h⟩) d v hd q
  · have z : ¬ lentA σ l p := fun y => by
      obtain ⟨vs, _, _, h5, _⟩ := inS p y
      rw [ho] at h5
      cases h5
      exact hk
    have hF : Fc σ ρ l own Fm H p = some o := by
      unfold Fc
      rw [if_pos ⟨⟨i, p, isBx_cell hb, ep, .inl rfl⟩, z, no⟩]
      exact ho
    exact (fh p o hF).1
end
theorem lent_dp (r : Rep K Fm B G σ H ρ) {vs : List V} {hs : List Hd} (q : HdRs K Fm G σ vs hs) : ∀ {l : List Nat} {ds : List PyData}, (∀ j ∈ lent ρ hs, j ∈ l) → (∀ j ∈ l, isLst ρ[j]? = true) → drs hs ρ = some ds → DpAll K (Gc σ l G H) vs ds := by
  induction q with
  | nil => intro l ds _ _ e; cases e; exact .nil
  | @imm v d vs hs q _ ih =>
    intro l ds hj hl e
    simp only [drs, dr] at e
    split at e
    · rename_i e1 e2
      cases e1
      cases e
      exact .cons (q.mono (gc_same r hl)) (ih (fun j h => hj j h) hl e2)
    · cases e
  | @slot v i vs hs q _ ih =>
    intro l ds hj hl e
    simp only [drs] at e
    split at e
    · rename_i d ds' e1 e2
      cases e
      have sub : ∀ j ∈ lent ρ hs, j ∈ l := fun j h => hj j (by unfold lent; split; exact List.mem_cons_of_mem _ h; exact h)
      refine .cons ?_ (ih sub hl e2)
      rcases r.er (h := .slot i) q e1 with z | ⟨p, ws, es, rfl, rfl, c, q'⟩
      · exact z.mono (gc_same r hl)
      · by_cases hc : isLst ρ[i]? = true
        · have hi : i ∈ l := hj i (by unfold lent; rw [if_pos hc]; exact List.mem_cons_self)
          have : Gc σ l G H p = some (.lst ws) := by
            unfold Gc
            rw [if_pos ⟨i, hi, q⟩]
            exact c
          exact .lst (.of this) (q'.mono (gc_same r hl))
        · simp only [dr] at e1
          cases e3 : ρ[i]? with
          | none => rw [e3] at e1; cases e1
          | some s =>
            rw [e3] at e1 hc
            cases s with
            | unset => cases e1
            | own _ => exact absurd rfl hc
            | arg _ => exact absurd rfl hc
            | exn c => cases e1
            | lck m => cases e1
            | bx m => cases e1
            | bxa m => cases e1
            | dic m => cases e1
            | darg m => cases e1
            | val d' =>
              cases e1
              obtain ⟨v', e4, q4⟩ := r.at e3
              rw [q] at e4
              cases e4
              exact q4.mono (gc_same r hl)
    · cases e
theorem valsRep {G2 Fm2 : Hp} {B2 : Nat → Addr} {vs : List V} {ds : List PyData} (q : DpAll K G2 vs ds) (gh : Same G2 H) (fh : ∀ p o, Fm2 p = some o → H p = some o ∧ G2 p = none) (cl : Cln (B2 0) G2) : Rep K Fm2 B2 G2 (vs.map some) H (ds.map .val) := by
  have nc : ∀ i : Nat, isCell (ds.map Slot.val)[i]? = false := fun i => by
    rw [List.getElem?_map]
    cases ds[i]? <;> rfl
  refine ⟨gh, fh, by rw [List.length_map, List.length_map]; exact q.length, fun i s e => ?_, fun i j p _ hi => ?_, cl, NB.nonC nc⟩
  · rw [List.getElem?_map] at e
    cases e1 : ds[i]? with
    | none => rw [e1] at e; cases e
    | some d =>
      rw [e1] at e
      cases e
      obtain ⟨v, e2, q2⟩ := q.get e1
      refine ⟨v, ?_, q2⟩
      rw [List.getElem?_map, e2]
      rfl
  · rw [nc i] at hi
    cases hi
end
section
variable {X : Cx} {W : WX} {k : Nat} {f : Addr} {fd : FuncData} {ps : List Str} {x : Str} {p pos : Pos} {e : Expr} {es : List Expr} {fa : Mo (List Hd)} {m : List Slot → So}
/-- what a call leaves -/
theorem call_post {σ : L2.St} {Fm : Hp} {B : Nat → Addr} {G1 H1 : Hp} {ρ1 : En} {Q : VK} {l : List Nat} (r1 : Rep X.K Fm B G1 σ H1 ρ1) (hl : ∀ j ∈ l, isLst ρ1[j]? = true) {as : List Slot}
    (p1 : PoH X.K X.mg W Fm B G1 σ Q (match m as with
      | .rt h _ => if cleanH l.isEmpty h = true then .ok h ρ1 else .stuck
      | .exc c _ => .exc c ρ1
      | _ => .stuck)) : PoS X.K X.mg (fun cls d _ H => W cls d σ H) (Fc σ ρ1 l (fun _ => False) Fm H1) B (Gc σ l G1 H1) { nx := fun _ _ => False, rt := Q } (m as) := by
  cases e : m as with
  | nx ρ' => rw [e] at p1; exact p1.elim
  | bk ρ' => rw [e] at p1; exact p1.elim
  | ct ρ' => rw [e] at p1; exact p1.elim
  | stuck => rw [e] at p1; exact p1.elim
  | exc c ρ' =>
    rw [e] at p1
    intro G' σ' H' s' r' C hC
    obtain ⟨G2, b1, b2, b3, b4, b5, b6, b7, b8, b9, b10⟩ := back r1 hl s' r'.gh r'.fh
    exact p1 G2 H' b1 ⟨b2, b3, r1.len, fun i s e => b4 i s e (fun _ _ _ h => h) (fun _ _ _ _ _ h => h), r1.nd, b9 _ r'.cl, r1.nb_to (fun i p h1 h2 o h3 h4 => b10 i p h1 h2 (fun h => h) o h3 h4) fun _ _ h1 h2 => ⟨h1, h2⟩⟩ C hC
  | rt hd ρ' =>
    simp only [e] at p1
    split at p1
    · rename_i hcl
      intro v G' σ' H' s' r' q'
      obtain ⟨G2, b1, b2, b3, b4, b5, b6, b7, b8, b9, b10⟩ := back r1 hl s' r'.gh r'.fh
      refine p1 v G2 H' b1 ⟨b2, b3, r1.len, fun i s e => b4 i s e (fun _ _ _ h => h) (fun _ _ _ _ _ h => h), r1.nd, b9 _ r'.cl, r1.nb_to (fun i p h1 h2 o h3 h4 => b10 i p h1 h2 (fun h => h) o h3 h4) fun _ _ h1 h2 => ⟨h1, h2⟩⟩ ?_
      cases hd with
      | imm d => exact b5 v d (by simpa [cleanH] using hcl) q'
      | slot j => cases hcl
      | fresh fs =>
        obtain ⟨a, rfl, ⟨c1, c2, ws, c3, c4⟩, n⟩ := q'
        refine ⟨a, rfl, ⟨b7 a c1, ?_, ws, c3, b6 ws fs (by simpa [cleanH] using hcl) c4⟩, fun i hi ei => ?_⟩
        · cases e5 : Fm a with
          | none => rfl
          | some o => rw [fc_fm r1 hl e5] at c2; cases c2
        · rcases b8 i a hi ei (fun h => h) with ⟨o, z⟩ | ⟨o, z⟩
          · rw [c1] at z; cases z
          · rw [c2] at z; cases z
    · exact p1.elim
theorem use_call {σ : L2.St} {H : Hp} {Q : VK} {n : Nat} (h : tH X.K X.mg W (eCall n m fa) σ H Q) : tCallS (spF X.K X.mg n m) (WE W) (tA X.K X.mg W fa) σ H Q := by
  obtain ⟨Fm, B, G, ρ, r0, p⟩ := h
  refine ⟨Fm, B, G, ρ, r0, PoA.bndH p fun vs hs G1 H1 ρ1 s1 r1 q1 p1 => ?_⟩
  cases z : drs hs ρ1 with
  | none => simp only [z] at p1; exact p1.elim
  | some ds =>
    simp only [z] at p1
    split at p1
    · exact p1.elim
    · rename_i hn
      have hl : ∀ j ∈ lent ρ1 hs, isLst ρ1[j]? = true := fun j hj => lent_mem hj
      have dd := lent_dp r1 q1 (fun j h => h) hl z
      refine ⟨dd.length.trans (Classical.not_not.mp hn), Fc σ ρ1 (lent ρ1 hs) (fun _ => False) Fm H1, B, Gc σ (lent ρ1 hs) G1 H1, ds.map .val, valsRep dd (gc_heap r1 hl) (fun p o e => fc_ok r1 hl e) (gc_cl r1 hl), call_post r1 hl p1⟩
theorem lent_of {ρ : En} : ∀ {hs : List Hd} {i : Nat}, Hd.slot i ∈ hs → isLst ρ[i]? = true → i ∈ lent ρ hs
  | [], _, h, _ => by cases h
  | h :: hs, i, hm, hc => by
    rcases List.mem_cons.mp hm with z | z
    · subst z
      unfold lent
      rw [if_pos hc]
      exact List.mem_cons_self
    · have := lent_of z hc
      cases h with
      | imm d => exact this
      | fresh d => exact this
      | slot a =>
        simp only [lent]
        split
        · exact List.mem_cons_of_mem _ this
        · exact this
theorem HdRs.get {K : PySem.W.Frag} {Fm G : Hp} {σ : L2.St} {vs : List V} {hs : List Hd} (h : HdRs K Fm G σ vs hs) : ∀ {k : Nat} {v : V}, vs[k]? = some v → (∃ d, hs[k]? = some (.imm d) ∧ Dp K G v d) ∨ ∃ i, hs[k]? = some (.slot i) ∧ σ[i]? = some (some v) := by
  induction h with
  | nil => intro k v e; simp at e
  | @imm v d vs hs q _ ih =>
    intro k v' e
    cases k with
    | zero =>
      have y : v = v' := by simpa using e
      exact .inl ⟨d, rfl, y ▸ q⟩
    | succ k => simpa using ih (k := k) (by simpa using e)
  | @slot v j vs hs q _ ih =>
    intro k v' e
    cases k with
    | zero =>
      have y : v = v' := by simpa using e
      exact .inr ⟨j, rfl, y ▸ q⟩
    | succ k => simpa using ih (k := k) (by simpa using e)
theorem HdRs.length {K : PySem.W.Frag} {Fm G : Hp} {σ : L2.St} {vs : List V} {hs : List Hd} (h : HdRs K Fm G σ vs hs) : vs.length = hs.length := by
  induction h with
  | nil => rfl
  | imm _ _ ih => simp [ih]
  | slot _ _ ih => simp [ih]
theorem drs_get {ρ : En} : ∀ {hs : List Hd} {ds : List PyData}, drs hs ρ = some ds → ds.length = hs.length ∧ ∀ (k : Nat) (d : PyData), ds[k]? = some d → ∃ h, hs[k]? = some h ∧ dr h ρ = some d
  | [], _, e => by cases e; exact ⟨rfl, fun k d h => by simp at h⟩
  | h :: hs, ds, e => by
    simp only [drs] at e
    split at e
    · rename_i d0 ds' e1 e2
      cases e
      obtain ⟨a, b⟩ := drs_get e2
      refine ⟨by simp [a], fun k d hk => ?_⟩
      cases k with
      | zero =>
        have : d0 = d := by simpa using hk
        subst this
        exact ⟨h, rfl, e1⟩
      | succ k => simpa using b k d (by simpa using hk)
    · cases e
theorem cell_dp {K : PySem.W.Frag} {Fm : Hp} {B : Nat → Addr} {G H : Hp} {σ : L2.St} {ρ : En} (r : Rep K Fm B G σ H ρ) {l : List Nat} (hl : ∀ j ∈ l, isLst ρ[j]? = true) {i : Nat} {v : V} {d : PyData} (q : σ[i]? = some (some v)) (e : dr (.slot i) ρ = some d) (hi : isLst ρ[i]? = true → i ∈ l) : Dp K (Gc σ l G H) v d := by
  have := lent_dp (l := l) (ds := [d]) r (HdRs.slot (hs := []) (vs := []) q .nil) (fun j hj => by
    unfold lent at hj
    split at hj
    · rename_i c
      rcases List.mem_cons.mp hj with z | z
      · rw [z]; exact hi c
      · cases z
    · cases hj) hl (by simp only [drs, e])
  cases this with
  | cons h _ => exact h
theorem use_callR {σ : L2.St} {H : Hp} {Q : VK} {n np : Nat} (h : tH X.K X.mg W (eCallR np n m fa) σ H Q) : tCallS (spF X.K X.mg np m) (WE W) (tA X.K X.mg W fa) σ H Q := by
  obtain ⟨Fm, B, G, ρ, r0, p⟩ := h
  refine ⟨Fm, B, G, ρ, r0, PoA.bndH p fun vs hs G1 H1 ρ1 s1 r1 q1 p1 => ?_⟩
  cases z : drs hs ρ1 with
  | none => simp only [z] at p1; exact p1.elim
  | some ds =>
    simp only [z] at p1
    cases z2 : hs[n]? with
    | none => simp only [z2] at p1; exact p1.elim
    | some hd0 =>
      cases hd0 with
      | imm d => simp only [z2] at p1; exact p1.elim
      | fresh d => simp only [z2] at p1; exact p1.elim
      | slot j =>
        simp only [z2] at p1
        split at p1
        · exact p1.elim
        · rename_i hn
          have hnp : ds.length = np := Classical.not_not.mp fun y => hn (.inl y)
          have hjl : j ∉ lent ρ1 (hs.eraseIdx n) := fun y => hn (.inr y)
          -- the slot's list
          have main : ∀ (es : List PyData) (wr : List PyData → Slot), ((ρ1[j]? = some (.own es) ∧ wr = Slot.own) ∨ (ρ1[j]? = some (.arg es) ∧ wr = Slot.arg)) →
              PoH X.K X.mg W Fm B G1 σ Q (match m ((ds.map .val).set n (.arg es)) with
                | .rt h as' => (match as'[n]? with
                  | some (.arg fs) => if (cleanH (lent ρ1 (hs.eraseIdx n)).isEmpty h && ((lent ρ1 (hs.eraseIdx n)).isEmpty || noLists fs)) = true then .ok h (ρ1.set j (wr fs)) else .stuck
                  | _ => .stuck)
                | .exc c as' => (match as'[n]? with
                  | some (.arg fs) => if ((lent ρ1 (hs.eraseIdx n)).isEmpty || noLists fs) = true then .exc c (ρ1.set j (wr fs)) else .stuck
                  | _ => .stuck)
                | _ => .stuck) → spF X.K X.mg np m vs H1 Q (WE W σ) := by
            intro es wr hw p2
            have hl : ∀ i ∈ lent ρ1 (hs.eraseIdx n), isLst ρ1[i]? = true := fun i hi => lent_mem hi
            have hcl : isLst ρ1[j]? = true := by rcases hw with ⟨y, _⟩ | ⟨y, _⟩ <;> rw [y] <;> rfl
            have hcj : isCell ρ1[j]? = true := by rcases hw with ⟨y, _⟩ | ⟨y, _⟩ <;> rw [y] <;> rfl
            have hjlt : j < ρ1.length := by rcases hw with ⟨y, _⟩ | ⟨y, _⟩ <;> exact lt_of_get y
            obtain ⟨dl, dg⟩ := drs_get z
            have vl : vs.length = ds.length := q1.length.trans dl.symm
            have hnlt : n < ds.length := by have := lt_of_get z2; omega
            obtain ⟨vn, evn⟩ : ∃ v, vs[n]? = some v := ⟨vs[n]'(by omega), List.getElem?_eq_getElem (by omega)⟩
            have esj : σ[j]? = some (some vn) := by
              rcases q1.get evn with ⟨d, y, _⟩ | ⟨i, y, y'⟩
              · rw [z2] at y; cases y
              · rw [z2] at y; cases y; exact y'
            obtain ⟨pj, ds0, e1, c0⟩ := r1.cellAt hcl
            rw [esj] at e1
            cases e1
            have hj : Cell X.K Fm G1 H1 pj es := by
              rcases hw with ⟨y, _⟩ | ⟨y, _⟩
              · obtain ⟨p', e2, c⟩ := r1.at y
                rw [esj] at e2
                cases e2
                exact c
              · obtain ⟨e2, c⟩ := r1.at y
                rw [esj] at e2
                cases e2
                exact c
            have nlent : ¬ lentA σ (lent ρ1 (hs.eraseIdx n)) pj := by
              rintro ⟨i, hi, ei⟩
              have hij : i ≠ j := fun y => hjl (y ▸ hi)
              exact r1.nd i j pj hij (isLst_cell (hl i hi)) hcj ei esj
            obtain ⟨c1, c2, ws, c3, c4⟩ := id hj
            have r2 : Rep X.K (Fc σ ρ1 (lent ρ1 (hs.eraseIdx n)) (fun a => a = pj) Fm H1) (Bq (B 0) pj) (Gc σ (lent ρ1 (hs.eraseIdx n)) G1 H1) (vs.map some) H1 ((ds.map .val).set n (.arg es)) := by
              have cel : ∀ i : Nat, isCell ((ds.map Slot.val).set n (.arg es))[i]? = true → i = n := fun i hi => by
                by_cases y : i = n
                · exact y
                · rw [List.getElem?_set_ne (Ne.symm y), List.getElem?_map] at hi
                  cases y2 : ds[i]? with
                  | none => rw [y2] at hi; cases hi
                  | some d => rw [y2] at hi; cases hi
              refine ⟨gc_heap r1 hl, fun p o e => fc_ok r1 hl e, by simp [vl], fun i s e => ?_, fun i i' p ni hi hi' => ?_, show Cln (B 0) _ from gc_cl r1 hl, NB.non fun i => by
                by_cases y : i = n
                · subst y
                  rw [List.getElem?_set_self (by simpa using hnlt)]
                  rfl
                · rw [List.getElem?_set_ne (Ne.symm y), List.getElem?_map]
                  cases ds[i]? <;> rfl⟩
              · by_cases y : i = n
                · subst y
                  rw [List.getElem?_set_self (by simpa using hnlt)] at e
                  cases e
                  refine ⟨by rw [List.getElem?_map, evn]; rfl, ?_, ?_, ws, c3, c4.mono (gc_same r1 hl)⟩
                  · show Gc σ _ G1 H1 pj = none
                    unfold Gc
                    rw [if_neg nlent]
                    exact c1
                  · show Fc σ ρ1 _ _ Fm H1 pj = none
                    unfold Fc
                    rw [if_neg (fun y => y.2.2 rfl)]
                    exact c2
                · rw [List.getElem?_set_ne (Ne.symm y), List.getElem?_map] at e
                  cases y2 : ds[i]? with
                  | none => rw [y2] at e; cases e
                  | some d =>
                    rw [y2] at e
                    cases e
                    obtain ⟨h, y3, y4⟩ := dg i d y2
                    have hi : i < vs.length := by have := lt_of_get y2; omega
                    refine ⟨vs[i], by rw [List.getElem?_map, List.getElem?_eq_getElem hi]; rfl, ?_⟩
                    rcases q1.get (List.getElem?_eq_getElem hi) with ⟨d', y5, y6⟩ | ⟨a, y5, y6⟩
                    · rw [y3] at y5
                      cases y5
                      cases y4
                      exact y6.mono (gc_same r1 hl)
                    · rw [y3] at y5
                      cases y5
                      exact cell_dp r1 hl y6 y4 fun hc => lent_of (List.mem_eraseIdx_iff_getElem?.mpr ⟨i, y, y3⟩) hc
              · exact absurd ((cel i hi).trans (cel i' hi').symm) ni
            refine ⟨vl.trans hnp, _, _, _, _, r2, ?_⟩
            have fin : ∀ (G' H' : Hp) (σ' : L2.St) (as' : En) (fs : List PyData), Same (Gc σ (lent ρ1 (hs.eraseIdx n)) G1 H1) G' → Rep X.K (Fc σ ρ1 (lent ρ1 (hs.eraseIdx n)) (fun a => a = pj) Fm H1) (Bq (B 0) pj) G' σ' H' as' → as'[n]? = some (.arg fs) →
                ((lent ρ1 (hs.eraseIdx n)).isEmpty || noLists fs) = true → ∃ G2, Same G1 G2 ∧ Rep X.K Fm B G2 σ H' (ρ1.set j (wr fs)) ∧ (∀ v d, ((lent ρ1 (hs.eraseIdx n)) = [] ∨ noList d = true) → Dp X.K G' v d → Dp X.K G2 v d) ∧ (∀ v d, ((lent ρ1 (hs.eraseIdx n)) = [] ∨ noLists d = true) → DpAll X.K G' v d → DpAll X.K G2 v d) ∧
                  (∀ p, G' p = none → G2 p = none) ∧ (∀ (i : Nat) (a : Addr), isCell ρ1[i]? = true → σ[i]? = some (some (V.ref a)) → a ≠ pj → (∃ o, G' a = some o) ∨ ∃ o, Fc σ ρ1 (lent ρ1 (hs.eraseIdx n)) (fun a => a = pj) Fm H1 a = some o) ∧ σ'[n]? = some (some (V.ref pj)) := by
              intro G' H' σ' as' fs s' r' eA cf
              obtain ⟨G2, b1, b2, b3, b4, b5, b6, b7, b8, b9, b10⟩ := back r1 hl s' r'.gh r'.fh
              obtain ⟨x1, d1, d2, us, d3, d4⟩ := r'.at eA
              have hcell : Cell X.K Fm G2 H' pj fs := ⟨b7 _ d1, c2, us, d3, b6 us fs (by simpa using cf) d4⟩
              have back2 : ∀ i : Nat, isCell (ρ1.set j (wr fs))[i]? = true → isCell ρ1[i]? = true := fun i hi => by
                by_cases y : i = j
                · rw [y]; exact hcj
                · rw [List.getElem?_set_ne (Ne.symm y)] at hi; exact hi
              refine ⟨G2, b1, ⟨b2, b3, by rw [List.length_set]; exact r1.len, fun i s e => ?_, fun i i' p ni hi hi' ei ei' => r1.nd i i' p ni (back2 i hi) (back2 i' hi') ei ei', b9 _ r'.cl, r1.nb_to (fun i p h1 h2 o h3 h4 => b10 i p h1 h2 (fun z => KB_ne h3 h4 (fun u hu => by rw [c3] at hu; cases hu; exact not_KB_lst) z) o h3 h4) fun i p h1 h2 => ⟨(isBx_set (by rcases hw with ⟨_, rfl⟩ | ⟨_, rfl⟩ <;> rfl) h1).2, h2⟩⟩, b5, b6, b7, fun i a hi ei no => b8 i a hi ei no, join_some x1⟩
              by_cases y : i = j
              · subst y
                rw [List.getElem?_set_self hjlt] at e
                cases e
                rcases hw with ⟨y, rfl⟩ | ⟨y, rfl⟩
                · exact ⟨pj, by rw [esj]; rfl, hcell⟩
                · obtain ⟨e2, _⟩ := r1.at y
                  have e3 : pj = B (i + 1) := by
                    rw [esj] at e2
                    cases e2
                    rfl
                  subst e3
                  exact ⟨by rw [esj]; rfl, hcell⟩
              · rw [List.getElem?_set_ne (Ne.symm y)] at e
                exact b4 i s e (fun p ep hc z => r1.nd i j p y (by rw [e]; exact hc) hcj ep (by rw [esj, z])) fun p t ep hb hp z => r1.bx_ne e ep hb hp c3 not_KB_lst z
            cases e : m ((ds.map .val).set n (.arg es)) with
            | nx ρ' => rw [e] at p2; exact p2.elim
            | bk ρ' => rw [e] at p2; exact p2.elim
            | ct ρ' => rw [e] at p2; exact p2.elim
            | stuck => rw [e] at p2; exact p2.elim
            | exc c as' =>
              simp only [e] at p2
              intro G' σ' H' s' r' C hC
              split at p2
              · rename_i fs eA
                split at p2
                · rename_i cf
                  obtain ⟨G2, b1, b2, _⟩ := fin G' H' σ' as' fs s' r' eA cf
                  exact p2 G2 H' b1 b2 C hC
                · exact p2.elim
              · exact p2.elim
            | rt hd as' =>
              simp only [e] at p2
              intro v G' σ' H' s' r' q'
              split at p2
              · rename_i fs eA
                split at p2
                · rename_i cf
                  rw [Bool.and_eq_true] at cf
                  obtain ⟨G2, b1, b2, b5, b6, b7, b8, b9⟩ := fin G' H' σ' as' fs s' r' eA cf.2
                  refine p2 v G2 H' b1 b2 ?_
                  cases hd with
                  | imm d => exact b5 v d (by simpa [cleanH] using cf.1) q'
                  | slot j => exact absurd cf.1 (by simp [cleanH])
                  | fresh gs =>
                    obtain ⟨a, rfl, ⟨d1, d2, us, d3, d4⟩, nn⟩ := q'
                    have na : a ≠ pj := fun y => nn n (by rw [eA]; rfl) (by rw [y]; exact b9)
                    refine ⟨a, rfl, ⟨b7 a d1, ?_, us, d3, b6 us gs (by simpa [cleanH] using cf.1) d4⟩, fun i hi ei => ?_⟩
                    · cases e5 : Fm a with
                      | none => rfl
                      | some o => rw [fc_fm r1 hl e5] at d2; cases d2
                    · have hi' : isCell ρ1[i]? = true := by
                        by_cases y : i = j
                        · rw [y]; exact hcj
                        · rw [List.getElem?_set_ne (Ne.symm y)] at hi; exact hi
                      rcases b8 i a hi' ei na with ⟨o, y⟩ | ⟨o, y⟩
                      · rw [d1] at y; cases y
                      · rw [d2] at y; cases y
                · exact p2.elim
              · exact p2.elim
          split at p1
          · rename_i es y
            exact main es Slot.own (.inl ⟨y, rfl⟩) p1
          · rename_i es y
            exact main es Slot.arg (.inr ⟨y, rfl⟩) p1
          · exact p1.elim
/-- the first argument, a dict of a slot, is turned by the call -/
def eCallD (np : Nat) (m : List Slot → So) (fa : Mo (List Hd)) : Mo Hd := fun ρ => bnd (fa ρ) fun hs ρ1 => match hs with
  | .slot j :: hs => match drs hs ρ1 with
    | some ds => if ds.length + 1 ≠ np then .stuck else match ρ1[j]? with
      | some (.dic es) => (match m (.darg es :: ds.map .val) with
        | .rt h as' => (match as'[(0 : Nat)]? with
          | some (.darg fs) => if (cleanH (lent ρ1 hs).isEmpty h && noLists (fs.map (·.2))) = true then .ok h (ρ1.set j (.dic fs)) else .stuck
          | _ => .stuck)
        | .exc c as' => (match as'[(0 : Nat)]? with
          | some (.darg fs) => if noLists (fs.map (·.2)) = true then .exc c (ρ1.set j (.dic fs)) else .stuck
          | _ => .stuck)
        | _ => .stuck)
      | some (.darg es) => (match m (.darg es :: ds.map .val) with
        | .rt h as' => (match as'[(0 : Nat)]? with
          | some (.darg fs) => if (cleanH (lent ρ1 hs).isEmpty h && noLists (fs.map (·.2))) = true then .ok h (ρ1.set j (.darg fs)) else .stuck
          | _ => .stuck)
        | .exc c as' => (match as'[(0 : Nat)]? with
          | some (.darg fs) => if noLists (fs.map (·.2)) = true then .exc c (ρ1.set j (.darg fs)) else .stuck
          | _ => .stuck)
        | _ => .stuck)
      | _ => .stuck
    | none => .stuck
  | _ => .stuck
variable {kk : Nat}
/-- f(e, ..) -/
theorem re_call (F : FnOk X.prog X.w X.K X.mg X.base (L2.CX X.prog X.w) kk f fd ps (spF X.K X.mg ps.length m)) (hr : Room kk X.A) (hm : X.mg x = some (.ref f)) (hk : PySem.W.keepIn X.K (.ref f) = true) (hb : Binds X.K fd ps []) (tk : Takes X W)
    (ha : PA X (e :: es) (tA X.K X.mg W fa)) (hg : Gl X x := by rfl) (hdb : (x == ("__debug__" : Str)) = false := by decide) (he : starEach (e :: es) X.env = (false, eval e X.env) :: starEach es X.env := by rfl) (hpl : (backTo pos (starEach es X.env)).any (·.1) = false := by rfl) :
    PE X (.Call (.Name x p) (e :: es) [] pos) (tH X.K X.mg W (eCall ps.length m fa)) := PE.weak (pe_callS F hr hg hm hk hb (fun σ => passAt tk σ) ha hdb he hpl) fun _ _ _ h => use_call h
theorem re_callR (n : Nat) (F : FnOk X.prog X.w X.K X.mg X.base (L2.CX X.prog X.w) kk f fd ps (spF X.K X.mg ps.length m)) (hr : Room kk X.A) (hm : X.mg x = some (.ref f)) (hk : PySem.W.keepIn X.K (.ref f) = true) (hb : Binds X.K fd ps []) (tk : Takes X W)
    (ha : PA X (e :: es) (tA X.K X.mg W fa)) (hg : Gl X x := by rfl) (hdb : (x == ("__debug__" : Str)) = false := by decide) (he : starEach (e :: es) X.env = (false, eval e X.env) :: starEach es X.env := by rfl) (hpl : (backTo pos (starEach es X.env)).any (·.1) = false := by rfl) :
    PE X (.Call (.Name x p) (e :: es) [] pos) (tH X.K X.mg W (eCallR ps.length n m fa)) := PE.weak (pe_callS F hr hg hm hk hb (fun σ => passAt tk σ) ha hdb he hpl) fun _ _ _ h => use_callR h
end
/-- a def of the text that keeps its mirror -/
structure Fn (P : Program) (w : World) (K : PySem.W.Frag) (mg : Str → Option Value) (base : Heap) (k : Nat) (x : Str) (ps : List Str) (m : List Slot → So) (f : Addr) (fd : FuncData) : Prop where
  ok : FnOk P w K mg base (L2.CX P w) k f fd ps (spF K mg ps.length m)
  mg : mg x = some (.ref f)
  kp : PySem.W.keepIn K (.ref f) = true
  bd : Binds K fd ps []
end Mir


namespace Mir
open PySem PySem.Spec PyProof.Rows L2
/-! ### comprehensions -/
def wipeE (ρ : En) : List Nat → En
  | [] => ρ
  | v :: vs => (wipeE ρ vs).set v .unset
def resE (ρ1 ρ : En) : List Nat → En
  | [] => ρ
  | v :: vs => (resE ρ1 ρ vs).set v (ρ1.getD v .unset)
/-- the source stands as it was -/
def srcOk (src : Option Nat) (all : List PyData) (ρ : En) : Prop := match src with
  | none => True
  | some j => dr (.slot j) ρ = some (.list all)
open Classical in
noncomputable def compL (src : Option Nat) (all : List PyData) (tf : PyData → En → Option En) (c : Mo Bool) (e : Mo Hd) (vs : List Nat) : List PyData → List PyData → En → Rs (List PyData)
  | [], acc, ρ => if srcOk src all ρ then .ok acc ρ else .stuck
  | d :: ds, acc, ρ => if srcOk src all ρ then match tf d ρ with
      | none => .stuck
      | some ρ1 => bnd (c ρ1) fun b ρ2 => if b = true then bnd (e ρ2) fun h ρ3 => bnd (esc h ρ3) fun x ρ4 => @ite _ (acc.length < sizeLine) (Classical.propDecidable _) (compL src all tf c e vs ds (acc ++ [x]) (wipeE ρ4 vs)) .stuck
        else compL src all tf c e vs ds acc (wipeE ρ2 vs)
    else .stuck
noncomputable def eComp (fi : Mo (List PyData × Option Nat)) (tf : PyData → En → Option En) (c : Mo Bool) (e : Mo Hd) (vs : List Nat) : Mo Hd := fun ρ => bnd (fi ρ) fun s ρ1 => if vs.all (fun v => !isCell ρ1[v]?) = true then
    (match compL s.2 s.1 tf c e vs s.1 [] (wipeE ρ1 vs) with
      | .ok acc ρ2 => .ok (.fresh acc) (resE ρ1 ρ2 vs)
      | _ => .stuck) else .stuck
def tYes' : Mo Bool := fun ρ => .ok true ρ
def ItC (b : Bool) (K : PySem.W.Frag) (σ : L2.St) (G0 : Hp) (J : It) (ds : List PyData) (o : Option Nat) : Prop := ∀ (i : Nat) (Fm : Hp) (B : Nat → Addr) (G H : Hp) (σ' : L2.St) (ρ : En), Same G0 G → Rep K Fm B G σ' H ρ → srcOk o ds ρ → (∀ j, o = some j → σ'[j]? = σ[j]?) →
  (ds.length ≤ i → J.stop i H) ∧ ∀ d, ds[i]? = some d → J.go i H ∧ ∀ x H', J.yld i H x H' → ∃ G', Grow G H G' H' ∧ Itm b K G' H' x d
def tIc (b : Bool) (K : PySem.W.Frag) (mg : Str → Option Value) (W : WX) (f : Mo (List PyData × Option Nat)) : TI := fun σ H R => ∃ Fm B G ρ, Rep K Fm B G σ H ρ ∧ match f ρ with
  | .ok s ρ' => ∀ J G' H', Same G G' → Rep K Fm B G' σ H' ρ' → ItC b K σ G' J s.1 s.2 → R J H'
  | .exc c ρ' => ∀ G' H', Same G G' → Rep K Fm B G' σ H' ρ' → Exw mg W c σ H'
  | .stuck => False
def iK (f : Mo (List PyData)) : Mo (List PyData × Option Nat) := fun ρ => bnd (f ρ) fun ds ρ1 => .ok (ds, none) ρ1
def iN (i : Nat) : Mo (List PyData × Option Nat) := fun ρ => match ρ[i]? with
  | some (.val d) => (match items d with
    | some ds => .ok (ds, none) ρ
    | none => .stuck)
  | some (.own ds) => .ok (ds, some i) ρ
  | some (.arg ds) => .ok (ds, some i) ρ
  | _ => .stuck
section
variable {K : PySem.W.Frag} {Fm : Hp} {B : Nat → Addr} {G H : Hp} {σ : L2.St} {ρ : En}
theorem Rep.none (r : Rep K Fm B G σ H ρ) (i : Nat) : Rep K Fm B G (σ.set i .none) H (ρ.set i .unset) := by
  have r1 := r.unset i
  by_cases hi : i < ρ.length
  · have hl : i < σ.length := by rw [r.len]; exact hi
    have cel : ∀ j : Nat, isCell (ρ.set i .unset)[j]? = true → j ≠ i := fun j h e => by
      subst e
      rw [List.getElem?_set_self hi] at h
      cases h
    refine ⟨r1.gh, r1.fh, by rw [List.length_set]; exact r1.len, fun j s e => ?_, fun j k p njk hj hk ej ek => ?_, r1.cl, r1.nb_to (fun _ _ _ _ _ h _ => h) fun k q h1 h2 => ⟨h1, by rw [List.getElem?_set_ne (Ne.symm (isBx_set (ρ := ρ) (s := .unset) rfl h1).1)] at h2; exact h2⟩⟩
    · by_cases hj : j = i
      · subst hj
        rw [List.getElem?_set_self hi] at e
        cases e
        trivial
      · rw [List.getElem?_set_ne (Ne.symm hj)]
        exact r1.sl j s e
    · rw [List.getElem?_set_ne (Ne.symm (cel j hj))] at ej
      rw [List.getElem?_set_ne (Ne.symm (cel k hk))] at ek
      exact r1.nd j k p njk hj hk ej ek
  · rw [List.set_eq_of_length_le (by have := r.len; omega)]
    exact r1
theorem Rep.wipe (r : Rep K Fm B G σ H ρ) : ∀ vs : List Nat, Rep K Fm B G (wipe σ vs) H (wipeE ρ vs)
  | [] => r
  | v :: vs => (Rep.wipe r vs).none v
theorem resE_get {ρ1 ρ : En} (hl : ρ1.length = ρ.length) : ∀ (vs : List Nat) (i : Nat), (resE ρ1 ρ vs)[i]? = if i ∈ vs then ρ1[i]? else ρ[i]?
  | [], i => by simp [resE]
  | v :: vs, i => by
    have ln : ∀ vs : List Nat, (resE ρ1 ρ vs).length = ρ.length := fun vs => by
      induction vs with
      | nil => rfl
      | cons a b ih => simp [resE, ih]
    simp only [resE]
    by_cases h : v = i
    · subst h
      by_cases hv : v < ρ.length
      · rw [List.getElem?_set_self (by rw [ln]; exact hv), if_pos List.mem_cons_self]
        rw [List.getD_eq_getElem?_getD, List.getElem?_eq_getElem (by omega)]
        rfl
      · rw [List.getElem?_eq_none (by simp [ln]; omega), if_pos List.mem_cons_self, List.getElem?_eq_none (by omega)]
    · rw [List.getElem?_set_ne h, resE_get hl vs i]
      by_cases h2 : i ∈ vs
      · rw [if_pos h2, if_pos (List.mem_cons_of_mem _ h2)]
      · rw [if_neg h2, if_neg (fun z => (List.mem_cons.mp z).elim (fun y => h y.symm) h2)]
theorem resE_length {ρ1 ρ : En} : ∀ vs : List Nat, (resE ρ1 ρ vs).length = ρ.length
  | [] => rfl
  | v :: vs => by simp [resE, resE_length vs]
theorem wipe_get {σ : L2.St} : ∀ (vs : List Nat) (i : Nat), i ∉ vs → (wipe σ vs)[i]? = σ[i]?
  | [], _, _ => rfl
  | v :: vs, i, h => by
    simp only [L2.wipe]
    rw [List.getElem?_set_ne (fun z => h (by rw [z]; exact List.mem_cons_self)), wipe_get vs i fun z => h (List.mem_cons_of_mem _ z)]
theorem wipe_in {σ : L2.St} : ∀ (vs : List Nat) (i : Nat), i ∈ vs → i < σ.length → (wipe σ vs)[i]? = some .none
  | [], _, h, _ => by cases h
  | v :: vs, i, h, hi => by
    simp only [L2.wipe]
    by_cases hv : v = i
    · subst hv
      rw [List.getElem?_set_self (by rw [wipe_length]; exact hi)]
    · rw [List.getElem?_set_ne hv]
      exact wipe_in vs i ((List.mem_cons.mp h).resolve_left fun z => hv z.symm) hi
theorem wipe_off {T vs : List Nat} {σ σ2 : L2.St} (h : Off T (wipe σ vs) σ2) (hT : ∀ i ∈ T, i ∈ vs) : wipe σ2 vs = wipe σ vs := by
  have l1 : σ2.length = σ.length := h.1.trans (wipe_length σ vs)
  apply List.ext_getElem?
  intro i
  by_cases hi : i ∈ vs
  · by_cases hl : i < σ.length
    · rw [wipe_in vs i hi (by omega), wipe_in vs i hi hl]
    · rw [List.getElem?_eq_none (by rw [wipe_length]; omega), List.getElem?_eq_none (by rw [wipe_length]; omega)]
  · rw [wipe_get vs i hi, h.2 i (fun z => hi (hT i z))]
/-- behind the block -/
theorem Rep.res {Fm2 G1 : Hp} {ρ1 ρ2 : En} {vs : List Nat} (r : Rep K Fm2 B G (L2.wipe σ vs) H ρ2) (r1 : Rep K Fm B G1 σ H' ρ1) (s : Same G1 G) (hc : ∀ v ∈ vs, isCell ρ1[v]? = false) (hF : ∀ p o, Fm p = some o → Fm2 p = some o) : Rep K Fm B G σ H (resE ρ1 ρ2 vs) := by
  have l2 : ρ1.length = ρ2.length := by have := r.len; rw [wipe_length] at this; have := r1.len; omega
  have cel : ∀ i : Nat, isCell (resE ρ1 ρ2 vs)[i]? = true → i ∉ vs ∧ isCell ρ2[i]? = true := fun i h => by
    rw [resE_get l2] at h
    by_cases hi : i ∈ vs
    · rw [if_pos hi, hc i hi] at h; cases h
    · rw [if_neg hi] at h; exact ⟨hi, h⟩
  have weak : ∀ {p : Addr} {ds : List PyData}, Cell K Fm2 G H p ds → Cell K Fm G H p ds := fun {p ds} ⟨a, b, c⟩ => by
    refine ⟨a, ?_, c⟩
    cases e : Fm p with
    | none => rfl
    | some o => rw [hF p o e] at b; cases b
  have weakD : ∀ {p : Addr} {m : List (List Int × PyData)}, DCell K Fm2 G H p m → DCell K Fm G H p m := fun {p m} ⟨a, b, c⟩ => by
    refine ⟨a, ?_, c⟩
    cases e : Fm p with
    | none => rfl
    | some o => rw [hF p o e] at b; cases b
  have weakB : ∀ {p : Addr} {b : Bx}, BCell K Fm2 G H p b → BCell K Fm G H p b := fun {p b} c => c.move (fun t o _ h1 h2 h3 _ => by
    refine ⟨h3, h1, ?_⟩
    cases e : Fm t with
    | none => rfl
    | some o => rw [hF t o e] at h2; cases h2) fun v d q => q
  refine ⟨r.gh, fun p o e => r.fh p o (hF p o e), by rw [resE_length, ← l2]; exact r1.len, fun i t e => ?_, fun i j p nij hi hj ei ej => ?_, r.cl, r.nb_to (fun _ _ _ _ _ h _ => h) fun i q k1 k2 => ?_⟩
  · rw [resE_get l2] at e
    by_cases hi : i ∈ vs
    · rw [if_pos hi] at e
      have x := r1.sl i t e
      have hcc := hc i hi
      rw [e] at hcc
      cases t with
      | unset => trivial
      | val d => obtain ⟨v, e1, q⟩ := x; exact ⟨v, e1, q.mono s⟩
      | own ds => cases hcc
      | arg ds => cases hcc
      | dic m => cases hcc
      | darg m => cases hcc
      | bx m => cases hcc
      | bxa m => cases hcc
      | exn c => obtain ⟨a, C, e1, e2, e3⟩ := x; exact ⟨a, C, e1, e2, s _ _ e3⟩
      | lck m => obtain ⟨a, C, es, e1, e0, e2, e3⟩ := x; exact ⟨a, C, es, e1, e0, s _ _ e2, entRs_mono e3 s⟩
    · rw [if_neg hi] at e
      have x := r.sl i t e
      rw [wipe_get vs i hi] at x
      cases t with
      | unset => trivial
      | val d => exact x
      | own ds => obtain ⟨p, e1, c⟩ := x; exact ⟨p, e1, weak c⟩
      | arg ds => exact ⟨x.1, weak x.2⟩
      | dic m => obtain ⟨p, e1, c⟩ := x; exact ⟨p, e1, weakD c⟩
      | darg m => exact ⟨x.1, weakD x.2⟩
      | bx b => obtain ⟨p, e1, c⟩ := x; exact ⟨p, e1, weakB c⟩
      | bxa b => exact ⟨x.1, weakB x.2⟩
      | exn c => exact x
      | lck m => exact x
  · obtain ⟨i1, i2⟩ := cel i hi
    obtain ⟨j1, j2⟩ := cel j hj
    rw [← wipe_get (σ := σ) vs i i1] at ei
    rw [← wipe_get (σ := σ) vs j j1] at ej
    exact r.nd i j p nij i2 j2 ei ej
  · obtain ⟨i1, i2⟩ := cel i (isBx_cell k1)
    rw [← wipe_get (σ := σ) vs i i1] at k2
    rw [resE_get l2, if_neg i1] at k1
    exact ⟨k1, k2⟩
/-- another cell among those that are left alone -/
theorem Rep.lay (r : Rep K Fm B G σ H ρ) {D : Addr} {ys : List V} (hD : H D = .none) : Rep K (upd Fm D (.lst ys)) B G σ (upd H D (.lst ys)) ρ := by
  have hFD : Fm D = .none := by
    cases e : Fm D with
    | none => rfl
    | some o => have := (r.fh D o e).1; rw [hD] at this; cases this
  refine ⟨fun b o e => same_upd hD _ _ (r.gh b o e), fun p o e => ?_, r.len, fun i s e => ?_, r.nd, r.cl, r.nb_upd fun u hu => by rw [hD] at hu; cases hu⟩
  · by_cases hp : p = D
    · subst hp
      rw [upd_same] at e
      exact ⟨by rw [upd_same]; exact e, r.free hD⟩
    · rw [upd_ne hp] at e ⊢
      exact r.fh p o e
  · have x := r.sl i s e
    have cc : ∀ {p : Addr} {ds : List PyData}, Cell K Fm G H p ds → Cell K (upd Fm D (.lst ys)) G (upd H D (.lst ys)) p ds := fun {p ds} ⟨a, b, ws, c, q⟩ => by
      have np : p ≠ D := ne_of_none c hD
      exact ⟨a, by rw [upd_ne np]; exact b, ws, by rw [upd_ne np]; exact c, q⟩
    have cd : ∀ {p : Addr} {m : List (List Int × PyData)}, DCell K Fm G H p m → DCell K (upd Fm D (.lst ys)) G (upd H D (.lst ys)) p m := fun {p m} ⟨a, b, x1, x2, x3, es, c, q⟩ => by
      have np : p ≠ D := ne_of_none c hD
      exact ⟨a, by rw [upd_ne np]; exact b, x1, x2, x3, es, by rw [upd_ne np]; exact c, q⟩
    have cb : ∀ {p : Addr} {b : Bx}, BCell K Fm G H p b → BCell K (upd Fm D (.lst ys)) G (upd H D (.lst ys)) p b := fun {p b} c => c.move (fun t o _ h1 h2 h3 _ => by
      have np : t ≠ D := ne_of_none h3 hD
      exact ⟨by rw [upd_ne np]; exact h3, h1, by rw [upd_ne np]; exact h2⟩) fun v d q => q
    cases s with
    | unset => trivial
    | val d => exact x
    | own ds => obtain ⟨p, e1, c⟩ := x; exact ⟨p, e1, cc c⟩
    | bx b => obtain ⟨p, e1, c⟩ := x; exact ⟨p, e1, cb c⟩
    | bxa b => exact ⟨x.1, cb x.2⟩
    | arg ds => exact ⟨x.1, cc x.2⟩
    | exn c => exact x
    | lck m => exact x
    | dic m => obtain ⟨p, e1, c⟩ := x; exact ⟨p, e1, cd c⟩
    | darg m => exact ⟨x.1, cd x.2⟩
/-- .. is written -/
theorem Rep.lay2 {D : Addr} {xs ys : List V} (r : Rep K (upd Fm D (.lst xs)) B G σ H ρ) : Rep K (upd Fm D (.lst ys)) B G σ (upd H D (.lst ys)) ρ := by
  have hGD : G D = .none := (r.fh D _ upd_same).2
  refine ⟨fun b o e => ?_, fun p o e => ?_, r.len, fun i s e => ?_, r.nd, r.cl, r.nb_upd fun u hu => by rw [(r.fh D _ upd_same).1] at hu; cases hu; exact not_KB_lst⟩
  · rw [upd_ne (ne_of_none e hGD)]
    exact r.gh b o e
  · by_cases hp : p = D
    · subst hp
      rw [upd_same] at e
      exact ⟨by rw [upd_same]; exact e, hGD⟩
    · rw [upd_ne hp] at e ⊢
      exact r.fh p o (by rw [upd_ne hp]; exact e)
  · have x := r.sl i s e
    have cc : ∀ {p : Addr} {ds : List PyData}, Cell K (upd Fm D (.lst xs)) G H p ds → Cell K (upd Fm D (.lst ys)) G (upd H D (.lst ys)) p ds := fun {p ds} ⟨a, b, ws, c, q⟩ => by
      have np : p ≠ D := fun z => by subst z; rw [upd_same] at b; cases b
      rw [upd_ne np] at b
      exact ⟨a, by rw [upd_ne np]; exact b, ws, by rw [upd_ne np]; exact c, q⟩
    have cd : ∀ {p : Addr} {m : List (List Int × PyData)}, DCell K (upd Fm D (.lst xs)) G H p m → DCell K (upd Fm D (.lst ys)) G (upd H D (.lst ys)) p m := fun {p m} ⟨a, b, x1, x2, x3, es, c, q⟩ => by
      have np : p ≠ D := fun z => by subst z; rw [upd_same] at b; cases b
      rw [upd_ne np] at b
      exact ⟨a, by rw [upd_ne np]; exact b, x1, x2, x3, es, by rw [upd_ne np]; exact c, q⟩
    have cb : ∀ {p : Addr} {b : Bx}, BCell K (upd Fm D (.lst xs)) G H p b → BCell K (upd Fm D (.lst ys)) G (upd H D (.lst ys)) p b := fun {p b} c => c.move (fun t o _ h1 h2 h3 _ => by
      have np : t ≠ D := fun z => by subst z; rw [upd_same] at h2; cases h2
      rw [upd_ne np] at h2
      exact ⟨by rw [upd_ne np]; exact h3, h1, by rw [upd_ne np]; exact h2⟩) fun v d q => q
    cases s with
    | unset => trivial
    | val d => exact x
    | own ds => obtain ⟨p, e1, c⟩ := x; exact ⟨p, e1, cc c⟩
    | bx b => obtain ⟨p, e1, c⟩ := x; exact ⟨p, e1, cb c⟩
    | bxa b => exact ⟨x.1, cb x.2⟩
    | arg ds => exact ⟨x.1, cc x.2⟩
    | exn c => exact x
    | lck m => exact x
    | dic m => obtain ⟨p, e1, c⟩ := x; exact ⟨p, e1, cd c⟩
    | darg m => exact ⟨x.1, cd x.2⟩
end
section
variable {X : Cx} {W : WX} {fi : Mo (List PyData × Option Nat)} {tf : PyData → En → Option En} {c : Mo Bool} {e : Mo Hd} {vs T : List Nat}
abbrev W0 : WX := fun _ _ _ _ => False
theorem use_comp {b : Bool} {σ : L2.St} {H : Hp} {Q : VK} (hT : ∀ i ∈ T, i ∈ vs) (h : tH X.K X.mg W (eComp fi tf c e vs) σ H Q) : tLc (tIc b X.K X.mg W fi) (tG b X.K T tf) (tT X.K X.mg W0 c) (tH X.K X.mg W0 e) vs σ H Q := by
  obtain ⟨Fm, B, G, ρ, r0, p⟩ := h
  refine ⟨Fm, B, G, ρ, r0, ?_⟩
  unfold eComp at p
  cases z0 : fi ρ with
  | stuck => rw [z0] at p; exact p.elim
  | exc c ρ1 => rw [z0] at p; exact p
  | ok s ρ1 =>
    obtain ⟨ds, o⟩ := s
    rw [z0] at p
    simp only [bnd] at p
    by_cases hv : vs.all (fun v => !isCell ρ1[v]?) = true
    · rw [if_pos hv] at p
      have hc : ∀ v ∈ vs, isCell ρ1[v]? = false := fun v h => by simpa using List.all_eq_true.mp hv v h
      intro J G1 H1 s1 r1 it D nD
      -- the result of what is left
      refine ⟨fun i m H => i + m = ds.length ∧ ∃ G' ρ' accV accD acc ρ2, Same G1 G' ∧ Rep X.K (upd Fm D (.lst accV)) B G' (wipe σ vs) H ρ' ∧ DpAll X.K G' accV accD ∧ compL o ds tf c e vs (ds.drop i) accD ρ' = .ok acc ρ2 ∧
        (∀ v G' H', Same G G' → Rep X.K Fm B G' σ H' (resE ρ1 ρ2 vs) → HdR X.K Fm G' σ H' (resE ρ1 ρ2 vs) v (.fresh acc) → Q v H'), ?_, ?_⟩
      · cases z1 : compL o ds tf c e vs ds [] (wipeE ρ1 vs) with
        | stuck => simp only [z1] at p; exact p.elim
        | exc c ρ2 => simp only [z1] at p; exact p.elim
        | ok acc ρ2 =>
          simp only [z1] at p
          exact ⟨ds.length, by omega, G1, _, [], [], acc, ρ2, Same.refl _, (r1.wipe vs).lay nD, .nil, z1, p⟩
      · rintro i m H2 ⟨im, G2, ρ3, accV, accD, acc, ρ2, s2, r2, qa, z1, p⟩
        have ok : srcOk o ds ρ3 := by
          cases y : ds.drop i with
          | nil =>
            rw [y] at z1
            simp only [compL] at z1
            split at z1
            · assumption
            · cases z1
          | cons a b =>
            rw [y] at z1
            simp only [compL] at z1
            split at z1
            · assumption
            · cases z1
        obtain ⟨istop, igo⟩ := it i _ B G2 H2 _ ρ3 s2 r2 ok (fun j hj => by
          subst hj
          refine wipe_get vs j fun hm => ?_
          have hj : j < ρ3.length := by
            have ok' : dr (.slot j) ρ3 = some (.list ds) := ok
            simp only [dr] at ok'
            cases y : ρ3[j]? with
            | none => rw [y] at ok'; cases ok'
            | some t => exact lt_of_get y
          have hjs : j < σ.length := by have := r2.len; rw [wipe_length] at this; omega
          have wn := wipe_in (σ := σ) vs j hm hjs
          have ok' : dr (.slot j) ρ3 = some (.list ds) := ok
          simp only [dr] at ok'
          cases y : ρ3[j]? with
          | none => rw [y] at ok'; cases ok'
          | some t =>
            have x := r2.sl j t y
            rw [wn] at x
            rw [y] at ok'
            cases t with
            | unset => cases ok'
            | val d => obtain ⟨v, e1, _⟩ := x; cases e1
            | own d => obtain ⟨v, e1, _⟩ := x; cases e1
            | arg d => obtain ⟨e1, _⟩ := x; cases e1
            | exn c => obtain ⟨_, _, e1, _⟩ := x; cases e1
            | lck m => obtain ⟨_, _, _, e1, _⟩ := x; cases e1
            | bx m => obtain ⟨_, e1, _⟩ := x; cases e1
            | bxa m => obtain ⟨e1, _⟩ := x; cases e1
            | dic m => obtain ⟨_, e1, _⟩ := x; cases e1
            | darg m => obtain ⟨e1, _⟩ := x; cases e1)
        cases m with
        | zero =>
          refine .inl ⟨istop (by show ds.length ≤ i; omega), ?_⟩
          rw [List.drop_of_length_le (by omega)] at z1
          simp only [compL, if_pos ok] at z1
          cases z1
          have hF : ∀ p o, Fm p = some o → (upd Fm D (.lst accV)) p = some o := fun p o e => by
            have np : p ≠ D := fun z => by
              subst z
              have := (r1.fh p o e).1
              rw [nD] at this
              cases this
            rw [upd_ne np]
            exact e
          obtain ⟨hD1, hD2⟩ := r2.fh D _ upd_same
          have r5 := r2.res r1 s2 hc hF
          refine p _ G2 H2 (s1.trans s2) r5 ⟨D, rfl, ⟨hD2, ?_, accV, hD1, qa⟩, fun i hi z => ?_⟩
          · cases y : Fm D with
            | none => rfl
            | some o' => have := (r1.fh D o' y).1; rw [nD] at this; cases this
          · have l2 : ρ1.length = ρ3.length := by have := r2.len; rw [wipe_length] at this; have := r1.len; omega
            rw [resE_get l2] at hi
            by_cases hiv : i ∈ vs
            · rw [if_pos hiv, hc i hiv] at hi; cases hi
            · rw [if_neg hiv] at hi
              obtain ⟨p', o', e1, _, c2, _⟩ := r2.cellAny hi
              rw [wipe_get vs i hiv, z] at e1
              cases e1
              rw [upd_same] at c2
              cases c2
        | succ m =>
          have hi' : i < ds.length := by omega
          have ed : ds[i]? = some ds[i] := List.getElem?_eq_getElem hi'
          obtain ⟨go, yl⟩ := igo _ ed
          rw [List.drop_eq_getElem_cons hi'] at z1
          simp only [compL, if_pos ok] at z1
          refine .inr ⟨go, fun H => i + 1 + m = ds.length ∧ ∃ G' ρ' accV accD acc ρ2, Same G1 G' ∧ Rep X.K (upd Fm D (.lst accV)) B G' (wipe σ vs) H ρ' ∧ DpAll X.K G' accV accD ∧ compL o ds tf c e vs (ds.drop (i + 1)) accD ρ' = .ok acc ρ2 ∧
            (∀ v G' H', Same G G' → Rep X.K Fm B G' σ H' (resE ρ1 ρ2 vs) → HdR X.K Fm G' σ H' (resE ρ1 ρ2 vs) v (.fresh acc) → Q v H'), fun H' hh => ⟨m, Nat.lt_succ_self m, hh⟩, fun x H3 y3 => ?_⟩
          obtain ⟨G3, g3, q3⟩ := yl x H3 y3
          have r3 := r2.grow g3
          cases zt : tf ds[i] ρ3 with
          | none => rw [zt] at z1; cases z1
          | some ρ4 =>
            rw [zt] at z1
            refine ⟨_, B, G3, ρ3, ds[i], ρ4, r3, q3, zt, fun σ4 o4 r4 => ⟨wipe_off o4 hT, ?_⟩⟩
            have hw := wipe_off o4 hT
            refine ⟨_, B, G3, ρ4, r4, ?_⟩
            simp only [bnd] at z1
            cases zc : c ρ4 with
            | stuck => rw [zc] at z1; cases z1
            | exc c' ρ5 => rw [zc] at z1; cases z1
            | ok b ρ5 =>
              rw [zc] at z1
              intro G5 H5 s5 r5
              cases b with
              | false =>
                simp only at z1
                refine ⟨by omega, G5, wipeE ρ5 vs, accV, accD, acc, ρ2, s2.trans (g3.gg.trans s5), ?_, qa.mono (g3.gg.trans s5), z1, p⟩
                have := r5.wipe vs
                rw [hw] at this
                exact this
              | true =>
                rw [if_pos rfl]
                simp only [if_true] at z1
                refine ⟨_, B, G5, ρ5, r5, ?_⟩
                cases ze : e ρ5 with
                | stuck => rw [ze] at z1; cases z1
                | exc c' ρ6 => rw [ze] at z1; cases z1
                | ok h ρ6 =>
                  rw [ze] at z1
                  intro y G6 H6 s6 r6 q6
                  simp only at z1
                  cases zx : esc h ρ6 with
                  | stuck => rw [zx] at z1; cases z1
                  | exc c' ρ7 => exact (esc_ne zx).elim
                  | ok xd ρ7 =>
                    rw [zx] at z1
                    simp only at z1
                    obtain ⟨G7, s7, r7, q7⟩ := r6.esc q6 zx
                    split at z1
                    · rename_i hz
                      obtain ⟨hD1, hD2⟩ := r7.fh D _ upd_same
                      have qa' := qa.mono (g3.gg.trans (s5.trans (s6.trans s7)))
                      refine ⟨accV, hD1, by rw [qa.length]; exact hz, by omega, G7, wipeE ρ7 vs, accV ++ [y], accD ++ [xd], acc, ρ2, s2.trans (g3.gg.trans (s5.trans (s6.trans s7))), ?_, qa'.append (.one q7), z1, p⟩
                      have r8 := (r7.wipe vs).lay2 (ys := accV ++ [y])
                      rw [hw] at r8
                      exact r8
                    · cases z1
    · rw [if_neg hv] at p
      exact p.elim
/-- from a walk that stays -/
theorem ri_k {b : Bool} {tg iter : Expr} {f : Mo (List PyData)} (h : PI X tg iter (tI b X.K X.mg W f)) : PI X tg iter (tIc b X.K X.mg W (iK f)) := PI.weak h fun σ H R hw => by
  obtain ⟨Fm, B, G, ρ, r0, p⟩ := hw
  refine ⟨Fm, B, G, ρ, r0, ?_⟩
  unfold iK at p
  cases z : f ρ with
  | stuck => rw [z] at p; exact p.elim
  | exc c ρ1 => rw [z] at p; exact p
  | ok ds ρ1 =>
    rw [z] at p
    exact fun J G' H' s r it => p J G' H' s r fun i Fm B G H σ' ρ s2 r2 _ _ => it i G H s2 r2.gh
/-- a list (or what else) that a name has -/
theorem ri_n (i : Nat) {tg : Expr} {x : Str} {pos : Pos} (hN : X.N[i]? = some x := by rfl) (hv : Vis X.env.scope x := by first | exact Or.inl rfl | exact Or.inr (Or.inl rfl) | exact Or.inr (Or.inr rfl)) (hd : (x == ("__debug__" : Str)) = false := by decide)
    (hcd : (x == ("__classdict__" : Str)) = false := by decide) : PI X tg (.Name x pos) (tIc false X.K X.mg W (iN i)) := PI.weak (pi_seq (pe_var hN hv hd hcd)) fun σ H R hw => by
  obtain ⟨Fm, B, G, ρ, r, p⟩ := hw
  unfold iN at p
  cases e : ρ[i]? with
  | none => rw [e] at p; exact p.elim
  | some s =>
    rw [e] at p
    have x := r.at e
    have cell : ∀ a ds, σ[i]?.join = some (V.ref a) → (ρ[i]? = some (.own ds) ∨ ρ[i]? = some (.arg ds)) → Cell X.K Fm G H a ds → (∀ J G' H', Same G G' → Rep X.K Fm B G' σ H' ρ → ItC false X.K σ G' J ds (some i) → R J H') → iSeq X.K (tVar i) σ H R := fun a ds ea hd c p => by
      refine ⟨.ref a, join_some ea, .inl ⟨a, rfl, .inl ⟨?_, p _ G H (Same.refl _) r fun k Fm' B' G' H' σ' ρ' s' r' ok hs => ?_⟩⟩⟩
      · obtain ⟨_, _, ws, c3, _⟩ := c
        exact ⟨ws, .of c3⟩
      · have es : σ'[i]? = some (some (V.ref a)) := (hs i rfl).trans (join_some ea)
        have ok' : dr (.slot i) ρ' = some (.list ds) := ok
        obtain ⟨a', ws, e1, hq, qq⟩ := (r'.er (h := .slot i) es ok').list r'.gh
        cases e1
        refine ⟨fun hl => ⟨ws, hq, by rw [qq.length]; exact hl⟩, fun d hd => ?_⟩
        obtain ⟨v, e1, q1⟩ := qq.get hd
        refine ⟨⟨ws, v, hq, e1⟩, fun x H2 y => ?_⟩
        obtain ⟨rfl, y⟩ := y
        have := y ws hq
        rw [e1] at this
        cases this
        exact ⟨G', Grow.refl r'.gh, .inl q1⟩
    cases s with
    | unset => exact p.elim
    | own ds =>
      obtain ⟨a, e1, c⟩ := x
      exact cell a ds e1 (.inl e) c p
    | arg ds =>
      obtain ⟨e1, c⟩ := x
      exact cell _ ds e1 (.inr e) c p
    | exn c => exact p.elim
    | lck m => exact p.elim
    | bx m => exact p.elim
    | bxa m => exact p.elim
    | dic m => exact p.elim
    | darg m => exact p.elim
    | val d =>
      obtain ⟨v, e1, q⟩ := x
      have con : ∀ {J : It} {ds : List PyData}, ItR false X.K G J ds → ItC false X.K σ G J ds none := fun it k Fm' B' G' H' σ' ρ' s' r' _ _ => it k G' H' s' r'.gh
      refine ⟨v, join_some e1, ?_⟩
      cases q with
      | lst hs ha => exact .inl ⟨_, rfl, .inl ⟨⟨_, r.gh.seq hs⟩, p _ G H (Same.refl _) r (con (itr_list' hs ha))⟩⟩
      | tup hs ha => exact .inl ⟨_, rfl, .inr ⟨⟨_, sameT r.gh hs⟩, p _ G H (Same.refl _) r (con (itr_tup hs ha))⟩⟩
      | str zz => exact .inr ⟨zz, rfl, p _ G H (Same.refl _) r (con (itr_str zz))⟩
      | non => exact p.elim
      | bl b => exact p.elim
      | int i => exact p.elim
theorem PTs.weak {es : List Expr} {t t' : TT} (h : PTs X es t) (i : ∀ σ H Q, t' σ H Q → t σ H Q) : PTs X es t' := ⟨fun pins s σ H Q I hw => h.run pins s σ H Q I (i σ H Q hw)⟩
theorem rc_yes : PTs X [] (tT X.K X.mg W tYes') := PTs.weak pts_nil fun σ H Q h => by
  obtain ⟨Fm, B, G, ρ, r, p⟩ := h
  exact p G H (Same.refl _) r
theorem re_lc {b : Bool} {elt tg iter : Expr} {ifs : List Expr} {scope : Scope} {pos : Pos} (own : List (Str × Nat)) (hc : X.calm = true) (hN : X.N.Nodup) (hi : PI X tg iter (tIc b X.K X.mg W fi)) (ok : BlkOk X.N X.env.scope scope own)
    (hg : ∀ (s : Shared) (H : Hp) (C : Addr) (cl : List (Str × Addr)) (fp : List Addr), PG (X.blk s H scope (compEnvC scope cl C X.env) fp) tg (tG b X.K T tf)) (ht : ∀ (s : Shared) (H : Hp) (C : Addr) (cl : List (Str × Addr)) (fp : List Addr), PTs (X.blk s H scope (compEnvC scope cl C X.env) fp) ifs (tT X.K X.mg W0 c))
    (he : ∀ (s : Shared) (H : Hp) (C : Addr) (cl : List (Str × Addr)) (fp : List Addr), PE (X.blk s H scope (compEnvC scope cl C X.env) fp) elt (tH X.K X.mg W0 e)) (hT : ∀ i ∈ T, i ∈ own.map (·.2) := by decide) (hs : ∀ x, foldedSetIterable iter X.env x = pure x := by intro _; rfl) :
    PE X (.ListComp elt [⟨tg, iter, ifs, 0⟩] scope pos) (tH X.K X.mg W (eComp fi tf c e (own.map (·.2)))) := PE.weak (pe_lc hc hN hi ok hg ht he hs) fun _ _ _ h => use_comp hT h
end
end Mir


namespace Mir
open PySem PySem.Spec PyProof.Rows L2
/-! ### operations on data -/
def iInt (i : Int) : Option Hd := some (.imm (.int i))
def iBool (b : Bool) : Option Hd := some (.imm (.bool b))
noncomputable def addD : PyData → PyData → Option Hd
  | .int i, .int j => some (.imm (.int (i + j)))
  | .str a, .str b => @ite _ (a.length + b.length ≤ sizeLine) (Classical.propDecidable _) (some (.imm (.str (a ++ b)))) none
  | .list a, .list b => @ite _ (a.length + b.length ≤ sizeLine) (Classical.propDecidable _) (some (.fresh (a ++ b))) none
  | .tuple a, .tuple b => @ite _ (a.length + b.length ≤ sizeLine) (Classical.propDecidable _) (some (.imm (.tuple (a ++ b)))) none
  | _, _ => none
def subD : PyData → PyData → Option Hd
  | .int i, .int j => some (.imm (.int (i - j)))
  | _, _ => none
/-- factors that together have less than a million bits -/
def mulOk (i j : Int) : Bool := decide (i.natAbs.log2 + j.natAbs.log2 < 1000000)
noncomputable def mulD : PyData → PyData → Option Hd
  | .int i, .int j => if mulOk i j = true then some (.imm (.int (i * j))) else none
  | .list a, .int k => @ite _ (-(2 ^ 63) ≤ k ∧ k < 2 ^ 63 ∧ a.length * k.toNat ≤ sizeLine) (Classical.propDecidable _) (some (.fresh (List.replicate k.toNat a).flatten)) none
  | .tuple a, .int k => @ite _ (-(2 ^ 63) ≤ k ∧ k < 2 ^ 63 ∧ a.length * k.toNat ≤ sizeLine) (Classical.propDecidable _) (some (.imm (.tuple (List.replicate k.toNat a).flatten))) none
  | _, _ => none
def divOk (j : Int) : Bool := decide (0 < j ∧ j.natAbs.log2 < 9000)
def fdivD : PyData → PyData → Option Hd
  | .int i, .int j => if divOk j = true then some (.imm (.int (i / j))) else none
  | _, _ => none
def modD : PyData → PyData → Option Hd
  | .int i, .int j => if 0 < j then some (.imm (.int (i % j))) else none
  | _, _ => none
def powD : PyData → PyData → Option Hd
  | .int i, .int j => if 0 ≤ j ∧ j ≤ 1000000 ∧ i.natAbs < 2 ^ 64 then some (.imm (.int (i ^ j.toNat))) else none
  | _, _ => none
def negD : PyData → Option Hd
  | .int i => some (.imm (.int (-i)))
  | _ => none
def ltD : PyData → PyData → Option Hd
  | .int i, .int j => some (.imm (.bool (decide (i < j))))
  | _, _ => none
def leD : PyData → PyData → Option Hd
  | .int i, .int j => some (.imm (.bool (decide (i ≤ j))))
  | _, _ => none
def gtD : PyData → PyData → Option Hd
  | .int i, .int j => some (.imm (.bool (decide (j < i))))
  | _, _ => none
def geD : PyData → PyData → Option Hd
  | .int i, .int j => some (.imm (.bool (decide (j ≤ i))))
  | _, _ => none
def eqD (a b : PyData) : Option Hd := if SeqAt.shaped a = true ∧ SeqAt.shaped b = true then some (.imm (.bool (PyData.eqv a b))) else none
def neD (a b : PyData) : Option Hd := if SeqAt.shaped a = true ∧ SeqAt.shaped b = true then some (.imm (.bool (!PyData.eqv a b))) else none
theorem divOk_of {i j : Int} (c : divOk j = true) : CDivW i j := by
  have h : 0 < j ∧ j.natAbs.log2 < 9000 := of_decide_eq_true c
  exact h
theorem mulOk_of {i j : Int} (c : mulOk i j = true) : CMulW i j := by
  have h : i.natAbs.log2 + j.natAbs.log2 < 1000000 := of_decide_eq_true c
  exact h
section
variable {X : Cx}
theorem d_add : OpR X (binaryOp .Add) (rOp X.K addD) := by
  intro pins s σ H x y v u Q I rx ry h
  obtain ⟨G, d1, d2, r, sg, e1, e2, eo, k⟩ := h
  unfold addD at eo
  split at eo
  · cases eo
    rw [e1.int] at rx
    rw [e2.int] at ry
    exact op_add pins s σ H _ _ v u Q I rx ry ⟨_, _, rfl, rfl, k _ G H (Grow.refl sg) (Dp.int _)⟩
  · split at eo
    · cases eo
      rw [e1.str] at rx
      rw [e2.str] at ry
      exact op_add_str pins s σ H _ _ v u Q I rx ry ⟨_, _, rfl, rfl, by assumption, k _ G H (Grow.refl sg) (Dp.str _)⟩
    · cases eo
  · split at eo
    · rename_i hz
      cases eo
      obtain ⟨l, xs, rfl, hl, ql⟩ := e1.list sg
      obtain ⟨b, zs, rfl, hb, qb⟩ := e2.list sg
      cases rx
      cases ry
      obtain ⟨its, r, p, z⟩ := I.list hl
      obtain ⟨its2, r2, p2, z2⟩ := I.list hb
      obtain ⟨⟨cls, dd, data, sl⟩, n, e, hc, hd, hdt⟩ := p
      obtain ⟨⟨cls2, dd2, data2, sl2⟩, n2, e', hc2, hd2, hdt2⟩ := p2
      simp only at hc hd hdt hc2 hd2 hdt2
      subst hc hd hdt hc2 hd2 hdt2
      have l1 := r.length
      have l2 := r2.length
      have l3 := ql.length
      have l4 := qb.length
      refine PySem.concat_meets ⟨_, e, rfl⟩ ⟨_, e', rfl⟩ noFill_list_add seq_list_add PySem.F.slot_list_add PySem.F.entry_list_add (PySem.F.args_list_add_2 _ _) (PyProof.Rows.list_addW l b its.toArray its2.toArray n n2 _ _ sl sl2 (by rw [List.size_toArray, List.size_toArray]; omega)) ⟨e, e', ?_⟩
      have ea : its.toArray ++ its2.toArray = (its ++ its2).toArray := by simp
      rw [ea]
      refine ⟨.ref _, _, I.lnew (t' := s.toks) (r.append r2) (by rw [List.length_append]; omega), rfl, ?_⟩
      have g := Grow.new0 (o := .lst (xs ++ zs)) sg I.fresh
      exact k _ G _ g ⟨_, _, rfl, I.fresh, sg.free I.fresh, upd_same, ql.append qb⟩
    · cases eo
  · split at eo
    · rename_i hz
      cases eo
      obtain ⟨l, xs, rfl, hl, ql, dl⟩ := e1.tuple sg
      obtain ⟨b, zs, rfl, hb, qb, db⟩ := e2.tuple sg
      have l3 := ql.length
      have l4 := qb.length
      refine op_catF pins s σ H _ _ v u Q I rx ry ⟨l, b, xs, zs, rfl, rfl, hl, hb, by omega, fun e0 => ?_, fun _ e0 => ?_, fun _ _ p ob np bo => ?_⟩
      · subst e0
        cases ql
        exact k _ G H (Grow.refl sg) db
      · subst e0
        cases qb
        refine k _ G H (Grow.refl sg) ?_
        rw [List.append_nil]
        exact dl
      · have g := Grow.new (o := .frz ob (.tup (xs ++ zs))) sg np bo
        exact k _ _ _ g (Dp.tup sqT_frz ((ql.append qb).mono g.gg))
    · cases eo
  · cases eo
theorem d_fdiv : OpR X (binaryOp .FloorDiv) (rOp X.K fdivD) := by
  intro pins s σ H x y v u Q I rx ry h
  obtain ⟨G, d1, d2, r, sg, e1, e2, eo, k⟩ := h
  unfold fdivD at eo
  split at eo
  · split at eo
    · rename_i c
      cases eo
      rw [e1.int] at rx
      rw [e2.int] at ry
      exact op_fdivW pins s σ H _ _ v u Q I rx ry ⟨_, _, rfl, rfl, (divOk_of c), k _ G H (Grow.refl sg) (Dp.int _)⟩
    · cases eo
  · cases eo
theorem d_mod : OpR X (binaryOp .Mod) (rOp X.K modD) := by
  intro pins s σ H x y v u Q I rx ry h
  obtain ⟨G, d1, d2, r, sg, e1, e2, eo, k⟩ := h
  unfold modD at eo
  split at eo
  · split at eo
    · rename_i c
      cases eo
      rw [e1.int] at rx
      rw [e2.int] at ry
      exact op_mod pins s σ H _ _ v u Q I rx ry ⟨_, _, rfl, rfl, c, k _ G H (Grow.refl sg) (Dp.int _)⟩
    · cases eo
  · cases eo
theorem d_pow : OpR X (binaryOp .Pow) (rOp X.K powD) := by
  intro pins s σ H x y v u Q I rx ry h
  obtain ⟨G, d1, d2, r, sg, e1, e2, eo, k⟩ := h
  unfold powD at eo
  split at eo
  · split at eo
    · rename_i c
      cases eo
      rw [e1.int] at rx
      rw [e2.int] at ry
      exact op_pow pins s σ H _ _ v u Q I rx ry ⟨_, _, rfl, rfl, c, k _ G H (Grow.refl sg) (Dp.int _)⟩
    · cases eo
  · cases eo
theorem d_gt : OpR X (compareOp .Gt) (rOp X.K gtD) := by
  intro pins s σ H x y v u Q I rx ry h
  obtain ⟨G, d1, d2, r, sg, e1, e2, eo, k⟩ := h
  unfold gtD at eo
  split at eo
  · cases eo
    rw [e1.int] at rx
    rw [e2.int] at ry
    exact op_gt pins s σ H _ _ v u Q I rx ry ⟨_, _, rfl, rfl, k _ G H (Grow.refl sg) (Dp.bl _)⟩
  · cases eo
theorem d_ge : OpR X (compareOp .GtE) (rOp X.K geD) := by
  intro pins s σ H x y v u Q I rx ry h
  obtain ⟨G, d1, d2, r, sg, e1, e2, eo, k⟩ := h
  unfold geD at eo
  split at eo
  · cases eo
    rw [e1.int] at rx
    rw [e2.int] at ry
    exact op_ge pins s σ H _ _ v u Q I rx ry ⟨_, _, rfl, rfl, k _ G H (Grow.refl sg) (Dp.bl _)⟩
  · cases eo
theorem d_eq (hu : X.A.units + 64 < cLine) : OpR X (compareOp .Eq) (rOp X.K eqD) := by
  intro pins s σ H x y v u Q I rx ry h
  obtain ⟨G, d1, d2, r, sg, e1, e2, eo, k⟩ := h
  unfold eqD at eo
  split at eo
  · rename_i c
    cases eo
    exact op_eqD hu pins s σ H x y v u Q I rx ry ⟨d1, d2, e1.dp sg, e2.dp sg, c.1, c.2, k _ G H (Grow.refl sg) (Dp.bl _)⟩
  · cases eo
theorem d_ne (hu : X.A.units + 64 < cLine) : OpR X (compareOp .NotEq) (rOp X.K neD) := by
  intro pins s σ H x y v u Q I rx ry h
  obtain ⟨G, d1, d2, r, sg, e1, e2, eo, k⟩ := h
  unfold neD at eo
  split at eo
  · rename_i c
    cases eo
    exact op_neD hu pins s σ H x y v u Q I rx ry ⟨d1, d2, e1.dp sg, e2.dp sg, c.1, c.2, k _ G H (Grow.refl sg) (Dp.bl _)⟩
  · cases eo
/-! × -/
theorem rep_len {α : Type} (a : List α) : ∀ n : Nat, (List.replicate n a).flatten.length = a.length * n
  | 0 => by simp
  | n + 1 => by
    rw [List.replicate_succ, List.flatten_cons, List.length_append, rep_len a n, Nat.mul_succ]
    omega
theorem list_mulW (l : Addr) (items : Array Value) (n : Nat) (dd : Option Addr) (sl : Array (Option Value)) (x : Int) (u : Tok) (hc0 : ¬(!Builtin.List.listFitsIndex x) = true) (hc1 : ¬items.size * x.toNat > (2 ^ 63 - 1) / 8) (hc2 : ¬Builtin.List.listTooLong (items.size * x.toNat) = true) :
    Meets (Builtin.«list.__mul__» ⟨[.ref l, .int x u], []⟩) (fun _ R s => s.heap.get? l = some { cls := .type "list", dict := dd, data := .seq items n, slots := sl } ∧ R (.ok (.ret (Value.ref s.heap.objs.size))) { s with heap := s.heap.push { cls := Value.type "list", data := Data.seq (List.foldl (fun x1 x2 => x1 ++ x2) #[] (List.replicate (if items.isEmpty = true then 0 else x.toNat) items)) }, toks := s.toks }) :=
  .of_wp fun prog w A R s h => by
    obtain ⟨hp, g, d, tk, os⟩ := s; obtain ⟨hl, h⟩ := h
    have hsz := AutoListH.joined_fits hc2
    wp_walk using wpAny_loadPart' hl; refine wpAny_ite_false (decide_eq_false (Nat.not_lt.mpr hsz)) ?_; wp_walk using wpAny_loadPart' hl; exact ⟨_, rfl, h⟩
theorem int_rmul_list (a : Int) (t : Tok) (l : Addr) (items : Array Value) (n : Nat) (dd : Option Addr) (sl : Array (Option Value)) :
    Meets (Builtin.«int.__rmul__» ⟨[.int a t, .ref l], []⟩) (fun _ R s => s.heap.get? l = some { cls := .type "list", dict := dd, data := .seq items n, slots := sl } ∧ R (.ok (.ret Value.notImplemented)) s) :=
  .of_wp fun prog w A R s h => by obtain ⟨hp, g, d, tk, os⟩ := s; obtain ⟨hl, h⟩ := h; wp_walk using wpAny_loadPart' hl; exact ⟨_, rfl, h⟩
theorem tuple_mulW1 (l : Addr) (items : Array Value) (n : Nat) (dd : Option Addr) (sl : Array (Option Value)) (x : Int) (u : Tok) (c0 : (decide (x < -(2 ^ 63)) || decide (x ≥ 2 ^ 63)) = false) (c1 : (items.isEmpty || x == 1) = true) :
    Meets (Builtin.«tuple.__mul__» ⟨[.ref l, .int x u], []⟩) (fun _ R s => s.heap.get? l = some { cls := .type "tuple", dict := dd, data := .seq items n, slots := sl } ∧ R (.ok (.ret (Value.ref l))) { s with toks := s.toks }) :=
  .of_wp fun prog w A R s h => by
    obtain ⟨hp, g, d, tk, os⟩ := s
    obtain ⟨hl, h⟩ := h
    have f1 := AutoSeq1.idx_int
    wp_walk using wpAny_loadPart' hl
    repeat (first
      | (refine wpAny_ite_false (decide_eq_false (by rw [c0]; exact Bool.false_ne_true)) ?_; wp_walk using wpAny_loadPart' hl)
      | (refine wpAny_ite_true (decide_eq_true c1) ?_; wp_walk using wpAny_loadPart' hl))
    exact ⟨_, rfl, h⟩
theorem tuple_mulW0 (l : Addr) (items : Array Value) (n : Nat) (dd : Option Addr) (sl : Array (Option Value)) (x : Int) (u : Tok) (c0 : (decide (x < -(2 ^ 63)) || decide (x ≥ 2 ^ 63)) = false) (c1 : (items.isEmpty || x == 1) = false) (c2 : (decide (x ≤ 0) || items.isEmpty) = true) :
    Meets (Builtin.«tuple.__mul__» ⟨[.ref l, .int x u], []⟩) (fun _ R s => s.heap.get? l = some { cls := .type "tuple", dict := dd, data := .seq items n, slots := sl } ∧
      R (.ok (.ret (Value.ref s.heap.objs.size))) { s with heap := s.heap.push { cls := Value.type "tuple", data := Data.seq #[] }, toks := s.toks }) :=
  .of_wp fun prog w A R s h => by
    obtain ⟨hp, g, d, tk, os⟩ := s
    obtain ⟨hl, h⟩ := h
    have f1 := AutoSeq1.idx_int
    wp_walk using wpAny_loadPart' hl
    repeat (first
      | (refine wpAny_ite_false (decide_eq_false (by rw [c0]; exact Bool.false_ne_true)) ?_; wp_walk using wpAny_loadPart' hl)
      | (refine wpAny_ite_false (decide_eq_false (by rw [c1]; exact Bool.false_ne_true)) ?_; wp_walk using wpAny_loadPart' hl)
      | (refine wpAny_ite_true (decide_eq_true c2) ?_; wp_walk using wpAny_loadPart' hl))
    exact ⟨_, rfl, h⟩
theorem d_mul : OpR X (binaryOp .Mult) (rOp X.K mulD) := by
  intro pins s σ H x y v u Q I rx ry h
  obtain ⟨G, d1, d2, r, sg, e1, e2, eo, k⟩ := h
  unfold mulD at eo
  split at eo
  · split at eo
    · rename_i c
      cases eo
      rw [e1.int] at rx
      rw [e2.int] at ry
      exact op_mulW pins s σ H _ _ v u Q I rx ry ⟨_, _, rfl, rfl, (mulOk_of c), k _ G H (Grow.refl sg) (Dp.int _)⟩
    · cases eo
  · split at eo
    · rename_i ds kk hz
      cases eo
      obtain ⟨l, xs, rfl, hl, ql⟩ := e1.list sg
      rw [e2.int] at ry
      cases rx
      obtain ⟨t, rfl⟩ := ry
      obtain ⟨its, r, p, z⟩ := I.list hl
      obtain ⟨⟨cls, dd, data, sl⟩, n, e, hc, hd, hdt⟩ := p
      simp only at hc hd hdt
      subst hc hd hdt
      obtain ⟨h1, h2, hz⟩ := hz
      have l1 := r.length
      have l2 := ql.length
      have hlen : its.toArray.size * kk.toNat ≤ sizeLine := by rw [List.size_toArray, ← l1, l2]; exact hz
      have hcap : ¬ its.toArray.size * kk.toNat > (2 ^ 63 - 1) / 8 := by
        have : (sizeLine : Nat) ≤ (2 ^ 63 - 1) / 8 := by decide
        omega
      have hfit : ¬ (!Builtin.List.listFitsIndex kk) = true := by
        rw [fitsIndex_both h1 h2]
        exact Bool.false_ne_true
      have hlong : ¬ Builtin.List.listTooLong (its.toArray.size * kk.toNat) = true := by
        rw [notLongL hlen]
        exact Bool.false_ne_true
      have hnew : List.foldl (fun x1 x2 => x1 ++ x2) #[] (List.replicate (if its.toArray.isEmpty = true then 0 else kk.toNat) its.toArray) = (List.replicate kk.toNat its).flatten.toArray := by
        rw [L2.size_rep]
        cases its with
        | nil => simp
        | cons a r' => rw [if_neg (by simp)]
      refine wpAny_binaryOp_repeat_ref (T := "list") (U := "int") (by decide) ⟨_, e, rfl⟩ (fun s' => typeIs_int s' kk t) noFill_list_mul F.fills_int_mul F.slot_int_rmul repeat_list F.slot_int_index.lookup
        (call_meets F.slot_int_rmul (typeIs_int s kk t) F.entry_int_rmul (F.args_int_rmul_2 _ _) (int_rmul_list kk t l its.toArray n _ sl)
          ⟨e, rfl, ⟨_, e, rfl⟩, call_meets F.slot_list_mul ⟨_, e, rfl⟩ F.entry_list_mul (F.args_list_mul_2 _ _) (list_mulW l its.toArray n _ sl kk t hfit hcap hlong) ⟨e, ?_⟩⟩)
      rw [hnew]
      refine ⟨.ref _, _, I.lnew (t' := s.toks) (r.rep kk.toNat) (by rw [rep_len, l2]; exact hz), rfl, ?_⟩
      have g := Grow.new0 (o := .lst (List.replicate kk.toNat xs).flatten) sg I.fresh
      exact k _ G _ g ⟨_, _, rfl, I.fresh, sg.free I.fresh, upd_same, ql.flat _⟩
    · cases eo
  · split at eo
    · rename_i ds kk hz
      cases eo
      obtain ⟨l, xs, rfl, hl, ql, dl⟩ := e1.tuple sg
      rw [e2.int] at ry
      cases rx
      obtain ⟨t, rfl⟩ := ry
      obtain ⟨its, r, ⟨⟨cls, dd, data, sl⟩, ho, hc, n, hd⟩, hs⟩ := I.tuple hl
      simp only at hc hd
      subst hc hd
      obtain ⟨h1, h2, hz⟩ := hz
      have l1 := r.length
      have l2 := ql.length
      have c0 : (decide (kk < -(2 ^ 63)) || decide (kk ≥ 2 ^ 63)) = false := by
        rw [decide_eq_false (by omega), decide_eq_false (by omega)] <;> rfl
      have flen : (List.replicate kk.toNat its).flatten.length ≤ sizeLine := by rw [rep_len, ← l1, l2]; exact hz
      have lei : its.length = ds.length := l1.symm.trans l2
      have hisz : its.toArray.size = its.length := List.size_toArray
      by_cases c1 : (its.toArray.isEmpty || kk == 1) = true
      · refine wpAny_binaryOp_repeat_ref (T := "tuple") (U := "int") (by decide) ⟨_, ho, rfl⟩ (fun s' => typeIs_int s' kk t) noFill_tuple_mul F.fills_int_mul F.slot_int_rmul repeat_tuple F.slot_int_index.lookup
          (call_meets F.slot_int_rmul (typeIs_int s kk t) F.entry_int_rmul (F.args_int_rmul_2 _ _) (int_rmul_tuple kk t l its.toArray n dd sl)
            ⟨ho, rfl, ⟨_, ho, rfl⟩, call_meets F.slot_tuple_mul ⟨_, ho, rfl⟩ F.entry_tuple_mul (F.args_tuple_mul_2 _ _) (tuple_mulW1 l its.toArray n dd sl kk t c0 c1) ⟨ho, ?_⟩⟩)
        refine ⟨.ref l, H, I, rfl, k _ G H (Grow.refl sg) ?_⟩
        have e : (List.replicate kk.toNat ds).flatten = ds := by
          rw [Bool.or_eq_true] at c1
          rcases c1 with c1 | c1
          · have : ds = [] := by
              have h3 : its = [] := by simpa using c1
              rw [h3] at lei
              exact List.eq_nil_of_length_eq_zero lei.symm
            rw [this]
            simp
          · have : kk = 1 := by simpa using c1
            rw [this]
            simp
        rw [e]
        exact dl
      · have c1' : (its.toArray.isEmpty || kk == 1) = false := by simpa using c1
        have hi : its.toArray.isEmpty = false := by
          rw [Bool.or_eq_false_iff] at c1'
          exact c1'.1
        have hk1 : kk ≠ 1 := by
          rw [Bool.or_eq_false_iff] at c1'
          simpa using c1'.2
        by_cases hk0 : kk ≤ 0
        · have c2 : (decide (kk ≤ 0) || its.toArray.isEmpty) = true := by rw [decide_eq_true hk0]; rfl
          refine wpAny_binaryOp_repeat_ref (T := "tuple") (U := "int") (by decide) ⟨_, ho, rfl⟩ (fun s' => typeIs_int s' kk t) noFill_tuple_mul F.fills_int_mul F.slot_int_rmul repeat_tuple F.slot_int_index.lookup
            (call_meets F.slot_int_rmul (typeIs_int s kk t) F.entry_int_rmul (F.args_int_rmul_2 _ _) (int_rmul_tuple kk t l its.toArray n dd sl)
              ⟨ho, rfl, ⟨_, ho, rfl⟩, call_meets F.slot_tuple_mul ⟨_, ho, rfl⟩ F.entry_tuple_mul (F.args_tuple_mul_2 _ _) (tuple_mulW0 l its.toArray n dd sl kk t c0 c1' c2) ⟨ho, ?_⟩⟩)
          have e : (List.replicate kk.toNat ds).flatten = [] := by
            have : kk.toNat = 0 := by omega
            rw [this]
            rfl
          rw [e] at k
          obtain ⟨ob, bo, fr, I9⟩ := lay_frz I (ys := []) (us := []) (arr := #[]) .nil rfl (Nat.zero_le _)
          have g := Grow.new (o := .frz ob (.tup [])) sg fr bo
          exact ⟨.ref _, _, I9, rfl, k _ _ _ g (Dp.tup sqT_frz .nil)⟩
        · have c2 : (decide (kk ≤ 0) || its.toArray.isEmpty) = false := by rw [decide_eq_false hk0, hi]; rfl
          have hp : its.toArray.size * kk.toNat ≤ sizeLine := by rw [hisz, lei]; exact hz
          have hcast : ((its.toArray.size : Nat) : Int) * kk = ((its.toArray.size * kk.toNat : Nat) : Int) := by
            rw [Int.natCast_mul, Int.toNat_of_nonneg (by omega)]
          have c3 : ¬ ((its.toArray.size : Nat) : Int) * kk > (2 ^ 63 - 1) / 8 := by
            rw [hcast]
            have := sizeLine_eq
            omega
          have c4 : Builtin.Tuple.tupleTooMany (((its.toArray.size : Nat) : Int) * kk) = false := by
            unfold Builtin.Tuple.tupleTooMany
            rw [hcast]
            exact decide_eq_false (by omega)
          refine wpAny_binaryOp_repeat_ref (T := "tuple") (U := "int") (by decide) ⟨_, ho, rfl⟩ (fun s' => typeIs_int s' kk t) noFill_tuple_mul F.fills_int_mul F.slot_int_rmul repeat_tuple F.slot_int_index.lookup
            (call_meets F.slot_int_rmul (typeIs_int s kk t) F.entry_int_rmul (F.args_int_rmul_2 _ _) (int_rmul_tuple kk t l its.toArray n dd sl)
              ⟨ho, rfl, ⟨_, ho, rfl⟩, call_meets F.slot_tuple_mul ⟨_, ho, rfl⟩ F.entry_tuple_mul (F.args_tuple_mul_2 _ _) (tuple_mulW l its.toArray n dd sl kk t c0 c1' c2 c3 c4 (by rw [L2.size_rep, List.size_toArray]; exact flen)) ⟨ho, ?_⟩⟩)
          rw [L2.size_rep]
          obtain ⟨ob, bo, fr, I9⟩ := lay_frz I (r.rep kk.toNat) rfl (by rw [rep_len, l2]; exact hz)
          have g := Grow.new (o := .frz ob (.tup (List.replicate kk.toNat xs).flatten)) sg fr bo
          exact ⟨.ref _, _, I9, rfl, k _ _ _ g (Dp.tup sqT_frz ((ql.flat _).mono g.gg))⟩
    · cases eo
  · cases eo
end
end Mir


namespace Mir
open PySem PySem.Spec PyProof.Rows L2
/-! ### subscripts -/
noncomputable def ixD : PyData → PyData → Option Hd
  | .list ds, .int i => (atI ds i).map .imm
  | .tuple ds, .int i => (atI ds i).map .imm
  | .str z, .int i => @ite _ (z.length ≤ sizeLine) (Classical.propDecidable _) ((atI z.cps.toList i).map fun c => .imm (.str ⟨#[c]⟩)) none
  | _, _ => none
theorem atI_dp {K : PySem.W.Frag} {G : Hp} {vs : List V} {ds : List PyData} {i : Int} {d : PyData} (q : DpAll K G vs ds) (e : atI ds i = some d) : ∃ v, atI vs i = some v ∧ Dp K G v d := by
  unfold atI at e ⊢
  rw [q.length]
  cases h : ixN ds.length i with
  | none => rw [h] at e; cases e
  | some j =>
    rw [h] at e
    obtain ⟨v, e1, q1⟩ := q.get (i := j) e
    exact ⟨v, e1, q1⟩
def cutD {α : Type} (xs : List α) (lo hi : Option Int) : List α := (xs.drop (HT.sIx xs.length 0 lo)).take (HT.sIx xs.length xs.length hi - HT.sIx xs.length 0 lo)
noncomputable def slD (d : PyData) (lo hi : Option Int) : Option Hd := match d with
  | .list ds => some (.fresh (cutD ds lo hi))
  | .tuple ds => some (.imm (.tuple (cutD ds lo hi)))
  | .str z => @ite _ (z.length ≤ sizeLine) (Classical.propDecidable _) (some (.imm (.str (cutS z lo hi)))) none
  | _ => none
section
variable {X : Cx}
theorem d_ix : IxR X (rOp X.K ixD) := by
  intro value slice pins s σ H x y v u Q I rx ry h hs
  obtain ⟨G, d1, d2, r, sg, e1, e2, eo, k⟩ := h
  unfold ixD at eo
  split at eo
  · rename_i ds i
    cases z : atI ds i with
    | none => rw [z] at eo; cases eo
    | some d =>
      rw [z] at eo
      cases eo
      obtain ⟨l, xs, rfl, hl, ql⟩ := e1.list sg
      obtain ⟨v', z', q'⟩ := atI_dp ql z
      exact ix_list value slice pins s σ H _ _ v u Q I rx ry ⟨l, xs, i, v', rfl, e2.int, hl, z', k _ G H (Grow.refl sg) q'⟩ hs
  · rename_i ds i
    cases z : atI ds i with
    | none => rw [z] at eo; cases eo
    | some d =>
      rw [z] at eo
      cases eo
      obtain ⟨l, xs, rfl, hl, ql, _⟩ := e1.tuple sg
      obtain ⟨v', z', q'⟩ := atI_dp ql z
      exact ix_tup value slice pins s σ H _ _ v u Q I rx ry ⟨l, xs, i, v', rfl, e2.int, hl, z', k _ G H (Grow.refl sg) q'⟩ hs
  · rename_i z i
    split at eo
    · rename_i hz
      cases zz : atI z.cps.toList i with
      | none => rw [zz] at eo; cases eo
      | some c =>
        rw [zz] at eo
        cases eo
        exact ix_str value slice pins s σ H _ _ v u Q I rx ry ⟨z, i, c, e1.str, e2.int, hz, zz, k _ G H (Grow.refl sg) (Dp.str _)⟩ hs
    · cases eo
  · cases eo
/-- what a slice's rule asks -/
def rSl (K : PySem.W.Frag) (op : PyData → Option Int → Option Int → Option Hd) : V → Option Int → Option Int → Hp → VK → Prop := fun x lo hi H Q => ∃ G d r, Same G H ∧ ER K G H x d ∧ op d lo hi = some r ∧ ∀ v G' H', Grow G H G' H' → NR K G' H H' v r → Q v H'
end
/-! parts of a slice -/
section
variable {K : PySem.W.Frag} {mg : Str → Option Value} {W : WX}
def PoP (K : PySem.W.Frag) (mg : Str → Option Value) (W : WX) (Fm : Hp) (B : Nat → Addr) (G : Hp) (σ : L2.St) (Q : Option Int → Hp → Prop) : Rs (Option Int) → Prop
  | .ok o ρ' => ∀ G' H', Same G G' → Rep K Fm B G' σ H' ρ' → Q o H'
  | .exc c ρ' => ∀ G' H', Same G G' → Rep K Fm B G' σ H' ρ' → Exw mg W c σ H'
  | .stuck => False
def tP (K : PySem.W.Frag) (mg : Str → Option Value) (W : WX) (f : Mo (Option Int)) : TO := fun σ H Q => ∃ Fm B G ρ, Rep K Fm B G σ H ρ ∧ PoP K mg W Fm B G σ Q (f ρ)
def pNo : Mo (Option Int) := fun ρ => .ok none ρ
def pSome (f : Mo Hd) : Mo (Option Int) := fun ρ => bnd (f ρ) fun h ρ1 => match dr h ρ1 with
  | some (.int i) => .ok (some i) ρ1
  | _ => .stuck
def eSl (op : PyData → Option Int → Option Int → Option Hd) (fe : Mo Hd) (fl fh : Mo (Option Int)) : Mo Hd := fun ρ => bnd (fe ρ) fun h ρ1 => bnd (fl ρ1) fun l ρ2 => bnd (fh ρ2) fun u ρ3 => match dr h.hold ρ3 with
  | some d => opt (op d l u) ρ3
  | none => .stuck
theorem PoP.bndH {Fm : Hp} {B : Nat → Addr} {G : Hp} {σ : L2.St} {f : Rs (Option Int)} {k : Option Int → En → Rs Hd} {Q : VK} (h : PoH K mg W Fm B G σ Q (bnd f k)) {Q1 : Option Int → Hp → Prop} (hk : ∀ b G1 H1 ρ1, Same G G1 → Rep K Fm B G1 σ H1 ρ1 → PoH K mg W Fm B G1 σ Q (k b ρ1) → Q1 b H1) : PoP K mg W Fm B G σ Q1 f := by
  cases f with
  | ok a ρ1 => exact fun G1 H1 s1 r1 => hk a G1 H1 ρ1 s1 r1 (PoH.up h s1)
  | exc c ρ1 => exact h
  | stuck => exact h
end
section
variable {X : Cx} {W : WX} {e : Expr} {fe : Mo Hd} {pos : Pos}
theorem PO.weak {e : Option Expr} {t t' : TO} (h : PO X e t) (i : ∀ σ H Q, t' σ H Q → t σ H Q) : PO X e t' := ⟨fun pins s σ H Q I hw => h.run pins s σ H Q I (i σ H Q hw)⟩
end
/-! ### [::-1] -/
section
variable {prog : Program} {w : World} {A : Around} {E : Value → Shared → Prop} {s : Shared}
end
section
variable {X : Cx} {W : WX} {e : Expr} {te : TE} {fe : Mo Hd} {pos : Pos}
def tRevA (K : PySem.W.Frag) (te : TE) : TE := fun σ H Q => te σ H fun x H1 => ∃ a xs, x = .ref a ∧ ((SqL K H1 a xs ∧ ∀ p, H1 p = none → Q (.ref p) (upd H1 p (.lst xs.reverse))) ∨ (SqT K H1 a xs ∧ ∀ p ob, H1 p = none → Bare ob → Q (.ref p) (upd H1 p (.frz ob (.tup xs.reverse)))))
def revD : PyData → Option Hd
  | .list ds => some (.fresh ds.reverse)
  | .tuple ds => some (.imm (.tuple ds.reverse))
  | _ => none
end
end Mir


namespace Mir
open PySem PySem.Spec PyProof.Rows L2
/-! ### built-ins -/
def intsOf : List PyData → Option (List Int)
  | [] => some []
  | .int i :: ds => (intsOf ds).map (i :: ·)
  | _ :: _ => none
def boolsOf : List PyData → Option (List Bool)
  | [] => some []
  | .bool i :: ds => (boolsOf ds).map (i :: ·)
  | _ :: _ => none
theorem intsOf_map (ns : List Int) : intsOf (ns.map .int) = some ns := by
  induction ns with
  | nil => rfl
  | cons a b ih => simp only [List.map_cons, intsOf, ih, Option.map_some]
theorem intsOf_eq : ∀ {ds : List PyData} {ns : List Int}, intsOf ds = some ns → ds = ns.map .int
  | [], _, e => by cases e; rfl
  | d :: ds, ns, e => by
    cases d with
    | int i =>
      simp only [intsOf] at e
      cases z : intsOf ds with
      | none => rw [z] at e; cases e
      | some ms => rw [z] at e; cases e; rw [intsOf_eq z]; rfl
    | _ => simp [intsOf] at e
noncomputable def lenD : List PyData → Option Hd
  | [.list ds] => some (.imm (.int ds.length))
  | [.tuple ds] => some (.imm (.int ds.length))
  | [.str z] => @ite _ (z.length ≤ sizeLine) (Classical.propDecidable _) (some (.imm (.int z.length))) none
  | _ => none
def listD : List PyData → Option Hd
  | [.list ds] => some (.fresh ds)
  | [.tuple ds] => some (.fresh ds)
  | _ => none
def tupleD : List PyData → Option Hd
  | [.list ds] => some (.imm (.tuple ds))
  | [.tuple ds] => some (.imm (.tuple ds))
  | _ => none
def sumD : List PyData → Option Hd
  | [.list ds] => (intsOf ds).map fun ns => .imm (.int ns.sum)
  | _ => none
def allD : List PyData → Option Hd
  | [.list ds] => (boolsOf ds).map fun bs => .imm (.bool (bs.all id))
  | _ => none
def anyD : List PyData → Option Hd
  | [.list ds] => (boolsOf ds).map fun bs => .imm (.bool (bs.any id))
  | _ => none
def max2D : List PyData → Option Hd
  | [.int i, .int j] => some (.imm (.int (if j > i then j else i)))
  | _ => none
def min2D : List PyData → Option Hd
  | [.int i, .int j] => some (.imm (.int (if j < i then j else i)))
  | _ => none
def intD : List PyData → Option Hd
  | [.int i] => some (.imm (.int i))
  | [.bool b] => some (.imm (.int (if b then 1 else 0)))
  | [.str a] => if a.length ≤ 640 then (PySem.intText? a).map fun n => .imm (.int n) else none
  | _ => none
def strD : List PyData → Option Hd
  | [.int i] => if i.natAbs.log2 < 1920 then some (.imm (.str (toString i))) else none
  | _ => none
def absD : List PyData → Option Hd
  | [.int i] => some (.imm (.int (if i < 0 then -i else i)))
  | _ => none
section
variable {X : Cx}
theorem ers1 {K : PySem.W.Frag} {G H : Hp} {vs : List V} {d : PyData} (h : ERs K G H vs [d]) : ∃ v, vs = [v] ∧ ER K G H v d := by
  cases h with
  | cons a b => cases b; exact ⟨_, rfl, a⟩
theorem d_len : CallR X (.builtin "len") (rCl X.K lenD) := by
  intro pins s σ H xs us Q I rs h
  obtain ⟨G, ds, r, sg, ee, eo, k⟩ := h
  unfold lenD at eo
  split at eo
  · cases eo
    obtain ⟨v, rfl, e⟩ := ers1 ee
    obtain ⟨l, ys, rfl, hl, ql⟩ := e.list sg
    exact call_len_seq pins s σ H _ us Q I rs ⟨l, ys, rfl, .inl hl, by rw [ql.length]; exact k _ G H (Grow.refl sg) (Dp.int _)⟩
  · cases eo
    obtain ⟨v, rfl, e⟩ := ers1 ee
    obtain ⟨l, ys, rfl, hl, ql, _⟩ := e.tuple sg
    exact call_len_seq pins s σ H _ us Q I rs ⟨l, ys, rfl, .inr hl, by rw [ql.length]; exact k _ G H (Grow.refl sg) (Dp.int _)⟩
  · split at eo
    · rename_i hz
      cases eo
      obtain ⟨v, rfl, e⟩ := ers1 ee
      exact call_len_str pins s σ H _ us Q I rs ⟨_, by rw [e.str], hz, k _ G H (Grow.refl sg) (Dp.int _)⟩
    · cases eo
  · cases eo
theorem d_tuple : CallR X (.type "tuple") (rCl X.K tupleD) := by
  intro pins s σ H xs us Q I rs h
  obtain ⟨G, ds, r, sg, ee, eo, k⟩ := h
  unfold tupleD at eo
  split at eo
  · cases eo
    obtain ⟨v, rfl, e⟩ := ers1 ee
    obtain ⟨l, ys, rfl, hl, ql⟩ := e.list sg
    refine call_tupleF pins s σ H _ us Q I rs ⟨l, ys, rfl, .inl ⟨hl, fun p ob np bo => ?_⟩⟩
    have g := Grow.new (o := .frz ob (.tup ys)) sg np bo
    exact k _ _ _ g (Dp.tup sqT_frz (ql.mono g.gg))
  · cases eo
    obtain ⟨v, rfl, e⟩ := ers1 ee
    obtain ⟨l, ys, rfl, hl, ql, dl⟩ := e.tuple sg
    exact call_tuple_of pins s σ H _ us Q I rs ⟨l, ys, rfl, .inr ⟨hl, k _ G H (Grow.refl sg) dl⟩⟩
  · cases eo
theorem d_sum (hc : X.calm = true) : CallR X (.builtin "sum") (rCl X.K sumD) := by
  intro pins s σ H xs us Q I rs h
  obtain ⟨G, ds, r, sg, ee, eo, k⟩ := h
  unfold sumD at eo
  split at eo
  · rename_i ds
    cases z : intsOf ds with
    | none => rw [z] at eo; cases eo
    | some ns =>
      rw [z] at eo
      cases eo
      obtain ⟨v, rfl, e⟩ := ers1 ee
      obtain ⟨l, ys, rfl, hl, ql⟩ := e.list sg
      rw [intsOf_eq z] at ql
      rw [ql.ints_of] at hl
      exact cr_sum hc pins s σ H _ us Q I rs ⟨l, ns, rfl, hl, k _ G H (Grow.refl sg) (Dp.int _)⟩
  · cases eo
end
/-! ### isinstance(e, T) -/
def isiD (T : String) (d : PyData) : Option Bool := match T, d with
  | "int", .int _ => some true
  | "int", .bool _ => some true
  | "int", _ => some false
  | "bool", .bool _ => some true
  | "bool", _ => some false
  | "tuple", .tuple _ => some true
  | "tuple", _ => some false
  | "list", .list _ => some true
  | "list", _ => some false
  | "str", .str _ => some true
  | "str", _ => some false
  | _, _ => none
def eIsi (T : String) (f : Mo Hd) : Mo Hd := fun ρ => bnd (f ρ) fun h ρ1 => match dr h.hold ρ1 with
  | some d => (match isiD T d with
    | some b => .ok (.imm (.bool b)) ρ1
    | none => .stuck)
  | none => .stuck
section
variable {X : Cx} {W : WX} {e : Expr} {fe : Mo Hd} {pos : Pos}
def rIsD (K : PySem.W.Frag) (T : String) : List V → Hp → VK → Prop := fun xs H Q => ∃ G d x b, xs = [x, .ty T] ∧ Same G H ∧ ER K G H x d ∧ isiD T d = some b ∧ Q (.bl b) H
end
/-! ### is, in -/
def isD (a b : PyData) : Option Hd := match a, b with
  | .none, .none => iBool true
  | _, .none => iBool false
  | .bool x, .bool y => iBool (x == y)
  | .none, .bool _ => iBool false
  | .int _, .bool _ => iBool false
  | .tuple _, .bool _ => iBool false
  | .list _, .bool _ => iBool false
  | .str _, .bool _ => iBool false
  | _, _ => none
def isNotD (a b : PyData) : Option Hd := match a, b with
  | .none, .none => iBool false
  | _, .none => iBool true
  | .bool x, .bool y => iBool (!(x == y))
  | .none, .bool _ => iBool true
  | .int _, .bool _ => iBool true
  | .tuple _, .bool _ => iBool true
  | .list _, .bool _ => iBool true
  | .str _, .bool _ => iBool true
  | _, _ => none
def inD (a b : PyData) : Option Hd := match b with
  | .list ds => if SeqAt.shaped a = true ∧ SeqAt.shaped (.list ds) = true then iBool (ds.any fun z => PyData.eqv z a) else none
  | .str y => (match a with
    | .str x => iBool (!(Builtin.Str.occurrences y x 0 y.length 1).isEmpty)
    | _ => none)
  | _ => none
def notInD (a b : PyData) : Option Hd := match b with
  | .list ds => if SeqAt.shaped a = true ∧ SeqAt.shaped (.list ds) = true then iBool (!ds.any fun z => PyData.eqv z a) else none
  | .str y => (match a with
    | .str x => iBool (!(!(Builtin.Str.occurrences y x 0 y.length 1).isEmpty))
    | _ => none)
  | _ => none
section
variable {X : Cx}
end
end Mir


namespace Mir
open PySem PySem.Spec PyProof.Rows L2
/-! ### own lists are turned -/
/-- what an own list is turned to -/
def wrS (ρ : En) (j : Nat) (f : List PyData → Option (List PyData)) : So := match ρ[j]? with
  | some (.own ds) => (match f ds with
    | some es => .nx (ρ.set j (.own es))
    | none => .stuck)
  | some (.arg ds) => (match f ds with
    | some es => .nx (ρ.set j (.arg es))
    | none => .stuck)
  | _ => .stuck
noncomputable def sApp (j : Nat) (fe : Mo Hd) : En → So := fun ρ => if isLst ρ[j]? = true then bndS (fe ρ) fun h ρ1 => bndS (esc h ρ1) fun d ρ2 => wrS ρ2 j fun ds => @ite _ (ds.length < sizeLine) (Classical.propDecidable _) (some (ds ++ [d])) none
  else .stuck
noncomputable def sExt (j : Nat) (fe : Mo Hd) : En → So := fun ρ => if isLst ρ[j]? = true then bndS (fe ρ) fun h ρ1 => bndS (esc h ρ1) fun d ρ2 => match d with
    | .list es => wrS ρ2 j fun ds => @ite _ (ds.length + es.length ≤ sizeLine) (Classical.propDecidable _) (some (ds ++ es)) none
    | _ => .stuck
  else .stuck
def sSub (j : Nat) (fi fe : Mo Hd) : En → So := fun ρ => bndS (fe ρ) fun h ρ1 => bndS (esc h ρ1) fun d ρ2 => if isLst ρ2[j]? = true then bndS (fi ρ2) fun hi ρ3 => match dr hi ρ3 with
    | some (.int k) => wrS ρ3 j fun ds => (ixN ds.length k).map fun m => ds.set m d
    | _ => .stuck
  else .stuck
def ePop (j : Nat) : Mo Hd := fun ρ => match ρ[j]? with
  | some (.own ds) => (match ds[ds.length - 1]? with
    | some d => .ok (.imm d) (ρ.set j (.own ds.dropLast))
    | none => .stuck)
  | some (.arg ds) => (match ds[ds.length - 1]? with
    | some d => .ok (.imm d) (ρ.set j (.arg ds.dropLast))
    | none => .stuck)
  | _ => .stuck
section
variable {X : Cx} {W : WX} {e : Expr} {fe fi : Mo Hd} {pos : Pos}
theorem use_wr {Fm : Hp} {B : Nat → Addr} {G H : Hp} {σ : L2.St} {ρ : En} {D : Ends} {j : Nat} {f : List PyData → Option (List PyData)} (r : Rep X.K Fm B G σ H ρ) (p : PoS X.K X.mg W Fm B G D (wrS ρ j f)) {v : V} (hv : σ[j]? = some (some v)) :
    ∃ a ds es vs, v = .ref a ∧ f ds = some es ∧ H a = some (.lst vs) ∧ DpAll X.K G vs ds ∧ ∀ ws, DpAll X.K G ws es → D.nx σ (upd H a (.lst ws)) := by
  unfold wrS at p
  cases z : ρ[j]? with
  | none => rw [z] at p; exact p.elim
  | some s =>
    rw [z] at p
    cases s with
    | unset => exact p.elim
    | val d => exact p.elim
    | own ds =>
      cases z2 : f ds with
      | none => simp only [z2] at p; exact p.elim
      | some es =>
        simp only [z2] at p
        obtain ⟨a, e1, c1, c2, vs, c3, c4⟩ := r.at z
        rw [hv] at e1
        cases e1
        exact ⟨a, ds, es, vs, rfl, z2, c3, c4, fun ws q => p G σ _ (Same.refl _) (r.write hv (.inl ⟨z, rfl⟩) q)⟩
    | exn c => exact p.elim
    | lck m => exact p.elim
    | bx m => exact p.elim
    | bxa m => exact p.elim
    | dic m => exact p.elim
    | darg m => exact p.elim
    | arg ds =>
      cases z2 : f ds with
      | none => simp only [z2] at p; exact p.elim
      | some es =>
        simp only [z2] at p
        obtain ⟨e1, c1, c2, vs, c3, c4⟩ := r.at z
        rw [hv] at e1
        cases e1
        exact ⟨_, ds, es, vs, rfl, z2, c3, c4, fun ws q => p G σ _ (Same.refl _) (r.write hv (.inr ⟨z, rfl⟩) q)⟩
theorem cell_ty {K : PySem.W.Frag} {Fm : Hp} {B : Nat → Addr} {G H : Hp} {σ : L2.St} {ρ : En} {j : Nat} (r : Rep K Fm B G σ H ρ) (h : isLst ρ[j]? = true) : ∃ v, σ[j]? = some (some v) ∧ tyV K "list" v H := by
  obtain ⟨p, ds, e, _, _, vs, c, _⟩ := r.cellAt h
  exact ⟨_, e, .inl ⟨rfl, vs, .of c⟩⟩
theorem list_extendW (l : Addr) (items : Array Value) (n : Nat) (b : Addr) (items2 : Array Value) (n2 : Nat) (dd2 : Option Addr) (sl2 : Array (Option Value)) (hc0 : ¬(!items.isEmpty && Builtin.List.listTooLong (items.size + items2.size)) = true) (hc1 : items.size ≤ sizeLine) (hs2 : items.size + items2.size ≤ sizeLine + 1) :
    Meets (Builtin.«list.extend» ⟨[.ref l, .ref b], []⟩) (fun _ R s => s.heap.get? l = some { cls := .type "list", dict := none, data := .seq items n, slots := #[] } ∧ s.heap.get? b = some { cls := .type "list", dict := dd2, data := .seq items2 n2, slots := sl2 } ∧ R (.ok (.ret Value.none)) { s with heap := s.heap.update l (Obj.mapSeq fun x => x ++ items2), toks := s.toks }) :=
  .of_wp fun prog w A R s h => by
    obtain ⟨hp, g, d, tk, os⟩ := s; obtain ⟨hl, hb, h⟩ := h; have f1 := AutoSeq1.idx_int; have f2 := AutoSeq1.sub_tuple_tuple; have f3 := AutoSeq1.sub_list_list; have f4 := AutoSeq1.sub_tuple_list; have f5 := AutoSeq1.sub_list_tuple;
    have hz' : (items ++ items2).size ≤ sizeLine + 1 := by rw [Array.size_append]; exact hs2
    wp_walk using (wpAny_updateSeq hl rfl (hz := hc1) (_hz' := hz')), wpAny_loadPart' hl, wpAny_loadPart' hb; exact ⟨_, rfl, h⟩
def rExtend2 (K : PySem.W.Frag) : V → List V → Hp → VK → Prop := fun x vs H Q => ∃ l b xs zs, x = .ref l ∧ vs = [.ref b] ∧ H l = some (.lst xs) ∧ SqL K H b zs ∧ xs.length + zs.length ≤ sizeLine ∧ Q .non (upd H l (.lst (xs ++ zs)))
theorem mt_extend2 : MtM X "list.extend" (rExtend2 X.K) := by
  intro pins s σ H x vs v us Q I rx rv h
  obtain ⟨l, b, xs, zs, rfl, rfl, hH, hB, hz, q⟩ := h
  cases rx
  obtain ⟨u, rfl, ru⟩ := rv.one
  cases ru
  obtain ⟨z, its, n, r, hl, e⟩ := I.lstM hH
  obtain ⟨its2, r2, p2, z2⟩ := I.list hB
  obtain ⟨⟨cls, dd, data, sl⟩, n2, e2, hc, hd, hdt⟩ := p2
  simp only at hc hd hdt
  subst hc hd hdt
  have hl2 := r2.length
  have hsz : its.toArray.size + its2.toArray.size ≤ sizeLine := by rw [List.size_toArray, List.size_toArray]; omega
  have hlong : ¬ (!its.toArray.isEmpty && Builtin.List.listTooLong (its.toArray.size + its2.toArray.size)) = true := by
    rw [notLongL hsz, Bool.and_false]
    exact Bool.false_ne_true
  refine call_meets F.slot_list_extend ⟨_, e, rfl⟩ F.entry_list_extend (F.args_list_extend_2 _ _)
    (list_extendW l its.toArray n b its2.toArray n2 _ sl hlong (by rw [List.size_toArray]; omega) (by omega)) ⟨e, e2, ?_⟩
  refine ⟨.non, _, I.lset (its' := its ++ its2) hH e (by simp) (r.append r2) ?_, rfl, q⟩
  rw [List.length_append]
  omega
theorem rs_extend (j : Nat) {x : Str} {px apos cpos : Pos} (he : PE X e (tH X.K X.mg W fe)) (hN : X.N[j]? = some x := by rfl) (hv : Vis X.env.scope x := by first | exact Or.inl rfl | exact Or.inr (Or.inl rfl) | exact Or.inr (Or.inr rfl)) (hd : (x == ("__debug__" : Str)) = false := by decide)
    (hcd : (x == ("__classdict__" : Str)) = false := by decide)
    (hbase : attributeBase (.Name x px) "extend" X.env (eval (.Name x px) X.env) = eval (.Name x px) X.env := by rfl)
    (hfew : ((backTo cpos (starEach [e] X.env)).all (fun x => !x.1) && (backToKw cpos (keywordEach [] X.env)).all (fun x => x.1.isSome)
      && decide ([e].length + ([] : List Keyword).length + (if ([] : List Keyword).isEmpty then 0 else 1) < 30)) = true := by rfl)
    (hline : (apos.endLine == cpos.line) = true := by rfl) (hs : starEach [e] X.env = (false, eval e X.env) :: starEach [] X.env := by rfl)
    (hsw : swapsWith (.Call (.Attribute (.Name x px) "extend" apos) [e] [] cpos) none pos.line X.env = pure false := by rfl) :
    PS X (.Expr (.Call (.Attribute (.Name x px) "extend" apos) [e] [] cpos) pos) (tS X.K X.mg W (sExt j fe)) :=
  PS.weak (ps_expr (pe_bm PySem.F.plainAttrs_list PySem.F.slot_list_extend PySem.F.type_list_extend mt_extend2 (pe_var hN hv hd hcd) (pa_cons he pa_nil hs) hbase hfew hline hs (by rfl)) hsw) fun D σ H h => by
    obtain ⟨Fm, B, G, ρ, r0, p⟩ := h
    unfold sExt at p
    by_cases hc : isLst ρ[j]? = true
    · rw [if_pos hc] at p
      obtain ⟨v, ev, ty⟩ := cell_ty r0 hc
      refine ⟨v, ev, ty, Fm, B, G, ρ, r0, PoH.bndS p fun y h1 G1 H1 ρ1 s1 r1 q1 p1 => ?_⟩
      cases z : esc h1 ρ1 with
      | exc c ρ2 => exact (esc_ne z).elim
      | stuck => rw [z] at p1; exact p1.elim
      | ok d ρ2 =>
        rw [z] at p1
        obtain ⟨G2, s2, r2, q2⟩ := r1.esc q1 z
        simp only [bndS] at p1
        cases q2 with
        | lst hs ha =>
          obtain ⟨a, ds, es, vs, rfl, ef, ea, qa, k⟩ := use_wr r2 (PoS.up p1 s2) ev
          split at ef
          · rename_i hz
            cases ef
            exact ⟨a, _, vs, _, rfl, rfl, ea, r2.gh.seq hs, by rw [qa.length, ha.length]; exact hz, k _ (qa.append ha)⟩
          · cases ef
        | _ => exact p1.elim
    · rw [if_neg hc] at p
      exact p.elim
theorem rs_sub (j : Nat) {x : Str} {px tpos : Pos} {i : Expr} (he : PE X e (tH X.K X.mg W fe)) (hi : PE X i (tH X.K X.mg W fi)) (hN : X.N[j]? = some x := by rfl) (hv : Vis X.env.scope x := by first | exact Or.inl rfl | exact Or.inr (Or.inl rfl) | exact Or.inr (Or.inr rfl)) (hd : (x == ("__debug__" : Str)) = false := by decide)
    (hcd : (x == ("__classdict__" : Str)) = false := by decide)
    (ha : ∀ v, assign (.Subscript (.Name x px) i tpos) X.env v = (do
      let ov ← holding [v] (eval (.Name x px) X.env)
      let iv ← holding [v, ov] (eval i X.env)
      standAt tpos
      holding [v, ov, iv] (setItem ov iv v)
      release [v, ov, iv] []) := by intro _; rfl)
    (hs : swapsWithSole [.Subscript (.Name x px) i tpos] e pos.line X.env = pure false := by rfl) (hw : swappedStores [.Subscript (.Name x px) i tpos] e X.env = pure none := by rfl)
    (h1 : (assignEach [.Subscript (.Name x px) i tpos] X.env).map (·.2) = [assign (.Subscript (.Name x px) i tpos) X.env] := by rfl) :
    PS X (.Assign [.Subscript (.Name x px) i tpos] e pos) (tS X.K X.mg W (sSub j fi fe)) :=
  PS.weak (ps_asg he (pg_sub (pe_var hN hv hd hcd) hi set_list ha) hs hw h1) fun D σ H h => by
    obtain ⟨Fm, B, G, ρ, r0, p⟩ := h
    refine ⟨Fm, B, G, ρ, r0, PoH.bndS p fun y h1 G1 H1 ρ1 s1 r1 q1 p1 => ?_⟩
    cases z : esc h1 ρ1 with
    | exc c ρ2 => exact (esc_ne z).elim
    | stuck => rw [z] at p1; exact p1.elim
    | ok d ρ2 =>
      rw [z] at p1
      obtain ⟨G2, s2, r2, q2⟩ := r1.esc q1 z
      simp only [bndS] at p1
      replace p1 := PoS.up p1 s2
      by_cases hc : isLst ρ2[j]? = true
      · rw [if_pos hc] at p1
        obtain ⟨v, ev, ty⟩ := cell_ty r2 hc
        refine ⟨v, ev, Fm, B, G2, ρ2, r2, PoH.bndS p1 fun iv hi G3 H3 ρ3 s3 r3 q3 p3 => ?_⟩
        split at p3
        · rename_i k zi
          obtain ⟨a, ds, es, vs, rfl, ef, ea, qa, kk⟩ := use_wr r3 p3 ev
          cases zm : ixN ds.length k with
          | none => rw [zm] at ef; cases ef
          | some m =>
            rw [zm] at ef
            cases ef
            exact ⟨a, vs, k, m, rfl, (r3.er q3 zi).int, ea, by rw [qa.length]; exact zm, kk _ (qa.set m (q2.mono s3))⟩
        · exact p3.elim
      · rw [if_neg hc] at p1
        exact p1.elim
end
end Mir
namespace Mir
open PySem PySem.Spec PyProof.Rows L2
section
variable {X : Cx} {W : WX} {kk k : Nat} {f : Addr} {fd : FuncData} {ps : List Str} {x : Str} {p pos : Pos} {e : Expr} {es : List Expr} {fa : Mo (List Hd)} {m : List Slot → So} {n : Nat}
theorem re_fn (C : Fn X.prog X.w X.K X.mg X.base kk x ps m f fd) (hr : Room k X.A) (tk : Takes X W) (ha : PA X (e :: es) (tA X.K X.mg W fa)) (hk : kk ≤ k := by decide) (hn : ps.length = n := by rfl)
    (hg : Gl X x := by rfl) (hdb : (x == ("__debug__" : Str)) = false := by decide) (he : starEach (e :: es) X.env = (false, eval e X.env) :: starEach es X.env := by rfl) (hpl : (backTo pos (starEach es X.env)).any (·.1) = false := by rfl) :
    PE X (.Call (.Name x p) (e :: es) [] pos) (tH X.K X.mg W (eCall n m fa)) := by
  subst hn
  exact re_call C.ok (hr.mono hk) C.mg C.kp C.bd tk ha hg hdb he hpl
theorem re_fnR (i : Nat) (C : Fn X.prog X.w X.K X.mg X.base kk x ps m f fd) (hr : Room k X.A) (tk : Takes X W) (ha : PA X (e :: es) (tA X.K X.mg W fa)) (hk : kk ≤ k := by decide) (hn : ps.length = n := by rfl)
    (hg : Gl X x := by rfl) (hdb : (x == ("__debug__" : Str)) = false := by decide) (he : starEach (e :: es) X.env = (false, eval e X.env) :: starEach es X.env := by rfl) (hpl : (backTo pos (starEach es X.env)).any (·.1) = false := by rfl) :
    PE X (.Call (.Name x p) (e :: es) [] pos) (tH X.K X.mg W (eCallR n i m fa)) := by
  subst hn
  exact re_callR i C.ok (hr.mono hk) C.mg C.kp C.bd tk ha hg hdb he hpl
end
/-- what is known of an exception class of the text -/
structure ExcF (K : PySem.W.Frag) (mg : Str → Option Value) (x : Str) (C : Addr) : Prop where
  gP : mg x = some (.ref C)
  xP : PySem.W.excIn K C [.type "ValueError", .type "Exception", .type "BaseException", .type "object"] "ValueError.__new__" = true
  kP : PySem.W.keepIn K (.ref C) = true
  bP : PySem.W.subIn K (.ref C) (.type "BaseException") = some true
  tP : PySem.W.typeIn K (.ref C) = some (.type "type")
/-! ### slots that are read no more -/
def killE : List Nat → En → En
  | [], ρ => ρ
  | j :: l, ρ => killE l (ρ.set j .unset)
def sKl (l : List Nat) (f : En → So) : En → So := fun ρ => match f ρ with
  | .nx ρ1 => .nx (killE l ρ1)
  | .ct ρ1 => .ct (killE l ρ1)
  | .bk ρ1 => .bk (killE l ρ1)
  | o => o
section
variable {K : PySem.W.Frag} {Fm : Hp} {B : Nat → Addr} {G H : Hp} {σ : L2.St}
theorem Rep.kill : ∀ (l : List Nat) {ρ : En}, Rep K Fm B G σ H ρ → Rep K Fm B G σ H (killE l ρ)
  | [], _, r => r
  | j :: l, _, r => Rep.kill l (r.unset j)
theorem rs_kill {X : Cx} {W : WX} {st : Stmt} {f : En → So} (l : List Nat) (h : PS X st (tS X.K X.mg W f)) : PS X st (tS X.K X.mg W (sKl l f)) := PS.weak h fun D σ H h => by
  obtain ⟨Fm, B, G, ρ, r0, p⟩ := h
  refine ⟨Fm, B, G, ρ, r0, ?_⟩
  simp only [sKl] at p
  cases e : f ρ with
  | nx ρ1 => rw [e] at p; exact fun G' σ' H' s r => p G' σ' H' s (r.kill l)
  | ct ρ1 => rw [e] at p; exact fun G' σ' H' s r => p G' σ' H' s (r.kill l)
  | bk ρ1 => rw [e] at p; exact fun G' σ' H' s r => p G' σ' H' s (r.kill l)
  | rt h ρ1 => rw [e] at p; exact p
  | exc c ρ1 => rw [e] at p; exact p
  | stuck => rw [e] at p; exact p
end
end Mir


namespace Mir
open PySem PySem.Spec PyProof.Rows L2
/-- the law's own promise -/
def spLaw (K : PySem.W.Frag) : Sp := fun vs H Q _ => ∃ (a : Addr) (ns : List Int), vs = [.ref a] ∧ SqL K H a (ns.map V.int) ∧ ns.length ≤ 63 ∧ ∀ H', Q (.bl true) H'
theorem law_end {P : Program} {w : World} {K : PySem.W.Frag} {mg : Str → Option Value} {base : Heap} {k : Nat} {f : Addr} {fd : FuncData} {x : Str} {m : List Slot → So} (F : FnOk P w K mg base (L2.CX P w) k f fd [x] (spF K mg 1 m))
    (h : ∀ ns : List Int, ns.length ≤ 63 → ∃ as, m [.val (.list (ns.map .int))] = .rt (.imm (.bool true)) as) : FnOk P w K mg base (L2.CX P w) k f fd [x] (spLaw K) := by
  refine F.imp fun vs H Q E hs => ?_
  obtain ⟨a, ns, rfl, hl, hn, q⟩ := hs
  obtain ⟨as, e⟩ := h ns hn
  have one : ∀ o : HO, H a = some o → OkO o → Same (upd (fun _ => none) a o) H ∧ Cln (a + 1) (upd (fun _ => none) a o) := fun o eo ho => by
    refine ⟨fun p x z => ?_, fun p x z => ?_⟩
    rotate_left
    · by_cases hp : p = a
      · subst hp
        rw [upd_same] at z
        cases z
        exact ⟨ho, fun _ => rfl⟩
      · rw [upd_ne hp] at z
        cases z
    by_cases hp : p = a
    · subst hp
      rw [upd_same] at z
      rw [← z]
      exact eo
    · rw [upd_ne hp] at z
      cases z
  obtain ⟨G, sG, cG, hl⟩ : ∃ G, Same G H ∧ Cln (a + 1) G ∧ SqL K G a (ns.map V.int) := by
    rcases hl with (hl | ⟨o, hl⟩) | hl
    · exact ⟨_, (one _ hl True.intro).1, (one _ hl True.intro).2, .inl (.inl upd_same)⟩
    · exact ⟨_, (one _ hl True.intro).1, (one _ hl True.intro).2, .inl (.inr ⟨o, upd_same⟩)⟩
    · exact ⟨fun _ => none, (fun _ _ z => by cases z), (fun _ _ z => by cases z), .inr hl⟩
  refine ⟨rfl, fun _ => none, fun _ => a + 1, G, [.val (.list (ns.map .int))], ⟨sG, fun p o z => (by cases z), rfl, fun i s z => ?_, fun i j p _ hi => ?_, cG, NB.non fun i => by cases i <;> rfl⟩, ?_⟩
  · cases i with
    | zero =>
      cases z
      exact ⟨_, rfl, .lst hl (DpAll.ints ns)⟩
    | succ i => simp at z
  · cases i with
    | zero => cases hi
    | succ i => simp [isCell] at hi
  · rw [e]
    intro v G' σ' H' _ _ hd
    cases hd
    exact q H'
theorem noCX {P : Program} {w : World} {H : Hp} {s : Shared} {e : Value} {s' : Shared} (h : L2.CX P w [] H s (fun _ _ _ => False) e s') : False := by
  obtain ⟨_, _, _, _, _, _, _, _, _, _, _, _, z⟩ := h
  exact z
end Mir


set_option maxHeartbeats 1000000
/-! ### a caught exception that stays -/
namespace Mir
open PySem PySem.Spec PyProof.Rows L2
section
variable {X : Cx} {pins : List (Addr × Obj)} {σ : L2.St} {H : Hp} {s : Shared}
/-- a pinned exception is taken among the things -/
theorem track_exc {a : Addr} {oe : Obj} {cls : Value} {d : Option Addr} {vs : Array Value} {pn : List (Addr × Obj)} {xe : Value → Shared → Prop} (ok : X.Ok)
    (J : Inv (X.tr ((a, oe) :: (X.pn ++ pins)) xe) [] σ H s) (hz : Zc cls d oe) (hv : oe.data = .fields vs) (hnew : X.s_0.heap.get? a = none) (hpins : ∀ p ∈ X.pn ++ pins, p.1 ≠ a) : Inv X pins σ (upd H a (exT cls d a)) s := by
  obtain ⟨hget, hna, hnl, hnf, hnc⟩ := J.pin (a, oe) (by simp)
  have same : ∀ {b : Addr} {o : HO}, H b = some o → upd H a (exT cls d a) b = some o := fun {b o} e => (upd_ne (ne_of_none e hna)).trans e
  refine ⟨ok, J.os, J.bare, ?_, J.loc, J.cell, ?_, ?_, ?_, ?_, J.len⟩
  · refine ⟨J.base.keep, J.base.slot, fun b o e n hx => ?_, J.base.there, fun b xs e => same (J.base.tups b xs e), fun b o u e => same (J.base.frzs b o u e), fun b ps e => ?_⟩
    · have hb : b ≠ a := by
        intro z
        have e' : X.s_0.heap.get? b = some o := e
        rw [z, hnew] at e'
        cases e'
      exact (upd_ne hb).trans (J.base.free b o e n hx)
    · obtain ⟨more, q⟩ := J.base.tbls b ps e
      exact ⟨more, same q⟩
  · exact (upd_ne (Ne.symm hnl)).trans J.free
  · intro y c e
    have hc : c ≠ a := by
      intro z
      obtain ⟨v, q⟩ := J.cell y c e
      obtain ⟨o', q1, q2⟩ := q
      rw [z] at q1
      have q3 := q1.symm.trans hget
      cases q3
      exact hnc v q2
    exact (upd_ne hc).trans (J.freeC y c e)
  · intro p hp
    obtain ⟨h1, h2, h3⟩ := J.pin p (by simp only [List.append_nil]; exact List.mem_cons_of_mem _ hp)
    exact ⟨h1, (upd_ne (hpins p hp)).trans h2, h3⟩
  · exact J.hok.laidN (fun _ _ e => e) hna ⟨⟨oe, vs, hget, hz, hv⟩, ⟨_, hget⟩, fun h1 h2 ⟨o, w, q1, q2⟩ k => ⟨o, w, k _ q1, q2⟩⟩
end
/-- the wish of a clause whose exception stays -/
def wKeep (K : PySem.W.Frag) (c : Value) (i : Nat) (ts : Addr → TS) (Wo : WX) (D : Ends) : WX := fun cls d σ H =>
  ∃ y, PySem.W.exmOne K cls c = some y ∧ (y = false → Wo cls d σ H) ∧
    (y = true → ∀ a, H a = none → ts a { nx := fun σ' H' => D.nx (σ'.set i none) (upd H' a (exT cls d a)), rt := fun _ _ => False, bk := fun _ _ => False, ct := fun _ _ => False } (σ.set i (some (.ref a))) H)
section
variable {X : Cx} {x n : Str} {c : Value} {i : Nat} {body suite : List Stmt} {st : Stmt} {q1 q2 q3 : Pos} {tb : WX → TS} {ts : Addr → TS} {Wo : WX}
end
/-! ### exceptions in the mirror -/
/-- which classes of the text lie beneath which -/
def excSub (c T : Str) : Bool := c == T || T == "TongueError"
/-- what is known of the exception classes of the text -/
structure ExcTab (K : PySem.W.Frag) (mg : Str → Option Value) (L : List Str) : Prop where
  cls : ∀ c ∈ L, ∃ C, mg c = some (.ref C) ∧ PySem.W.nsIn K mainGlobals c = some (some (.ref C)) ∧ ExcC K C ∧ PySem.W.kitOne K (.type "NoneType") (.ref C) = some false
  sub : ∀ c ∈ L, ∀ T ∈ L, ∀ C CT, PySem.W.nsIn K mainGlobals c = some (some (.ref C)) → PySem.W.nsIn K mainGlobals T = some (some (.ref CT)) → PySem.W.exmOne K (.ref C) (.ref CT) = some (excSub c T) ∧ PySem.W.kitOne K (.ref C) (.ref CT) = some (excSub c T)
def sTry (L : List Str) (T : Str) (i j : Nat) (f : En → So) : En → So := fun ρ => match f ρ with
  | .exc c ρ1 => if c ∈ L ∧ i < ρ1.length ∧ j < ρ1.length then (if excSub c T = true then .nx ((ρ1.set i .unset).set j (.exn c)) else .exc c ρ1) else .stuck
  | o => o
section
variable {X : Cx} {W : WX} {f : En → So}
/-- isinstance(x, T) of a caught exception, or of None -/
def eIsx (L : List Str) (T : Str) (j : Nat) : Mo Hd := fun ρ => match ρ[j]? with
  | some (.exn c) => if c ∈ L then .ok (.imm (.bool (excSub c T))) ρ else .stuck
  | some (.val .none) => .ok (.imm (.bool false)) ρ
  | _ => .stuck
def rIsx (K : PySem.W.Frag) : List V → Hp → VK → Prop := fun xs H Q => ∃ (v : V) (C : Addr) (b : Bool), xs = [v, .ref C] ∧ Q (.bl b) H ∧
  ((v = .non ∧ PySem.W.kitOne K (.type "NoneType") (.ref C) = some b) ∨ ∃ a D, v = .ref a ∧ H a = some (exT (.ref D) none a) ∧ ExcC K D ∧ PySem.W.kitOne K (.ref D) (.ref C) = some b)
theorem cr_isx : CallR X (.builtin "isinstance") (rIsx X.K) := by
  intro pins s σ H xs us Q I r h
  obtain ⟨v, C, b, rfl, q, h | h⟩ := h
  · obtain ⟨rfl, e⟩ := h
    exact call_isi pins s σ H _ us Q I r ⟨.non, .ref C, .type "NoneType", .ref C, b, rfl, .own C, .base .non, e, q⟩
  · obtain ⟨a, D, rfl, ha, E, e⟩ := h
    obtain ⟨u1, u2, rfl, r1, r2⟩ := vals2 r
    cases (show u1 = Value.ref a from r1)
    cases (show u2 = Value.ref C from r2)
    obtain ⟨⟨oe, vs, hg, hz, hv⟩, _⟩ := I.hok a _ ha
    have J : PySem.W.InstAt s.heap a oe D none := by
      obtain ⟨o1, o2, o3, o4⟩ := oe
      obtain ⟨z1, z2⟩ := hz
      dsimp only at z1 z2 hv
      subst z1 z2 hv
      exact ⟨hg, rfl, rfl, trivial⟩
    exact PySem.W.kia_one (PySem.W.handS_kitx_exc E.hg E.hk E.hs E.hd E.ha E.hn E.ht E.hm) I.kIn J e (fun z => nomatch z) fun tk => ⟨.bl b, H, I.tok tk, rfl, q⟩
theorem re_isx {L : List Str} (T : Str) (j : Nat) {x : Str} {p p1 p2 pos : Pos} (tab : ExcTab X.K X.mg L) (hT : T ∈ L) (hi : X.mg "isinstance" = none) (hj : X.N[j]? = some x := by rfl) (hv : Vis X.env.scope x := by first | exact Or.inl rfl | exact Or.inr (Or.inl rfl) | exact Or.inr (Or.inr rfl)) (hg : Gl X T := by rfl) (hgi : Gl X "isinstance" := by rfl) (hxd : (x == ("__debug__" : Str)) = false := by decide) (hxc : (x == ("__classdict__" : Str)) = false := by decide) (hdb : (T == ("__debug__" : Str)) = false := by decide)
    (hs : starEach (.Name x p1 :: [.Name T p2]) X.env = (false, eval (.Name x p1) X.env) :: starEach [.Name T p2] X.env := by rfl) (hpl : (backTo pos (starEach [.Name T p2] X.env)).any (·.1) = false := by rfl) (hs2 : starEach (.Name T p2 :: []) X.env = (false, eval (.Name T p2) X.env) :: starEach [] X.env := by rfl) :
    PE X (.Call (.Name "isinstance" p) [.Name x p1, .Name T p2] [] pos) (tH X.K X.mg W (eIsx L T j)) := by
  obtain ⟨CT, gT, nT, _, hNone⟩ := tab.cls T hT
  refine PE.weak (pe_callB cr_isx hgi hi (by decide +kernel) (pa_cons (pe_var (i := j) hj hv hxd hxc) (pa_cons (pe_glob (v := .ref CT) hg gT rfl hdb) pa_nil hs2) hs) (by decide) (by decide) hs hpl) fun σ H Q h => ?_
  obtain ⟨Fm, B, G, ρ, r0, p⟩ := h
  simp only [eIsx] at p
  cases z : ρ[j]? with
  | none => rw [z] at p; exact p.elim
  | some t =>
    rw [z] at p
    have sl := r0.at z
    cases t with
    | unset => exact p.elim
    | own ds => exact p.elim
    | arg ds => exact p.elim
    | dic m => exact p.elim
    | darg m => exact p.elim
    | lck m => exact p.elim
    | bx m => exact p.elim
    | bxa m => exact p.elim
    | exn c =>
      dsimp only at p
      obtain ⟨a, C, e1, e2, e3⟩ := sl
      split at p
      · rename_i hc
        obtain ⟨C', gC, nC, eC, _⟩ := tab.cls c hc
        have : C' = C := by
          have y := nC.symm.trans e2
          cases y
          rfl
        subst this
        exact ⟨.ref a, join_some e1, .ref a, CT, excSub c T, rfl, p _ G H (Same.refl _) r0 (Dp.bl _), .inr ⟨a, C', rfl, r0.gh _ _ e3, eC, (tab.sub c hc T hT C' CT nC nT).2⟩⟩
      · exact p.elim
    | val d =>
      cases d with
      | none =>
        obtain ⟨v, e1, q⟩ := sl
        cases q
        exact ⟨.non, join_some e1, .non, CT, false, rfl, p _ G H (Same.refl _) r0 (Dp.bl _), .inl ⟨rfl, hNone⟩⟩
      | _ => exact p.elim
/-- x is None, x perhaps a caught exception -/
def tIsN (j : Nat) : Mo Bool := fun ρ => match ρ[j]? with
  | some (.exn _) => .ok false ρ
  | some (.val .none) => .ok true ρ
  | _ => .stuck
end
theorem kit_sub {K : PySem.W.Frag} {C : Addr} {t : Value} {b : Bool} (hd : PySem.W.hasDictIn K C = true) (ht : PySem.W.typeIn K (.ref C) = some (.type "type")) (h : PySem.W.subIn K t (.ref C) = some b) (hs : PySem.W.subIn K (.ref C) (.ref C) = some true) : PySem.W.kitOne K t (.ref C) = some b := by
  unfold PySem.W.kitOne
  by_cases e : (t == Value.ref C) = true
  · rw [if_pos e]
    have e' : t = .ref C := eq_of_beq e
    rw [e', hs] at h
    exact h
  · rw [if_neg e]
    obtain ⟨cd, hc, _⟩ := PySem.W.any_some hd
    show (if ((PySem.W.clsIn K C).isSome && PySem.W.typeIn K (.ref C) == some (.type "type")) = true then PySem.W.subIn K t (.ref C) else none) = some b
    rw [if_pos (by rw [hc, ht] <;> rfl)]
    exact h
theorem tab_mk {K : PySem.W.Frag} {mg : Str → Option Value} (Ls : List (Str × Addr)) (h1 : ∀ p ∈ Ls, mg p.1 = some (.ref p.2) ∧ PySem.W.nsIn K mainGlobals p.1 = some (some (.ref p.2)) ∧ ExcC K p.2 ∧ PySem.W.typeIn K (.ref p.2) = some (.type "type") ∧ PySem.W.subIn K (.type "NoneType") (.ref p.2) = some false)
    (h2 : ∀ p ∈ Ls, ∀ q ∈ Ls, PySem.W.subIn K (.ref p.2) (.ref q.2) = some (excSub p.1 q.1)) : ExcTab K mg (Ls.map (·.1)) := by
  have self : ∀ p ∈ Ls, PySem.W.subIn K (.ref p.2) (.ref p.2) = some true := fun p hp => by
    rw [h2 p hp p hp]
    simp [excSub]
  refine ⟨fun c hc => ?_, fun c hc T hT C CT e1 e2 => ?_⟩
  · obtain ⟨p, hp, rfl⟩ := List.mem_map.mp hc
    obtain ⟨f1, f2, f3, f4, f5⟩ := h1 p hp
    exact ⟨p.2, f1, f2, f3, kit_sub f3.hd f4 f5 (self p hp)⟩
  · obtain ⟨p, hp, rfl⟩ := List.mem_map.mp hc
    obtain ⟨q, hq, rfl⟩ := List.mem_map.mp hT
    have z1 := (h1 p hp).2.1.symm.trans e1
    have z2 := (h1 q hq).2.1.symm.trans e2
    cases z1
    cases z2
    obtain ⟨f1, f2, f3, f4, f5⟩ := h1 q hq
    exact ⟨PySem.W.exm_ref f3.hs f3.hd f4 (h2 p hp q hq), kit_sub f3.hd f4 (h2 p hp q hq) (self q hq)⟩
theorem all_n {α : Type} {P : α → Prop} : ∀ x ∈ ([] : List α), P x := fun _ h => nomatch h
theorem all_c {α : Type} {P : α → Prop} {a : α} {l : List α} (h : P a) (t : ∀ x ∈ l, P x) : ∀ x ∈ a :: l, P x := List.forall_mem_cons.mpr ⟨h, t⟩
end Mir


set_option maxHeartbeats 4000000
/-! a def that is called in an except suite, the caught exception being its argument -/
namespace Mir
open PySem PySem.Spec PyProof.Rows L2
/-- room, whatever is handled -/
structure RoomN (k : Nat) (A : Around) : Prop where
  dp : A.depth + 3 * k + 5 < recursionLimit
  un : A.units + 16 * k + 200 < cLine
theorem RoomN.mono {j k : Nat} {A : Around} (r : RoomN k A) (h : j ≤ k) : RoomN j A := ⟨by have := r.dp; omega, by have := r.un; omega⟩
theorem RoomN.deeper {k : Nat} {A : Around} (r : RoomN (k + 1) A) (env : Env) : RoomN k (A.deeper env) :=
  ⟨by have := r.dp; show A.depth + 1 + 3 * k + 5 < _; omega, by have := r.un; show A.units + 3 + 16 * k + 200 < _; omega⟩
theorem RoomN.depth {k : Nat} {A : Around} (r : RoomN k A) : A.depth < recursionLimit := by have := r.dp; omega
theorem roomN_of {k : Nat} {A : Around} {v : Option Value} (r : Room k A) : RoomN k (A.mark v) := ⟨r.dp, r.un⟩
/-- what a def promises there -/
structure FnN (P : Program) (w : World) (K : PySem.W.Frag) (mg : Str → Option Value) (base : Heap) (CX : CXT) (k : Nat) (f : Addr) (fd : FuncData) (ps : List Str) (sp : Sp) : Prop where
  len : ∀ vs H Q E, sp vs H Q E → vs.length = ps.length
  run : ∀ (A : Around) (outer : List Env) (s : Shared) (H : Hp) (args : Args) (us : List Value) (vs : List V) (Q : VK) (E : XK), RoomN k A → Env0 P w K mg base A outer s H → BindsTo s fd args (ps.zip us) → Vals vs us → sp vs H Q E →
    codeAny (model P w) A (.call (.ref f) args) (CR CX outer P w H s Q E) s
/-- the context of its body -/
def cxN (CX : CXT) (P : Program) (w : World) (K : PySem.W.Frag) (mg : Str → Option Value) (base : Heap) (N : List Str) (qual : Str) (scope : Scope) (f : Addr) (cd : Value) (A : Around) (outer : List Env) (s : Shared) (H : Hp) (E : XK) : Cx :=
  { cxOf CX P w K mg base N qual scope f cd A outer s H E with calm := false, pn := [] }
theorem inv_startN {CX : CXT} {P : Program} {w : World} {K : PySem.W.Frag} {mg : Str → Option Value} {base : Heap} {N ps : List Str} {qual : Str} {scope : Scope} {f : Addr} {cd : Value} {A : Around} {outer : List Env} {s s1 : Shared} {H : Hp} {E : XK} {us : List Value} {vs : List V}
    (S : FnScope N ps scope) (e0 : Env0 P w K mg base A outer s H) (hl : vs.length = ps.length) (r : Vals vs us)
    (x : InCallC s s.heap.objs.size (bindL (envOfC qual scope s.heap.objs.size f cd).kindOf (ps.zip us) fun _ => none) (cellsFrom (s.heap.objs.size + 1) scope.names []) (bindC (envOfC qual scope s.heap.objs.size f cd).kindOf (ps.zip us) fun _ => none) s1) :
    Inv (cxN CX P w K mg base N qual scope f cd A outer s H E) [] (L2.start N vs) H s1 := by
  have many : ps.length ≤ N.length := by
    have h := congrArg List.length S.pre
    rw [List.length_take] at h
    omega
  obtain ⟨h1, tk, rfl, keep⟩ := x.done
  have noEx : ∀ b : Addr, b ∉ (cxN CX P w K mg base N qual scope f cd A outer s H E).ex := fun b z => absurd (show b ∈ ([] : List Addr) from z) List.not_mem_nil
  refine ⟨⟨e0.mod, S.kind, rfl, rfl, Nat.le_refl _, ?apart, ?cells, ?above, (fun z => Bool.noConfusion (show false = true from z)), Around.frames_deeper e0.frames, .inr ⟨rfl, rfl⟩, fun b z => absurd z (noEx b), e0.bs, e0.bsz, fun b _ _ => noEx b, fun b z => absurd z (noEx b), e0.funs, e0.frf⟩,
    rfl, e0.bare, Un.kept keep, ⟨_, x.toInCall.ns, ?locals⟩, fun y c h => ⟨_, x.cell y c h⟩, e0.hok.fresh (Nat.le_refl _), ?freeC, ?pins, e0.hok.kept keep, ?len⟩
  case apart => exact fun y z c h1 h2 => name_of_addr x.apart (PySem.mem_of_lookup h1) (PySem.mem_of_lookup h2)
  case cells =>
    intro y hy
    rcases (show scope.names.lookup y = some .cell ∨ scope.names.lookup y = some .free from hy) with z | z
    · exact cell_has z
    · exact absurd rfl (S.nofree _ (PySem.mem_of_lookup z))
  case above => exact fun y c _ h => Nat.le_of_lt (x.above y c (PySem.mem_of_lookup h))
  case locals =>
    intro i y v h1 h2 h3
    have inVs : i < vs.length := by
      refine Nat.lt_of_not_le fun hn => ?_
      unfold L2.start at h2
      rw [List.getElem?_append_right (by simpa using hn), List.getElem?_replicate] at h2
      split at h2 <;> cases h2
    have at_v : vs[i]? = some v := by
      unfold L2.start at h2
      rw [List.getElem?_append_left (by simpa using inVs), List.getElem?_map] at h2
      cases e : vs[i]? with
      | none => rw [e] at h2; cases h2
      | some a => rw [e] at h2; cases h2; rfl
    obtain ⟨u, at_u, rv⟩ := r.get at_v
    have at_p : ps[i]? = some y := by rw [← S.pre, List.getElem?_take_of_lt (by omega)]; exact h1
    have nd : ps.Nodup := by rw [← S.pre]; exact S.nd.sublist (List.take_sublist _ _)
    refine ⟨u, rv, ?_⟩
    rcases S.par y (List.mem_of_getElem? at_p) with k | k
    · exact .inl ⟨k, bindL_get nd at_p at_u k⟩
    · obtain ⟨c, e⟩ := cell_has (n := s.heap.objs.size + 1) k
      have q := x.cell y c e
      rw [bindC_get nd at_p at_u (by show scope.names.lookup y ≠ _; rw [k]; decide)] at q
      exact .inr ⟨.inl k, c, e, q⟩
  case freeC => exact fun y c h => e0.hok.fresh (Nat.le_of_lt (x.above y c (PySem.mem_of_lookup h)))
  case pins => exact fun q hq => absurd (show q ∈ ([] : List (Addr × Obj)) from hq) List.not_mem_nil
  case len =>
    unfold L2.start
    show _ = N.length
    rw [List.length_append, List.length_map, List.length_replicate]
    omega
theorem fn_ofN {CX : CXT} {P : Program} {w : World} {K : PySem.W.Frag} {mg : Str → Option Value} {base : Heap} {k : Nat} {f : Addr} {name qual : Str} {params : Arguments} {body : List Stmt} {scope : Scope} {dV kV doc pm cdv ct oc : Value} {an od : Option Addr}
    {osl : Array (Option Value)} {N ps : List Str} {sp : Sp} (lk : K.lookup f = some ⟨oc, od, .func (PySem.W.fnOf name qual params body scope dV kV doc pm an cdv ct), osl⟩) (hcd : PySem.W.codeIn K cdv qual = true) (S : FnScope N ps scope)
    (len : ∀ vs H Q E, sp vs H Q E → vs.length = ps.length)
    (hbody : ∀ (A : Around) (outer : List Env) (s : Shared) (H : Hp) (vs : List V) (Q : VK) (E : XK), RoomN k (A.deeper (envOfC qual scope s.heap.objs.size f cdv)) → sp vs H Q E →
      ∃ t, PSs (cxN CX P w K mg base N qual scope f cdv A outer s H E) body t ∧ t { nx := fun _ H' => Q .non H', rt := Q } (L2.start N vs) H) :
    FnN P w K mg base CX (k + 1) f (PySem.W.fnOf name qual params body scope dV kV doc pm an cdv ct) ps sp := by
  refine ⟨len, fun A outer s H args us vs Q E hr e0 hb r hsp => ?_⟩
  have hl := len _ _ _ _ hsp
  have KX : K.In s.heap := e0.mod.kin.keeps fun b o e => (e0.bs b o e).1
  have lim : s.heap.NoLimit := e0.mod.nolimit.keeps fun b o e => (e0.bs b o e).1
  have kinds : ∀ y ∈ ps.zip us, scope.names.lookup y.1 = some .local ∨ (scope.names.lookup y.1 = some .cell ∧ ((cellsFrom (s.heap.objs.size + 1) scope.names []).lookup y.1).isSome = true) := by
    rintro ⟨n, v⟩ hy
    exact (S.par n (List.of_mem_zip hy).1).imp id fun q => ⟨q, PySem.W.cellsFrom_some _ _ _ (.inl q)⟩
  refine codeAny_call_function hr.depth (KX _ _ lk) rfl S.co S.gen rfl (PySem.W.codeRec_of KX hcd) (hb _ _ _ _ (wpAny_newFunctionEnv_cells S.kind kinds fun env he s1 x => ?_))
  subst he
  refine ⟨lim.keeps x.toInCall.keep, codeAny_func ?_⟩
  obtain ⟨t, ht, hq⟩ := hbody A outer s H vs Q E (hr.deeper _) hsp
  have I : Inv (cxN CX P w K mg base N qual scope f cdv A outer s H E) [] (L2.start N vs) H s1 := inv_startN S e0 hl r x
  refine wpAny_mono (ht.run [] s1 (L2.start N vs) H _ I hq) ?_ (fun e s' hs => hs)
  intro fl s' hs
  cases fl with
  | ret u => obtain ⟨v, σ', H', J, rv, q⟩ := hs; exact ⟨v, H', J.os, J.bare, J.base, J.hok, rv, q⟩
  | next => obtain ⟨σ', H', J, q⟩ := hs; exact ⟨.non, H', J.os, J.bare, J.base, J.hok, rfl, q⟩
  | brk => obtain ⟨_, _, _, q⟩ := hs; exact q.elim
  | cont => obtain ⟨_, _, _, q⟩ := hs; exact q.elim
section
variable {X : Cx} {W : WX} {CX : CXT} {k : Nat} {f : Addr} {fd : FuncData} {ps : List Str} {sp : Sp} {E : L2.St → XK} {x : Str} {q pos : Pos} {e : Expr} {es : List Expr} {t : TA}
theorem pe_callN (F : FnN X.prog X.w X.K X.mg X.base CX k f fd ps sp) (hr : RoomN k X.A) (hg : Gl X x) (hm : X.mg x = some (.ref f)) (hk : PySem.W.keepIn X.K (.ref f) = true) (hb : Binds X.K fd ps []) (hx : ∀ σ, PassesAt CX X σ (E σ))
    (ha : PA X (e :: es) t) (hdb : (x == ("__debug__" : Str)) = false := by decide) (he : starEach (e :: es) X.env = (false, eval e X.env) :: starEach es X.env := by rfl) (hpl : (backTo pos (starEach es X.env)).any (·.1) = false := by rfl) :
    PE X (.Call (.Name x q) (e :: es) [] pos) (tCallS sp E t) := by
  constructor
  intro pins s σ H Q I h
  refine wpAny_Call_Name_kw (ld_glob I hg hm ?_ hdb)
  refine PySem.W.callWith_K (h₀ := X.base) I.ok.mod.kin hk (thn (ha.run pos pins s σ H _ I h) ?_) he hpl
  rintro us s1 ⟨vs, H1, I1, r, z⟩
  refine ⟨I1.kIn, ?_⟩
  have b := hb s1 us I1.kIn (by rw [List.append_nil, ← r.length]; exact F.len _ _ _ _ z)
  rw [List.append_nil] at b
  refine wpAny_call (codeAny_mono (F.run X.A X.stack s1 H1 ⟨us, []⟩ us vs Q (E σ) hr I1.env0 b r z) ?_)
  intro rs s' hq
  cases rs with
  | error e => exact hx σ pins H1 s1 e s' I1 hq
  | ok fl =>
    cases fl with
    | ret u => exact I1.after hq
    | _ => exact False.elim hq
end
/-- a def of the text that is asked of a caught exception -/
structure FnE (P : Program) (w : World) (K : PySem.W.Frag) (mg : Str → Option Value) (base : Heap) (k : Nat) (x : Str) (ps : List Str) (m : List Slot → So) (f : Addr) (fd : FuncData) : Prop where
  ok : FnN P w K mg base (L2.CX P w) k f fd ps (spF K mg ps.length m)
  mg : mg x = some (.ref f)
  kp : PySem.W.keepIn K (.ref f) = true
  bd : Binds K fd ps []
section
variable {P : Program} {w : World} {K : PySem.W.Frag} {mg : Str → Option Value} {base : Heap}
theorem fn_ruleN {x qual : Str} {st : Stmt} {f : Addr} {fd : FuncData} {N ps : List Str} {k : Nat} {mb : En → So} (F : Fun K x qual st f fd) (S : FnScope N ps (defScope st))
    (hb : ∀ (cdv : Value) (A : Around) (outer : List Env) (s : Shared) (H : Hp) (E : XK), RoomN k (A.deeper (envOfC qual (defScope st) s.heap.objs.size f cdv)) →
      PSs (cxN (L2.CX P w) P w K mg base N qual (defScope st) f cdv A outer s H E) (defBody st) (tS K mg (fun cls d _ H => E cls d H) mb)) :
    FnN P w K mg base (L2.CX P w) (k + 1) f fd ps (spF K mg ps.length (fnM N.length mb)) := by
  obtain ⟨oc, od, kV, doc, pm, an, cdv, ct, osl, rfl, lk, hcd⟩ := F.ex
  refine fn_ofN lk hcd S (fun vs H Q E h => h.1) fun A outer s H vs Q E hr h => ?_
  obtain ⟨hl, Fm, B, G, as, r, p⟩ := h
  refine ⟨tS K mg (fun cls d _ H => E cls d H) mb, hb cdv A outer s H E hr, ?_⟩
  have hN : vs.length ≤ N.length := by
    have := congrArg List.length S.pre
    rw [List.length_take] at this
    omega
  exact ⟨Fm, B, G, _, Rep.start hN r, PoS_fin (fun _ _ _ _ _ h => h) p rfl⟩
end
/-- f(e), e a caught exception -/
def eCallE (m : List Slot → So) (j : Nat) : Mo Hd := fun ρ => match ρ[j]? with
  | some (.exn c) => (match m [.exn c] with
    | .rt h _ => if cleanH ([] : List Nat).isEmpty h = true then .ok h ρ else .stuck
    | .exc c _ => .exc c ρ
    | _ => .stuck)
  | _ => .stuck
section
variable {X : Cx} {W : WX} {kk k : Nat} {f : Addr} {fd : FuncData} {ps : List Str} {m : List Slot → So} {x y : Str} {p p1 pos : Pos}
theorem re_fnE (j : Nat) (C : FnE X.prog X.w X.K X.mg X.base kk x ps m f fd) (hr : RoomN k X.A) (tk : Takes X W) (hk : kk ≤ k := by decide) (hn : ps.length = 1 := by rfl) (hj : X.N[j]? = some y := by rfl)
    (hv : Vis X.env.scope y := by first | exact Or.inl rfl | exact Or.inr (Or.inl rfl) | exact Or.inr (Or.inr rfl)) (hg : Gl X x := by rfl) (hdb : (x == ("__debug__" : Str)) = false := by decide) (hyd : (y == ("__debug__" : Str)) = false := by decide) (hyc : (y == ("__classdict__" : Str)) = false := by decide)
    (hs : starEach [.Name y p1] X.env = (false, eval (.Name y p1) X.env) :: starEach [] X.env := by rfl) (hpl : (backTo pos (starEach [] X.env)).any (·.1) = false := by rfl) :
    PE X (.Call (.Name x p) [.Name y p1] [] pos) (tH X.K X.mg W (eCallE m j)) := by
  refine PE.weak (pe_callN C.ok (hr.mono hk) hg C.mg C.kp C.bd (fun σ => passAt tk σ) (pa_cons (pe_var hj hv hyd hyc) pa_nil hs) hdb hs hpl) fun σ H Q h => ?_
  obtain ⟨Fm, B, G, ρ, r0, p⟩ := h
  unfold eCallE at p
  cases z : ρ[j]? with
  | none => rw [z] at p; exact p.elim
  | some t =>
    rw [z] at p
    have sl := r0.at z
    cases t with
    | exn c =>
      dsimp only at p
      obtain ⟨a, C', e1, e2, e3⟩ := sl
      have hl : ∀ j ∈ ([] : List Nat), isLst ρ[j]? = true := fun j hj => by cases hj
      have r2 : Rep X.K (Fc σ ρ [] (fun _ => False) Fm H) B (Gc σ [] G H) [some (V.ref a)] H [.exn c] := by
        refine ⟨gc_heap r0 hl, fun p o e => fc_ok r0 hl e, rfl, fun i s e => ?_, fun i i' p ni hi hi' => ?_, gc_cl r0 hl, NB.nonC fun i => by rcases i with _ | i <;> rfl⟩
        · cases i with
          | succ i => cases e
          | zero =>
            cases e
            exact ⟨a, C', rfl, e2, gc_same r0 hl _ _ e3⟩
        · rcases i with _ | i <;> cases hi
      refine ⟨.ref a, join_some e1, hn.symm, _, _, _, _, r2, call_post r0 hl p⟩
    | _ => exact p.elim
end
end Mir


namespace Mir
open PySem PySem.Spec PyProof.Rows L2
/-! ### sizes -/
def bits (x : Int) (n : Nat) : Prop := x.natAbs < 2 ^ n
theorem bits_mono {x : Int} {a b : Nat} (h : bits x a) (hab : a ≤ b) : bits x b := Nat.lt_of_lt_of_le h (Nat.pow_le_pow_right (by decide) hab)
theorem bits_mul {x y : Int} {a b : Nat} (h : bits x a) (h' : bits y b) : bits (x * y) (a + b) := wide_lt h h'
theorem bits_add {x y : Int} {a : Nat} (h : bits x a) (h' : bits y a) : bits (x + y) (a + 1) := by
  unfold bits at *
  rw [Nat.pow_succ]
  have := Int.natAbs_add_le x y
  omega
theorem bits_of_lt {x : Int} {a : Nat} (h0 : 0 ≤ x) (h : x < 2 ^ a) : bits x a := by
  unfold bits
  have : ((x.natAbs : Nat) : Int) < ((2 ^ a : Nat) : Int) := by
    rw [Int.natAbs_of_nonneg h0]
    simpa using h
  exact Int.ofNat_lt.mp this
theorem mulOk_bits {x y : Int} {a b : Nat} (h : bits x a) (h' : bits y b) (hab : a + b ≤ 999998) : mulOk x y = true := by
  unfold mulOk
  refine decide_eq_true ?_
  have h1 := PySem.Flt.log2_lt_of (Nat.succ_pos a) (bits_mono h (Nat.le_succ a))
  have h2 := PySem.Flt.log2_lt_of (Nat.succ_pos b) (bits_mono h' (Nat.le_succ b))
  omega
theorem divOk_bits {y : Int} {b : Nat} (h0 : 0 < y) (h : bits y b) (hb : b ≤ 8999) : divOk y = true := by
  unfold divOk
  refine decide_eq_true ⟨h0, ?_⟩
  have h1 := PySem.Flt.log2_lt_of (Nat.succ_pos b) (bits_mono h (Nat.le_succ b))
  omega
theorem divOk_small {y : Int} (h0 : 0 < y) (h : y < 2 ^ 250) : divOk y = true := divOk_bits h0 (bits_of_lt (by omega) h) (by decide)
theorem mulOk_small {x y : Int} (hx : -(2 ^ 250) < x ∧ x < 2 ^ 250) (hy : -(2 ^ 250) < y ∧ y < 2 ^ 250) : mulOk x y = true := by
  have f : ∀ z : Int, -(2 ^ 250) < z ∧ z < 2 ^ 250 → bits z 250 := fun z h => by
    unfold bits
    have : ((2 ^ 250 : Nat) : Int) = 2 ^ 250 := by simp
    omega
  exact mulOk_bits (f x hx) (f y hy) (by decide)
/-! ### data operations, as they are worked out -/
theorem mulD_int {i j : Int} (h : mulOk i j = true) : mulD (.int i) (.int j) = some (.imm (.int (i * j))) := by simp [mulD, h]
theorem fdivD_int {i j : Int} (h : divOk j = true) : fdivD (.int i) (.int j) = some (.imm (.int (i / j))) := by simp [fdivD, h]
theorem modD_int {i j : Int} (h : 0 < j) : modD (.int i) (.int j) = some (.imm (.int (i % j))) := by simp [modD, h]
theorem powD_10 (n : Nat) (h : n ≤ 1000000) : powD (.int 10) (.int n) = some (.imm (.int (10 ^ n))) := by
  simp [powD]
  omega
theorem eqv_int (i j : Int) : PyData.eqv (.int i) (.int j) = decide (i = j) := by
  rw [Bool.eq_iff_iff]
  simp [PyData.eqv]
theorem eqD_int (i j : Int) : eqD (.int i) (.int j) = some (.imm (.bool (decide (i = j)))) := by
  unfold eqD
  rw [if_pos ⟨rfl, rfl⟩, eqv_int]
theorem neD_int (i j : Int) : neD (.int i) (.int j) = some (.imm (.bool (!decide (i = j)))) := by
  unfold neD
  rw [if_pos ⟨rfl, rfl⟩, eqv_int]
/-! ### rows of ints -/
/-! ### loops -/
theorem forL_inv {tf : PyData → En → Option En} {b : En → So} (P : Nat → En → Prop) : ∀ (ds : List PyData) (i0 : Nat) (ρ : En), P i0 ρ →
    (∀ i d ρ, ds[i]? = some d → P (i0 + i) ρ → ∃ ρ1 ρ2, tf d ρ = some ρ1 ∧ (b ρ1 = .nx ρ2 ∨ b ρ1 = .ct ρ2) ∧ P (i0 + i + 1) ρ2) → ∃ ρ', forL tf b ds ρ = .nx ρ' ∧ P (i0 + ds.length) ρ'
  | [], i0, ρ, h, _ => ⟨ρ, rfl, h⟩
  | d :: ds, i0, ρ, h, hs => by
    obtain ⟨ρ1, ρ2, e1, e2, h2⟩ := hs 0 d ρ rfl h
    obtain ⟨ρ', e, q⟩ := forL_inv P ds (i0 + 1) ρ2 h2 fun i d' ρ he hp => by
      obtain ⟨ρ1, ρ2, a, b, c⟩ := hs (i + 1) d' ρ (by simpa using he) (by rw [Nat.add_assoc, Nat.add_comm 1 i] at hp; exact hp)
      exact ⟨ρ1, ρ2, a, b, by rw [Nat.add_assoc i0 1 i, Nat.add_comm 1 i]; exact c⟩
    refine ⟨ρ', ?_, by rw [List.length_cons, Nat.add_comm ds.length 1, ← Nat.add_assoc]; exact q⟩
    simp only [forL, e1]
    rcases e2 with e2 | e2 <;> simp only [e2, turnS] <;> exact e
theorem for_inv {tf : PyData → En → Option En} {b : En → So} {ds : List PyData} {ρ : En} (P : Nat → En → Prop) (h0 : P 0 ρ)
    (hs : ∀ i d ρ, ds[i]? = some d → P i ρ → ∃ ρ1 ρ2, tf d ρ = some ρ1 ∧ (b ρ1 = .nx ρ2 ∨ b ρ1 = .ct ρ2) ∧ P (i + 1) ρ2) : ∃ ρ', forL tf b ds ρ = .nx ρ' ∧ P ds.length ρ' := by
  obtain ⟨ρ', e, q⟩ := forL_inv P ds 0 ρ h0 fun i d ρ he hp => by
    rw [Nat.zero_add] at hp ⊢
    exact hs i d ρ he hp
  exact ⟨ρ', e, by rw [Nat.zero_add] at q; exact q⟩
theorem rng_get {lo : Int} {n i : Nat} {d : PyData} (h : (rng lo n)[i]? = some d) : i < n ∧ d = .int (lo + i) := by
  have hi : i < n := by simpa [rng] using lt_of_get h
  refine ⟨hi, ?_⟩
  simp only [rng, List.getElem?_map, List.getElem?_range hi] at h
  exact (Option.some.inj h).symm
theorem rng_length (lo : Int) (n : Nat) : (rng lo n).length = n := by simp [rng]
theorem enum_get {ds : List PyData} {i : Nat} {d : PyData} (h : (enumD ds)[i]? = some d) : ∃ x, ds[i]? = some x ∧ d = .tuple [.int i, x] := by
  simp only [enumD, List.getElem?_mapIdx] at h
  cases e : ds[i]? with
  | none => rw [e] at h; cases h
  | some x => rw [e] at h; exact ⟨x, rfl, (Option.some.inj h).symm⟩
theorem map_get {α β : Type} {f : α → β} {l : List α} {i : Nat} {d : β} (h : (l.map f)[i]? = some d) : ∃ x, l[i]? = some x ∧ d = f x := by
  rw [List.getElem?_map] at h
  cases e : l[i]? with
  | none => rw [e] at h; cases h
  | some x => rw [e] at h; exact ⟨x, rfl, (Option.some.inj h).symm⟩
theorem isCell_own (ds : List PyData) : isCell (some (.own ds)) = true := rfl
theorem isCell_arg (ds : List PyData) : isCell (some (.arg ds)) = true := rfl
theorem isCell_val (d : PyData) : isCell (some (.val d)) = false := rfl
theorem isCell_unset : isCell (some .unset) = false := rfl
theorem isCell_none : isCell none = false := rfl
/-- the cells of a script, with its length at the end -/
def cells (ns : List Int) (k : Nat) : List Int := ns.take k ++ [(ns.length : Int)]
end Mir


namespace Mir
open PySem PySem.Spec PyProof.Rows L2
/-- a faithful shape of data -/
structure Good {α : Type} [DecidableEq α] (f : α → PyData) (n : Nat) : Prop where
  lay : ∀ x, PyData.canLay0 (f x) = true
  dep : ∀ x, PyData.depth (f x) ≤ n
  inj : ∀ x y, PyData.eqv (f x) (f y) = decide (x = y)
section
variable {α β : Type} [DecidableEq α] [DecidableEq β] {f : α → PyData} {g : β → PyData} {n m : Nat}
theorem Good.int : Good PyData.int 1 := ⟨fun x => by simp [PyData.canLay0], fun x => by simp [PyData.depth], eqv_int⟩
theorem Good.layAll (h : Good f n) : ∀ l : List α, PyData.canLayAll0 (l.map f) = true
  | [] => rfl
  | x :: l => by simp [PyData.canLayAll0, h.lay, Good.layAll h l]
theorem Good.depAll (h : Good f n) : ∀ l : List α, PyData.depthAll (l.map f) ≤ n
  | [] => by simp [PyData.depthAll]
  | x :: l => by
    have h1 := Good.depAll h l
    have h2 := h.dep x
    simp only [List.map_cons, PyData.depthAll]
    omega
theorem Good.injAll (h : Good f n) : ∀ a b : List α, PyData.eqvAll (a.map f) (b.map f) = decide (a = b)
  | [], [] => rfl
  | [], _ :: _ => rfl
  | _ :: _, [] => rfl
  | x :: a, y :: b => by
    simp only [List.map_cons, PyData.eqvAll, h.inj, Good.injAll h a b, List.cons.injEq]
    by_cases h1 : x = y <;> by_cases h2 : a = b <;> simp [h1, h2]
theorem Good.tup (h : Good f n) : Good (fun l : List α => .tuple (l.map f)) (n + 1) := ⟨fun l => by simp only [PyData.canLay0]; exact h.layAll l, fun l => by
  have := h.depAll l
  simp only [PyData.depth]
  omega, fun a b => by simp only [PyData.eqv, h.injAll]⟩
theorem Good.lst (h : Good f n) : Good (fun l : List α => .list (l.map f)) (n + 1) := ⟨fun l => by simp only [PyData.canLay0]; exact h.layAll l, fun l => by
  have := h.depAll l
  simp only [PyData.depth]
  omega, fun a b => by simp only [PyData.eqv, h.injAll]⟩
theorem Good.shaped (h : Good f n) (hn : n ≤ 64) (x : α) : SeqAt.shaped (f x) = true := by
  show (PyData.canLay0 (f x) && decide (PyData.depth (f x) ≤ 64)) = true
  rw [Bool.and_eq_true]
  exact ⟨h.lay x, decide_eq_true (Nat.le_trans (h.dep x) hn)⟩
theorem Good.eqD (h : Good f n) (hn : n ≤ 64) (x y : α) : eqD (f x) (f y) = some (.imm (.bool (decide (x = y)))) := by
  unfold Mir.eqD
  rw [if_pos ⟨h.shaped hn x, h.shaped hn y⟩, h.inj]
theorem Good.neD (h : Good f n) (hn : n ≤ 64) (x y : α) : neD (f x) (f y) = some (.imm (.bool (!decide (x = y)))) := by
  unfold Mir.neD
  rw [if_pos ⟨h.shaped hn x, h.shaped hn y⟩, h.inj]
end
/-- a comprehension whose rounds change the state -/
theorem compL_inv {src : Option Nat} {all : List PyData} {tf : PyData → En → Option En} {e : Mo Hd} {vs : List Nat} (P : Nat → List PyData → En → Prop) (hs : ∀ i acc ρ, P i acc ρ → srcOk src all ρ) : ∀ (ds acc : List PyData) (i0 : Nat) (ρ : En), P i0 acc ρ →
    (∀ i d acc ρ, ds[i]? = some d → P (i0 + i) acc ρ → ∃ ρ1 ρ2 h x ρ3, tf d ρ = some ρ1 ∧ e ρ1 = .ok h ρ2 ∧ esc h ρ2 = .ok x ρ3 ∧ P (i0 + i + 1) (acc ++ [x]) (wipeE ρ3 vs)) → acc.length + ds.length ≤ 1000000 →
    ∃ acc' ρ', compL src all tf tYes' e vs ds acc ρ = .ok acc' ρ' ∧ P (i0 + ds.length) acc' ρ'
  | [], acc, i0, ρ, h, _, _ => ⟨acc, ρ, by simp only [compL, if_pos (hs _ _ _ h)], h⟩
  | d :: ds, acc, i0, ρ, h, st, hl => by
    obtain ⟨ρ1, ρ2, hd, x, ρ3, e1, e2, e3, h4⟩ := st 0 d acc ρ rfl h
    have hz : acc.length < sizeLine := by
      have := sizeLine_eq
      simp at hl
      omega
    obtain ⟨acc', ρ', q1, q2⟩ := compL_inv P hs ds (acc ++ [x]) (i0 + 1) (wipeE ρ3 vs) h4 (fun i d' acc ρ he hp => by
      obtain ⟨ρ1, ρ2, h, x, ρ3, a, b, c, d⟩ := st (i + 1) d' acc ρ (by simpa using he) (by rw [Nat.add_assoc, Nat.add_comm 1 i] at hp; exact hp)
      exact ⟨ρ1, ρ2, h, x, ρ3, a, b, c, by rw [Nat.add_assoc i0 1 i, Nat.add_comm 1 i]; exact d⟩) (by simp at hl ⊢; omega)
    refine ⟨acc', ρ', ?_, by rw [List.length_cons, Nat.add_comm ds.length 1, ← Nat.add_assoc]; exact q2⟩
    simp only [compL, if_pos (hs _ _ _ h), e1, tYes', bnd, if_true, e2, e3, if_pos hz]
    exact q1
theorem compL_mapA {α : Type} {src : Option Nat} {all : List PyData} {tf : PyData → En → Option En} {e : Mo Hd} {vs : List Nat} (f g : α → PyData) {ρ : En} (hs : srcOk src all ρ) : ∀ (l : List α) (acc : List PyData),
    (∀ d ∈ l, ∃ ρ1 ρ2 h ρ3, tf (f d) ρ = some ρ1 ∧ e ρ1 = .ok h ρ2 ∧ esc h ρ2 = .ok (g d) ρ3 ∧ wipeE ρ3 vs = ρ) → acc.length + l.length ≤ 1000000 → compL src all tf tYes' e vs (l.map f) acc ρ = .ok (acc ++ l.map g) ρ
  | [], acc, _, _ => by simp [compL, hs]
  | d :: ds, acc, h, hl => by
    obtain ⟨ρ1, ρ2, hd, ρ3, e1, e2, e3, e4⟩ := h d List.mem_cons_self
    have hz : acc.length < sizeLine := by
      have := sizeLine_eq
      simp at hl
      omega
    simp only [List.map_cons, compL, if_pos hs, e1, tYes', bnd, if_true, e2, e3, if_pos hz, e4]
    rw [compL_mapA f g hs ds (acc ++ [g d]) (fun d' h' => h d' (List.mem_cons_of_mem _ h')) (by simp at hl ⊢; omega)]
    simp
end Mir


namespace Mir
open PySem PySem.Spec PyProof.Rows L2
abbrev dints (ns : List Int) : List PyData := ns.map PyData.int
/-- the runs of a row -/
def runs : List Int → List (Nat × Int)
  | [] => []
  | x :: xs => match runs xs with
    | [] => [(1, x)]
    | (n, y) :: rs => if x = y then (n + 1, y) :: rs else (1, x) :: (n, y) :: rs
abbrev cs (p : Nat × Int) : PyData := .tuple [.int p.1, .int p.2]
def figR (b n : Nat) : List Nat := if h : n = 0 ∨ b < 2 then [] else n % b :: figR b (n / b)
termination_by n
decreasing_by exact Nat.div_lt_self (by omega) (by omega)
theorem figR_zero (b : Nat) : figR b 0 = [] := by rw [figR]; simp
theorem figR_pos {b n : Nat} (hb : 2 ≤ b) (hn : 0 < n) : figR b n = n % b :: figR b (n / b) := by
  rw [figR, dif_neg (by omega)]
def comR (b : Int) : List Int → Int
  | [] => 0
  | d :: ds => d + b * comR b ds
def numI (b : Int) (ds : List Int) : Int := ds.foldl (fun a d => a * b + d) 0
theorem fig_lt {b : Nat} (hb : 2 ≤ b) : ∀ (k n : Nat), n < k → ∀ d ∈ figR b n, d < b
  | 0, n, h => by omega
  | k + 1, n, h => by
    by_cases hn : n = 0
    · subst hn; rw [figR_zero]; intro d hd; cases hd
    · rw [figR_pos hb (by omega)]
      intro d hd
      rcases List.mem_cons.mp hd with z | z
      · rw [z]; exact Nat.mod_lt _ (by omega)
      · exact fig_lt hb k (n / b) (by have := Nat.div_lt_self (n := n) (k := b) (by omega) (by omega); omega) d z
abbrev nints (ns : List Nat) : List PyData := ns.map fun n : Nat => .int n
/-- the figures of a number -/
def figs (b n : Nat) : List Int := (figR b n).reverse.map fun n : Nat => (n : Int)
theorem figs_lt {b : Nat} (hb : 2 ≤ b) {n : Nat} : ∀ d ∈ figs b n, 0 ≤ d ∧ d < (b : Int) := by
  intro d hd
  obtain ⟨y, hy, rfl⟩ := List.mem_map.mp hd
  have := fig_lt hb (n + 1) n (by omega) y (by simpa using hy)
  omega
theorem take_succ_get {α : Type} {l : List α} {i : Nat} {x : α} (h : l[i]? = some x) : l.take (i + 1) = l.take i ++ [x] := by
  rw [List.take_add_one, h]; rfl
/-- the step of the walk along a row -/
theorem run_open {xs : List Int} {i : Nat} (h : i < xs.length) : xs.drop i = List.replicate 1 xs[i] ++ xs.drop (i + 1) := by
  rw [List.drop_eq_getElem_cons h]
  rfl
def RunI (xs : List Int) (i : Nat) (R : List (Nat × Int)) (bg : Nat) : Prop := bg ≤ i ∧ runs xs = R ++ runs (xs.drop bg) ∧ (i < xs.length → ∃ x, xs.drop bg = List.replicate (i + 1 - bg) x ++ xs.drop (i + 1)) ∧ (i = xs.length → bg = xs.length)
theorem RunI.zero (xs : List Int) : RunI xs 0 [] 0 := ⟨Nat.le_refl _, rfl, fun h => ⟨xs[0], run_open h⟩, fun h => h⟩
theorem RunI.at {xs : List Int} {i bg : Nat} {R : List (Nat × Int)} (h : RunI xs i R bg) (hi : i < xs.length) : ∃ x, xs[bg]? = some x ∧ xs[i]? = some x ∧ xs.drop bg = List.replicate (i + 1 - bg) x ++ xs.drop (i + 1) := by
  obtain ⟨h1, _, h3, _⟩ := h
  obtain ⟨x, e⟩ := h3 hi
  refine ⟨x, ?_, ?_, e⟩
  · have : (xs.drop bg)[0]? = some x := by
      rw [e, List.getElem?_append_left (by simp; omega), List.getElem?_replicate_of_lt (by omega)]
    simpa using this
  · have : (xs.drop bg)[i - bg]? = some x := by
      rw [e, List.getElem?_append_left (by simp; omega), List.getElem?_replicate_of_lt (by omega)]
    rw [List.getElem?_drop] at this
    rw [← this]
    congr 1
    omega
theorem RunI.go {xs : List Int} {i bg : Nat} {R : List (Nat × Int)} (h : RunI xs i R bg) (hi : i < xs.length) {x : Int} (hx : xs[bg]? = some x) (hy : xs[i + 1]? = some x) : RunI xs (i + 1) R bg := by
  obtain ⟨x', e1, e2, e3⟩ := h.at hi
  rw [hx] at e1
  cases e1
  obtain ⟨h', e4⟩ := List.getElem?_eq_some_iff.mp hy
  refine ⟨by have := h.1; omega, h.2.1, fun _ => ⟨x, ?_⟩, fun z => by omega⟩
  rw [e3, List.drop_eq_getElem_cons h', e4, show i + 1 + 1 - bg = (i + 1 - bg) + 1 by have := h.1; omega, List.replicate_succ']
  simp
theorem RunI.end {xs : List Int} {bg : Nat} {R : List (Nat × Int)} (h : RunI xs xs.length R bg) : runs xs = R := by
  have := h.2.2.2 rfl
  rw [h.2.1, this, List.drop_length]
  simp [runs]
end Mir


set_option maxHeartbeats 1000000
namespace Mir
open PySem PySem.Spec PyProof.Rows L2
section
variable {X : Cx} {W : WX} {fa fb : Mo Hd} {a b : Expr}
/-! ### list(range(..)) -/
open Classical in
noncomputable def lr2D : PyData → PyData → Option Hd
  | .int i, .int j => if RgOk i j then some (.fresh (rng i (j - i).toNat)) else none
  | _, _ => none
open Classical in
noncomputable def lr1D : PyData → Option Hd
  | .int j => if RgOk 0 j then some (.fresh (rng 0 j.toNat)) else none
  | _ => none
/-! ### sorted, count, index, max, min -/
def isort (ns : List Int) : List Int := ns.mergeSort fun a b => decide (a ≤ b)
def sortD : List PyData → Option Hd
  | [.list ds] => (intsOf ds).map fun ns => .fresh ((isort ns).map .int)
  | _ => none
def tgL : PyData → Bool
  | .list _ => true
  | _ => false
def cntD : PyData → List PyData → Option Hd
  | .list ds, [.int k] => (intsOf ds).map fun ns => .imm (.int (ns.count k : Nat))
  | _, _ => none
/-- the first place of an equal thing -/
def firstAt (d : PyData) : List PyData → Nat → Option Nat
  | [], _ => none
  | x :: xs, k => if PyData.eqv x d = true then some k else firstAt d xs (k + 1)
def idxD : PyData → List PyData → Option Hd
  | .list ds, [d] => if SeqAt.shaped (.list ds) = true ∧ SeqAt.shaped d = true then (firstAt d ds 0).map fun j => .imm (.int (j : Nat)) else none
  | _, _ => none
def maxI : List Int → Option Int
  | [] => none
  | x :: xs => some (xs.foldl max x)
def maxLD : List PyData → Option Hd
  | [.list ds] => (intsOf ds).bind fun ns => (maxI ns).map fun m => .imm (.int m)
  | _ => none
end
end Mir


namespace Mir
open PySem PySem.Spec PyProof.Rows L2
/-! ### working out a mirror, step by step: rules that speak of applied mirrors alone -/
section
variable {α β : Type} {ρ ρ1 : En} {f g : En → So} {fa fb fc fe fo fi : Mo Hd} {fl : Mo (List Hd)} {ft ft' : Mo Bool} {op op' : PyData → PyData → Option Hd} {i j : Nat} {d d' : PyData} {ds es : List PyData} {c : Str} {h : Hd} {hs : List Hd}
/-! names, handles -/
def nmK (i : Nat) (o : Option Slot) (ρ : En) : Rs Hd := if isSet o = true then .ok (.slot i) ρ else .stuck
theorem eN_a : eN i ρ = nmK i ρ[i]? ρ := id rfl
theorem nmK_v : nmK i (some (.val d)) ρ = .ok (.slot i) ρ := id rfl
theorem nmK_o : nmK i (some (.own ds)) ρ = .ok (.slot i) ρ := id rfl
theorem nmK_a : nmK i (some (.arg ds)) ρ = .ok (.slot i) ρ := id rfl
theorem eC_a : eC d ρ = .ok (.imm d) ρ := id rfl
theorem hold_i : (Hd.imm d).hold = .imm d := id rfl
theorem hold_s : (Hd.slot j).hold = .slot j := id rfl
theorem hold_f : (Hd.fresh ds).hold = .imm (.list ds) := id rfl
def drK : Option Slot → Option PyData
  | some (.val d) => some d
  | some (.own ds) => some (.list ds)
  | some (.arg ds) => some (.list ds)
  | _ => none
theorem dr_i : dr (.imm d) ρ = some d := id rfl
theorem dr_f : dr (.fresh ds) ρ = some (.list ds) := id rfl
theorem dr_s : dr (.slot j) ρ = drK ρ[j]? := by
  simp only [dr]
  rcases ρ[j]? with _ | (_ | _ | _ | _ | _) <;> rfl
theorem drK_v : drK (some (.val d)) = some d := id rfl
theorem drK_o : drK (some (.own ds)) = some (.list ds) := id rfl
theorem drK_a : drK (some (.arg ds)) = some (.list ds) := id rfl
theorem opt_s {r : Hd} : opt (some r) ρ = .ok r ρ := id rfl
/-! two, one -/
def f2K (op : PyData → PyData → Option Hd) (a b : Option PyData) (ρ : En) : Rs Hd := match a, b with
  | some a, some b => opt (op a b) ρ
  | _, _ => .stuck
theorem f2K_s : f2K op (some d) (some d') ρ = opt (op d d') ρ := id rfl
def e2B (op : PyData → PyData → Option Hd) (h : Hd) (r : Rs Hd) : Rs Hd := bnd r fun h2 ρ2 => f2K op (dr h ρ2) (dr h2 ρ2) ρ2
def e2A (op : PyData → PyData → Option Hd) (fb : Mo Hd) (r : Rs Hd) : Rs Hd := bnd r fun h1 ρ1 => e2B op h1.hold (fb ρ1)
theorem e2_a : e2 op fa fb ρ = e2A op fb (fa ρ) := id rfl
theorem e2A_o : e2A op fb (.ok h ρ) = e2B op h.hold (fb ρ) := id rfl
theorem e2A_e : e2A op fb (.exc c ρ) = .exc c ρ := id rfl
theorem e2B_o {h2 : Hd} : e2B op h (.ok h2 ρ) = f2K op (dr h ρ) (dr h2 ρ) ρ := id rfl
theorem e2B_e : e2B op h (.exc c ρ) = .exc c ρ := id rfl
def f1K (op : PyData → Option Hd) (a : Option PyData) (ρ : En) : Rs Hd := match a with
  | some a => opt (op a) ρ
  | none => .stuck
theorem f1K_s {op : PyData → Option Hd} : f1K op (some d) ρ = opt (op d) ρ := id rfl
def e1A (op : PyData → Option Hd) (r : Rs Hd) : Rs Hd := bnd r fun h ρ1 => f1K op (dr h ρ1) ρ1
theorem e1_a {op : PyData → Option Hd} : e1 op fa ρ = e1A op (fa ρ) := id rfl
theorem e1A_o {op : PyData → Option Hd} : e1A op (.ok h ρ) = f1K op (dr h ρ) ρ := id rfl
theorem e1A_e {op : PyData → Option Hd} : e1A op (.exc c ρ) = .exc c ρ := id rfl
/-! lists of arguments -/
theorem aNil_a : aNil ρ = .ok [] ρ := id rfl
def acB (h : Hd) (r : Rs (List Hd)) : Rs (List Hd) := bnd r fun hs ρ2 => .ok (h :: hs) ρ2
def acA (fl : Mo (List Hd)) (r : Rs Hd) : Rs (List Hd) := bnd r fun h ρ1 => acB h.hold (fl ρ1)
theorem aCons_a : aCons fe fl ρ = acA fl (fe ρ) := id rfl
theorem acA_o : acA fl (.ok h ρ) = acB h.hold (fl ρ) := id rfl
theorem acA_e : acA fl (.exc c ρ) = .exc c ρ := id rfl
theorem acB_o : acB h (.ok hs ρ) = .ok (h :: hs) ρ := id rfl
theorem acB_e : acB h (.exc c ρ) = .exc c ρ := id rfl
def consK (a : Option PyData) (b : Option (List PyData)) : Option (List PyData) := match a, b with
  | some d, some ds => some (d :: ds)
  | _, _ => none
theorem drs_n : drs [] ρ = some [] := id rfl
theorem drs_c : drs (h :: hs) ρ = consK (dr h ρ) (drs hs ρ) := by
  rw [drs]
  cases dr h ρ <;> cases drs hs ρ <;> rfl
theorem consK_s : consK (some d) (some ds) = some (d :: ds) := id rfl
def clK (op : List PyData → Option Hd) (a : Option (List PyData)) (ρ : En) : Rs Hd := match a with
  | some ds => opt (op ds) ρ
  | none => .stuck
theorem clK_s {op : List PyData → Option Hd} : clK op (some ds) ρ = opt (op ds) ρ := id rfl
def clA (op : List PyData → Option Hd) (r : Rs (List Hd)) : Rs Hd := bnd r fun hs ρ1 => clK op (drs hs ρ1) ρ1
theorem eCl_a {op : List PyData → Option Hd} : eCl op fl ρ = clA op (fl ρ) := id rfl
theorem clA_o {op : List PyData → Option Hd} : clA op (.ok hs ρ) = clK op (drs hs ρ) ρ := id rfl
theorem clA_e {op : List PyData → Option Hd} : clA op (.exc c ρ) = .exc c ρ := id rfl
/-! letting out -/
def escK (j : Nat) (o : Option Slot) (ρ : En) : Rs PyData := match o with
  | some (.val d) => .ok d ρ
  | some (.own ds) => .ok (.list ds) (ρ.set j (.val (.list ds)))
  | _ => .stuck
theorem esc_i : esc (.imm d) ρ = .ok d ρ := id rfl
theorem esc_f : esc (.fresh ds) ρ = .ok (.list ds) ρ := id rfl
theorem esc_s : esc (.slot j) ρ = escK j ρ[j]? ρ := id rfl
theorem escK_v : escK j (some (.val d)) ρ = .ok d ρ := id rfl
theorem escK_o : escK j (some (.own ds)) ρ = .ok (.list ds) (ρ.set j (.val (.list ds))) := id rfl
def esB (d : PyData) (r : Rs (List PyData)) : Rs (List PyData) := bnd r fun ds ρ2 => .ok (d :: ds) ρ2
def esA (hs : List Hd) (r : Rs PyData) : Rs (List PyData) := bnd r fun d ρ1 => esB d (escs hs ρ1)
theorem escs_n : escs [] ρ = .ok [] ρ := id rfl
theorem escs_c : escs (h :: hs) ρ = esA hs (esc h ρ) := id rfl
theorem esA_o : esA hs (.ok d ρ) = esB d (escs hs ρ) := id rfl
theorem esB_o : esB d (.ok ds ρ) = .ok (d :: ds) ρ := id rfl
theorem sz_if {α : Sort _} {n : Nat} {inst : Decidable (n ≤ sizeLine)} {a b : α} (h : n ≤ 1000000) : @ite _ (n ≤ sizeLine) inst a b = a := by rw [if_pos]; have := sizeLine_eq; omega
theorem szlt_if {α : Sort _} {n : Nat} {inst : Decidable (n < sizeLine)} {a b : α} (h : n < 1000000) : @ite _ (n < sizeLine) inst a b = a := by rw [if_pos]; have := sizeLine_eq; omega
noncomputable def tuB (r : Rs (List PyData)) : Rs Hd := bnd r fun ds ρ2 => @ite _ (ds.length ≤ sizeLine) (Classical.propDecidable _) (.ok (.imm (.tuple ds)) ρ2) .stuck
noncomputable def tuA (r : Rs (List Hd)) : Rs Hd := bnd r fun hs ρ1 => tuB (escs hs ρ1)
theorem eTup_a : eTup fl ρ = tuA (fl ρ) := id rfl
theorem tuA_o : tuA (.ok hs ρ) = tuB (escs hs ρ) := id rfl
theorem tuA_e : tuA (.exc c ρ) = .exc c ρ := id rfl
theorem tuB_o : tuB (.ok ds ρ) = @ite _ (ds.length ≤ sizeLine) (Classical.propDecidable _) (.ok (.imm (.tuple ds)) ρ) .stuck := id rfl
noncomputable def lsB (r : Rs (List PyData)) : Rs Hd := bnd r fun ds ρ2 => @ite _ (ds.length ≤ sizeLine) (Classical.propDecidable _) (.ok (.fresh ds) ρ2) .stuck
noncomputable def lsA (r : Rs (List Hd)) : Rs Hd := bnd r fun hs ρ1 => lsB (escs hs ρ1)
theorem eLst_a : eLst fl ρ = lsA (fl ρ) := id rfl
theorem lsA_o : lsA (.ok hs ρ) = lsB (escs hs ρ) := id rfl
theorem lsA_e : lsA (.exc c ρ) = .exc c ρ := id rfl
theorem lsB_o : lsB (.ok ds ρ) = @ite _ (ds.length ≤ sizeLine) (Classical.propDecidable _) (.ok (.fresh ds) ρ) .stuck := id rfl
/-! truths -/
def t1K (o : Option PyData) (ρ : En) : Rs Bool := match o with
  | some (.bool b) => .ok b ρ
  | _ => .stuck
theorem t1K_s {b : Bool} : t1K (some (.bool b)) ρ = .ok b ρ := id rfl
def t1A (r : Rs Hd) : Rs Bool := bnd r fun h ρ1 => t1K (dr h ρ1) ρ1
theorem t1_a : t1 fa ρ = t1A (fa ρ) := id rfl
theorem t1A_o : t1A (.ok h ρ) = t1K (dr h ρ) ρ := id rfl
theorem t1A_e : t1A (.exc c ρ) = .exc c ρ := id rfl
def anK (g : Mo Bool) (r : Rs Bool) : Rs Bool := bnd r fun b ρ1 => if b = true then g ρ1 else .ok false ρ1
def orK (g : Mo Bool) (r : Rs Bool) : Rs Bool := bnd r fun b ρ1 => if b = true then .ok true ρ1 else g ρ1
def noK (r : Rs Bool) : Rs Bool := bnd r fun b ρ1 => .ok (!b) ρ1
theorem tAnd_a : tAnd' ft ft' ρ = anK ft' (ft ρ) := id rfl
theorem anK_t : anK ft (.ok true ρ) = ft ρ := id rfl
theorem anK_f : anK ft (.ok false ρ) = .ok false ρ := id rfl
theorem anK_e : anK ft (.exc c ρ) = .exc c ρ := id rfl
theorem tOr_a : tOr' ft ft' ρ = orK ft' (ft ρ) := id rfl
theorem orK_t : orK ft (.ok true ρ) = .ok true ρ := id rfl
theorem orK_f : orK ft (.ok false ρ) = ft ρ := id rfl
theorem orK_e : orK ft (.exc c ρ) = .exc c ρ := id rfl
theorem tNot_a : tNot' ft ρ = noK (ft ρ) := id rfl
theorem noK_o {b : Bool} : noK (.ok b ρ) = .ok (!b) ρ := id rfl
theorem noK_e : noK (.exc c ρ) = .exc c ρ := id rfl
theorem tYes_a : tYes' ρ = .ok true ρ := id rfl
def eanK (g : Mo Hd) (r : Rs Bool) : Rs Hd := bnd r fun b ρ1 => if b = true then g ρ1 else .ok (.imm (.bool false)) ρ1
def eorK (g : Mo Hd) (r : Rs Bool) : Rs Hd := bnd r fun b ρ1 => if b = true then .ok (.imm (.bool true)) ρ1 else g ρ1
def enoK (r : Rs Bool) : Rs Hd := bnd r fun b ρ1 => .ok (.imm (.bool (!b))) ρ1
def eifK (f g : Mo Hd) (r : Rs Bool) : Rs Hd := bnd r fun b ρ1 => if b = true then f ρ1 else g ρ1
theorem eAnd_a : eAnd fa fb ρ = eanK fb (t1 fa ρ) := id rfl
theorem eanK_t : eanK fa (.ok true ρ) = fa ρ := id rfl
theorem eanK_f : eanK fa (.ok false ρ) = .ok (.imm (.bool false)) ρ := id rfl
theorem eOr_a : eOr fa fb ρ = eorK fb (t1 fa ρ) := id rfl
theorem eorK_t : eorK fa (.ok true ρ) = .ok (.imm (.bool true)) ρ := id rfl
theorem eorK_f : eorK fa (.ok false ρ) = fa ρ := id rfl
theorem eNot_a : eNot fa ρ = enoK (t1 fa ρ) := id rfl
theorem enoK_o {b : Bool} : enoK (.ok b ρ) = .ok (.imm (.bool (!b))) ρ := id rfl
theorem eIf_a : eIf ft fa fb ρ = eifK fa fb (ft ρ) := id rfl
theorem eifK_t : eifK fa fb (.ok true ρ) = fa ρ := id rfl
theorem eifK_f : eifK fa fb (.ok false ρ) = fb ρ := id rfl
def chD (op' : PyData → PyData → Option Hd) (h2 : Hd) (r : Rs Hd) : Rs Hd := bnd r fun h4 ρ5 => f2K op' (dr h2 ρ5) (dr h4 ρ5) ρ5
def chC (op' : PyData → PyData → Option Hd) (h2 : Hd) (fc : Mo Hd) (r : Rs Hd) : Rs Hd := bnd r fun h3 ρ3 => match dr h3 ρ3 with
  | some (.bool true) => chD op' h2 (fc ρ3)
  | some (.bool false) => .ok (.imm (.bool false)) ρ3
  | _ => .stuck
def chB (op op' : PyData → PyData → Option Hd) (h1 : Hd) (fc : Mo Hd) (r : Rs Hd) : Rs Hd := bnd r fun h2 ρ2 => chC op' h2.hold fc (f2K op (dr h1 ρ2) (dr h2.hold ρ2) ρ2)
def chA (op op' : PyData → PyData → Option Hd) (fb fc : Mo Hd) (r : Rs Hd) : Rs Hd := bnd r fun h1 ρ1 => chB op op' h1.hold fc (fb ρ1)
theorem eCh_a : eCh op op' fa fb fc ρ = chA op op' fb fc (fa ρ) := id rfl
theorem chA_o : chA op op' fb fc (.ok h ρ) = chB op op' h.hold fc (fb ρ) := id rfl
theorem chB_o {h2 : Hd} : chB op op' h fc (.ok h2 ρ) = chC op' h2.hold fc (f2K op (dr h ρ) (dr h2.hold ρ) ρ) := id rfl
theorem chC_t : chC op' h fc (.ok (.imm (.bool true)) ρ) = chD op' h (fc ρ) := id rfl
theorem chC_f : chC op' h fc (.ok (.imm (.bool false)) ρ) = .ok (.imm (.bool false)) ρ := id rfl
theorem chD_o {h4 : Hd} : chD op' h (.ok h4 ρ) = f2K op' (dr h ρ) (dr h4 ρ) ρ := id rfl
/-! statements -/
def seqK (g : En → So) (o : So) : So := match o with
  | .nx ρ => g ρ
  | o => o
theorem sSeq_a : sSeq f g ρ = seqK g (f ρ) := id rfl
theorem seqK_nx : seqK g (.nx ρ) = g ρ := id rfl
theorem seqK_rt : seqK g (.rt h ρ) = .rt h ρ := id rfl
theorem seqK_bk : seqK g (.bk ρ) = .bk ρ := id rfl
theorem seqK_ct : seqK g (.ct ρ) = .ct ρ := id rfl
theorem seqK_exc : seqK g (.exc c ρ) = .exc c ρ := id rfl
def klK (l : List Nat) (o : So) : So := match o with
  | .nx ρ1 => .nx (killE l ρ1)
  | .ct ρ1 => .ct (killE l ρ1)
  | .bk ρ1 => .bk (killE l ρ1)
  | o => o
theorem sKl_a {l : List Nat} : sKl l f ρ = klK l (f ρ) := id rfl
theorem klK_nx {l : List Nat} : klK l (.nx ρ) = .nx (killE l ρ) := id rfl
theorem klK_ct {l : List Nat} : klK l (.ct ρ) = .ct (killE l ρ) := id rfl
theorem klK_bk {l : List Nat} : klK l (.bk ρ) = .bk (killE l ρ) := id rfl
theorem klK_rt {l : List Nat} : klK l (.rt h ρ) = .rt h ρ := id rfl
theorem klK_exc {l : List Nat} : klK l (.exc c ρ) = .exc c ρ := id rfl
theorem killE_n : killE [] ρ = ρ := id rfl
theorem killE_c {l : List Nat} : killE (j :: l) ρ = killE l (ρ.set j .unset) := id rfl
theorem turnS_nx : turnS (.nx ρ) g = g ρ := id rfl
theorem turnS_ct : turnS (.ct ρ) g = g ρ := id rfl
theorem turnS_bk : turnS (.bk ρ) g = .nx ρ := id rfl
theorem turnS_rt : turnS (.rt h ρ) g = .rt h ρ := id rfl
theorem turnS_exc : turnS (.exc c ρ) g = .exc c ρ := id rfl
theorem sNil_a : sNil ρ = .nx ρ := id rfl
theorem sBrk_a : sBrk ρ = .bk ρ := id rfl
theorem sCnt_a : sCnt ρ = .ct ρ := id rfl
theorem sExc_a : sExc c ρ = .exc c ρ := id rfl
theorem setV_a {s : Slot} : setV i s ρ = if i < ρ.length then .nx (ρ.set i s) else .stuck := id rfl
def seB (i : Nat) (r : Rs PyData) : So := bndS r fun d ρ2 => setV i (.val d) ρ2
def seA (i : Nat) (r : Rs Hd) : So := bndS r fun h ρ => match h with
  | .imm d => setV i (.val d) ρ
  | .fresh ds => setV i (.own ds) ρ
  | .slot j => seB i (esc (.slot j) ρ)
theorem sSet_a : sSet i fa ρ = seA i (fa ρ) := id rfl
theorem seA_i : seA i (.ok (.imm d) ρ) = setV i (.val d) ρ := id rfl
theorem seA_f : seA i (.ok (.fresh ds) ρ) = setV i (.own ds) ρ := id rfl
theorem seA_s : seA i (.ok (.slot j) ρ) = seB i (esc (.slot j) ρ) := id rfl
theorem seA_e : seA i (.exc c ρ) = .exc c ρ := id rfl
theorem seB_o : seB i (.ok d ρ) = setV i (.val d) ρ := id rfl
def optS (o : Option En) : So := match o with
  | some ρ => .nx ρ
  | none => .stuck
theorem optS_s : optS (some ρ) = .nx ρ := id rfl
def asB (tf : PyData → En → Option En) (r : Rs PyData) : So := bndS r fun d ρ2 => optS (tf d ρ2)
def asA (tf : PyData → En → Option En) (r : Rs Hd) : So := bndS r fun h ρ1 => asB tf (esc h ρ1)
theorem sAsg_a {tf : PyData → En → Option En} : sAsg tf fa ρ = asA tf (fa ρ) := id rfl
theorem asA_o {tf : PyData → En → Option En} : asA tf (.ok h ρ) = asB tf (esc h ρ) := id rfl
theorem asA_e {tf : PyData → En → Option En} : asA tf (.exc c ρ) = .exc c ρ := id rfl
theorem asB_o {tf : PyData → En → Option En} : asB tf (.ok d ρ) = optS (tf d ρ) := id rfl
def parK (i j : Nat) (ds : List PyData) (ρ : En) : So := match ds with
  | [d, e] => if i < ρ.length ∧ j < ρ.length then .nx ((ρ.set i (.val d)).set j (.val e)) else .stuck
  | _ => .stuck
def paB (i j : Nat) (r : Rs (List PyData)) : So := bndS r fun ds ρ2 => parK i j ds ρ2
def paA (i j : Nat) (r : Rs (List Hd)) : So := bndS r fun hs ρ1 => paB i j (escs hs ρ1)
theorem sPar_a : sPar i j fl ρ = paA i j (fl ρ) := id rfl
theorem paA_o : paA i j (.ok hs ρ) = paB i j (escs hs ρ) := id rfl
theorem paB_o : paB i j (.ok ds ρ) = parK i j ds ρ := id rfl
theorem parK_s : parK i j [d, d'] ρ = if i < ρ.length ∧ j < ρ.length then .nx ((ρ.set i (.val d)).set j (.val d')) else .stuck := id rfl
def exA (r : Rs Hd) : So := bndS r fun _ ρ1 => .nx ρ1
theorem sExpr_a : sExpr fa ρ = exA (fa ρ) := id rfl
theorem exA_o : exA (.ok h ρ) = .nx ρ := id rfl
theorem exA_e : exA (.exc c ρ) = .exc c ρ := id rfl
def retK (j : Nat) (o : Option Slot) (ρ : En) : So := match o with
  | some (.val d) => .rt (.imm d) ρ
  | some (.own ds) => .rt (.fresh ds) (ρ.set j .unset)
  | _ => .stuck
def reA (r : Rs Hd) : So := bndS r retS
theorem sRet_a : sRet fa ρ = reA (fa ρ) := id rfl
theorem reA_o : reA (.ok h ρ) = retS h ρ := id rfl
theorem reA_e : reA (.exc c ρ) = .exc c ρ := id rfl
theorem retS_i : retS (.imm d) ρ = .rt (.imm d) ρ := id rfl
theorem retS_f : retS (.fresh ds) ρ = .rt (.fresh ds) ρ := id rfl
theorem retS_s : retS (.slot j) ρ = retK j ρ[j]? ρ := id rfl
theorem retK_v : retK j (some (.val d)) ρ = .rt (.imm d) ρ := id rfl
theorem retK_o : retK j (some (.own ds)) ρ = .rt (.fresh ds) (ρ.set j .unset) := id rfl
def ifK (f g : En → So) (r : Rs Bool) : So := bndS r fun b ρ1 => if b = true then f ρ1 else g ρ1
theorem sIf_a : sIf ft f g ρ = ifK f g (ft ρ) := id rfl
theorem ifK_t : ifK f g (.ok true ρ) = f ρ := id rfl
theorem ifK_f : ifK f g (.ok false ρ) = g ρ := id rfl
theorem ifK_e : ifK f g (.exc c ρ) = .exc c ρ := id rfl
theorem gN_a : gN i d ρ = if i < ρ.length then some (ρ.set i (.val d)) else none := id rfl
theorem gT_a {tfs : List PyData → En → Option En} : gT tfs (.tuple ds) ρ = tfs ds ρ := id rfl
theorem gT_l {tfs : List PyData → En → Option En} : gT tfs (.list ds) ρ = tfs ds ρ := id rfl
theorem gNil_a : gNil' [] ρ = some ρ := id rfl
def goK (tfs : List PyData → En → Option En) (ds : List PyData) (o : Option En) : Option En := o.bind fun ρ1 => tfs ds ρ1
theorem gCons_a {tf : PyData → En → Option En} {tfs : List PyData → En → Option En} : gCons' tf tfs (d :: ds) ρ = goK tfs ds (tf d ρ) := id rfl
theorem goK_s {tfs : List PyData → En → Option En} : goK tfs ds (some ρ) = tfs ds ρ := id rfl
def cellK (o : Option Slot) (s : So) : So := if isLst o = true then s else .stuck
theorem cellK_o {s : So} : cellK (some (.own ds)) s = s := id rfl
theorem cellK_a {s : So} : cellK (some (.arg ds)) s = s := id rfl
noncomputable def apK (j : Nat) (d : PyData) (ρ : En) : Option Slot → So
  | some (.own ds) => @ite _ (ds.length < sizeLine) (Classical.propDecidable _) (.nx (ρ.set j (.own (ds ++ [d])))) .stuck
  | some (.arg ds) => @ite _ (ds.length < sizeLine) (Classical.propDecidable _) (.nx (ρ.set j (.arg (ds ++ [d])))) .stuck
  | _ => .stuck
noncomputable def apB (j : Nat) (r : Rs PyData) : So := bndS r fun d ρ2 => apK j d ρ2 ρ2[j]?
noncomputable def apA (j : Nat) (r : Rs Hd) : So := bndS r fun h ρ1 => apB j (esc h ρ1)
theorem ite_so {p : Prop} {inst : Decidable p} {e : En} : (match (@ite _ p inst (some ds) none) with | some es => So.nx (e.set j (.own es)) | none => So.stuck) = @ite _ p inst (So.nx (e.set j (.own ds))) .stuck := by
  by_cases hp : p
  · rw [if_pos hp, if_pos hp]
  · rw [if_neg hp, if_neg hp]
theorem ite_sa {p : Prop} {inst : Decidable p} {e : En} : (match (@ite _ p inst (some ds) none) with | some es => So.nx (e.set j (.arg es)) | none => So.stuck) = @ite _ p inst (So.nx (e.set j (.arg ds))) .stuck := by
  by_cases hp : p
  · rw [if_pos hp, if_pos hp]
  · rw [if_neg hp, if_neg hp]
theorem sApp_a : sApp j fe ρ = cellK ρ[j]? (apA j (fe ρ)) := by
  simp only [sApp, cellK, apA]
  congr
  funext h ρ1
  simp only [apB]
  congr
  funext d ρ2
  unfold wrS
  generalize ρ2[j]? = o
  rcases o with _ | (_ | _ | ds | ds | _ | _ | _ | _ | _ | _)
  · rfl
  · rfl
  · rfl
  · exact ite_so
  · exact ite_sa
  · rfl
  · rfl
  · rfl
  · rfl
  · rfl
  · rfl
theorem apA_o : apA j (.ok h ρ) = apB j (esc h ρ) := id rfl
theorem apA_e : apA j (.exc c ρ) = .exc c ρ := id rfl
theorem apB_o : apB j (.ok d ρ) = apK j d ρ ρ[j]? := id rfl
theorem apK_o : apK j d ρ (some (.own ds)) = @ite _ (ds.length < sizeLine) (Classical.propDecidable _) (.nx (ρ.set j (.own (ds ++ [d])))) .stuck := id rfl
theorem apK_a : apK j d ρ (some (.arg ds)) = @ite _ (ds.length < sizeLine) (Classical.propDecidable _) (.nx (ρ.set j (.arg (ds ++ [d])))) .stuck := id rfl
noncomputable def etK (j : Nat) (d : PyData) (ρ : En) (o : Option Slot) : So := match d, o with
  | .list es, some (.own ds) => @ite _ (ds.length + es.length ≤ sizeLine) (Classical.propDecidable _) (.nx (ρ.set j (.own (ds ++ es)))) .stuck
  | .list es, some (.arg ds) => @ite _ (ds.length + es.length ≤ sizeLine) (Classical.propDecidable _) (.nx (ρ.set j (.arg (ds ++ es)))) .stuck
  | _, _ => .stuck
noncomputable def etB (j : Nat) (r : Rs PyData) : So := bndS r fun d ρ2 => etK j d ρ2 ρ2[j]?
noncomputable def etA (j : Nat) (r : Rs Hd) : So := bndS r fun h ρ1 => etB j (esc h ρ1)
theorem sExt_a : sExt j fe ρ = cellK ρ[j]? (etA j (fe ρ)) := by
  simp only [sExt, cellK, etA]
  congr
  funext h ρ1
  simp only [etB]
  congr
  funext d ρ2
  cases d with
  | list es =>
    dsimp only
    unfold wrS
    generalize ρ2[j]? = o
    rcases o with _ | (_ | _ | ds | ds | _ | _ | _ | _ | _ | _)
    · rfl
    · rfl
    · rfl
    · exact ite_so
    · exact ite_sa
    · rfl
    · rfl
    · rfl
    · rfl
    · rfl
    · rfl
  | _ => simp only [etK]
theorem etA_o : etA j (.ok h ρ) = etB j (esc h ρ) := id rfl
theorem etA_e : etA j (.exc c ρ) = .exc c ρ := id rfl
theorem etB_o : etB j (.ok d ρ) = etK j d ρ ρ[j]? := id rfl
theorem etK_o : etK j (.list es) ρ (some (.own ds)) = @ite _ (ds.length + es.length ≤ sizeLine) (Classical.propDecidable _) (.nx (ρ.set j (.own (ds ++ es)))) .stuck := id rfl
theorem etK_a : etK j (.list es) ρ (some (.arg ds)) = @ite _ (ds.length + es.length ≤ sizeLine) (Classical.propDecidable _) (.nx (ρ.set j (.arg (ds ++ es)))) .stuck := id rfl
def suF (o : Option Nat) (j : Nat) (d : PyData) (ow : Bool) (ds : List PyData) (ρ : En) : So := match o with
  | some m => .nx (ρ.set j (if ow = true then .own (ds.set m d) else .arg (ds.set m d)))
  | none => .stuck
theorem suF_o {m : Nat} : suF (some m) j d true ds ρ = .nx (ρ.set j (.own (ds.set m d))) := id rfl
theorem suF_a {m : Nat} : suF (some m) j d false ds ρ = .nx (ρ.set j (.arg (ds.set m d))) := id rfl
def suK (j : Nat) (d : PyData) (k : Int) (ρ : En) (o : Option Slot) : So := match o with
  | some (.own ds) => suF (ixN ds.length k) j d true ds ρ
  | some (.arg ds) => suF (ixN ds.length k) j d false ds ρ
  | _ => .stuck
theorem suK_o {k : Int} : suK j d k ρ (some (.own ds)) = suF (ixN ds.length k) j d true ds ρ := id rfl
theorem suK_a {k : Int} : suK j d k ρ (some (.arg ds)) = suF (ixN ds.length k) j d false ds ρ := id rfl
def sbD (j : Nat) (d : PyData) (o : Option PyData) (ρ : En) : So := match o with
  | some (.int k) => suK j d k ρ ρ[j]?
  | _ => .stuck
theorem sbD_i {k : Int} : sbD j d (some (.int k)) ρ = suK j d k ρ ρ[j]? := id rfl
def sbC (j : Nat) (d : PyData) (r : Rs Hd) : So := bndS r fun hi ρ3 => sbD j d (dr hi ρ3) ρ3
def sbB (j : Nat) (fi : Mo Hd) (r : Rs PyData) : So := bndS r fun d ρ2 => cellK ρ2[j]? (sbC j d (fi ρ2))
def sbA (j : Nat) (fi : Mo Hd) (r : Rs Hd) : So := bndS r fun h ρ1 => sbB j fi (esc h ρ1)
theorem sSub_a : sSub j fi fe ρ = sbA j fi (fe ρ) := by
  simp only [sSub, sbA]
  congr
  funext h ρ1
  simp only [sbB]
  congr
  funext d ρ2
  simp only [cellK, sbC]
  congr
  funext hi ρ3
  rcases dr hi ρ3 with _ | (_ | _ | k | _ | _ | _ | _)
  · rfl
  · rfl
  · rfl
  · simp only [sbD, suK, wrS]
    rcases ρ3[j]? with _ | (_ | _ | ds | ds | _ | _ | _ | _ | _ | _)
    · rfl
    · rfl
    · rfl
    · cases z : ixN ds.length k <;> simp only [z, suF, Option.map, if_true]
    · cases z : ixN ds.length k <;> simp only [z, suF, Option.map, Bool.false_eq_true, if_false]
    · rfl
    · rfl
    · rfl
    · rfl
    · rfl
    · rfl
  · rfl
  · rfl
  · rfl
  · rfl
theorem sbA_o : sbA j fi (.ok h ρ) = sbB j fi (esc h ρ) := id rfl
theorem sbA_e : sbA j fi (.exc c ρ) = .exc c ρ := id rfl
theorem sbB_o : sbB j fi (.ok d ρ) = cellK ρ[j]? (sbC j d (fi ρ)) := id rfl
theorem sbC_o : sbC j d (.ok h ρ) = sbD j d (dr h ρ) ρ := id rfl
def foK (tf : PyData → En → Option En) (f : En → So) (r : Rs (List PyData)) : So := bndS r fun ds ρ1 => forL tf f ds ρ1
theorem sFor_a {il : Mo (List PyData)} {tf : PyData → En → Option En} : sFor il tf f ρ = foK tf f (il ρ) := id rfl
theorem foK_o {tf : PyData → En → Option En} : foK tf f (.ok ds ρ) = forL tf f ds ρ := id rfl
theorem foK_e {tf : PyData → En → Option En} : foK tf f (.exc c ρ) = .exc c ρ := id rfl
/-! iterables -/
def itK (o : Option (List PyData)) (ρ : En) : Rs (List PyData) := match o with
  | some ds => .ok ds ρ
  | none => .stuck
theorem itK_s : itK (some ds) ρ = .ok ds ρ := id rfl
def ilB (r : Rs PyData) : Rs (List PyData) := bnd r fun d ρ2 => itK (items d) ρ2
def ilA (r : Rs Hd) : Rs (List PyData) := bnd r fun h ρ1 => ilB (esc h ρ1)
theorem iL_a : iL fa ρ = ilA (fa ρ) := id rfl
theorem ilA_o : ilA (.ok h ρ) = ilB (esc h ρ) := id rfl
theorem ilA_e : ilA (.exc c ρ) = .exc c ρ := id rfl
theorem ilB_o : ilB (.ok d ρ) = itK (items d) ρ := id rfl
theorem items_l : items (.list ds) = some ds := id rfl
theorem items_t : items (.tuple ds) = some ds := id rfl
noncomputable def r1K (o : Option (List PyData)) (ρ : En) : Rs (List PyData) := match o with
  | some [.int j] => @ite _ (-(2 ^ 62) ≤ j ∧ j < 2 ^ 62) (Classical.propDecidable _) (.ok (rng 0 j.toNat) ρ) .stuck
  | _ => .stuck
noncomputable def r1A (r : Rs (List Hd)) : Rs (List PyData) := bnd r fun hs ρ1 => r1K (drs hs ρ1) ρ1
theorem iR1_a : iR1 fl ρ = r1A (fl ρ) := id rfl
theorem r1A_o : r1A (.ok hs ρ) = r1K (drs hs ρ) ρ := id rfl
theorem r1A_e : r1A (.exc c ρ) = .exc c ρ := id rfl
theorem r1K_s {j : Int} (h1 : -1000000000 ≤ j) (h2 : j ≤ 1000000000) : r1K (some [.int j]) ρ = .ok (rng 0 j.toNat) ρ := by
  show @ite _ (-(2 ^ 62) ≤ j ∧ j < 2 ^ 62) (Classical.propDecidable _) _ _ = _
  rw [if_pos ⟨by omega, by omega⟩]
noncomputable def r2K (o : Option (List PyData)) (ρ : En) : Rs (List PyData) := match o with
  | some [.int i, .int j] => @ite _ (-(2 ^ 62) ≤ i ∧ i < 2 ^ 62 ∧ -(2 ^ 62) ≤ j ∧ j < 2 ^ 62) (Classical.propDecidable _) (.ok (rng i (j - i).toNat) ρ) .stuck
  | _ => .stuck
noncomputable def r2A (r : Rs (List Hd)) : Rs (List PyData) := bnd r fun hs ρ1 => r2K (drs hs ρ1) ρ1
theorem iR2_a : iR2 fl ρ = r2A (fl ρ) := id rfl
theorem r2A_o : r2A (.ok hs ρ) = r2K (drs hs ρ) ρ := id rfl
theorem r2A_e : r2A (.exc c ρ) = .exc c ρ := id rfl
theorem r2K_s {i j : Int} (h1 : -1000000000 ≤ i) (h2 : i ≤ 1000000000) (h3 : -1000000000 ≤ j) (h4 : j ≤ 1000000000) : r2K (some [.int i, .int j]) ρ = .ok (rng i (j - i).toNat) ρ := by
  show @ite _ (-(2 ^ 62) ≤ i ∧ i < 2 ^ 62 ∧ -(2 ^ 62) ≤ j ∧ j < 2 ^ 62) (Classical.propDecidable _) _ _ = _
  rw [if_pos ⟨by omega, by omega, by omega, by omega⟩]
noncomputable def r3K (o : Option (List PyData)) (ρ : En) : Rs (List PyData) := match o with
  | some [.int i, .int j, .int (-1)] => @ite _ (-(2 ^ 62) ≤ i ∧ i < 2 ^ 62 ∧ -(2 ^ 62) ≤ j ∧ j < 2 ^ 62) (Classical.propDecidable _) (.ok (rngC i (-1) (i - j).toNat) ρ) .stuck
  | _ => .stuck
noncomputable def r3A (r : Rs (List Hd)) : Rs (List PyData) := bnd r fun hs ρ1 => r3K (drs hs ρ1) ρ1
theorem iR3_a : iR3 fl ρ = r3A (fl ρ) := id rfl
theorem r3A_o : r3A (.ok hs ρ) = r3K (drs hs ρ) ρ := id rfl
theorem r3K_s {i j : Int} (h1 : -1000000000 ≤ i) (h2 : i ≤ 1000000000) (h3 : -1000000000 ≤ j) (h4 : j ≤ 1000000000) : r3K (some [.int i, .int j, .int (-1)]) ρ = .ok (rngC i (-1) (i - j).toNat) ρ := by
  show @ite _ (-(2 ^ 62) ≤ i ∧ i < 2 ^ 62 ∧ -(2 ^ 62) ≤ j ∧ j < 2 ^ 62) (Classical.propDecidable _) _ _ = _
  rw [if_pos ⟨by omega, by omega, by omega, by omega⟩]
def enK (ds : List PyData) (ρ : En) : Rs (List PyData) := match ds with
  | [.list ds] => .ok (enumD ds) ρ
  | _ => .stuck
def enB (r : Rs (List PyData)) : Rs (List PyData) := bnd r fun ds ρ2 => enK ds ρ2
def enA (r : Rs (List Hd)) : Rs (List PyData) := bnd r fun hs ρ1 => enB (escs hs ρ1)
theorem iEn_a : iEn fl ρ = enA (fl ρ) := id rfl
theorem enA_o : enA (.ok hs ρ) = enB (escs hs ρ) := id rfl
theorem enA_e : enA (.exc c ρ) = .exc c ρ := id rfl
theorem enB_o : enB (.ok ds ρ) = enK ds ρ := id rfl
theorem enK_l : enK [.list ds] ρ = .ok (enumD ds) ρ := id rfl
def ziK (ds : List PyData) (ρ : En) : Rs (List PyData) := match ds with
  | [.list xs, .list ys] => .ok (zipD xs ys) ρ
  | [.tuple xs, .tuple ys] => .ok (zipD xs ys) ρ
  | _ => .stuck
def ziB (r : Rs (List PyData)) : Rs (List PyData) := bnd r fun ds ρ2 => ziK ds ρ2
def ziA (r : Rs (List Hd)) : Rs (List PyData) := bnd r fun hs ρ1 => ziB (escs hs ρ1)
theorem iZi_a : iZi fl ρ = ziA (fl ρ) := id rfl
theorem ziA_o : ziA (.ok hs ρ) = ziB (escs hs ρ) := id rfl
theorem ziB_o : ziB (.ok ds ρ) = ziK ds ρ := id rfl
theorem ziK_l : ziK [.list ds, .list es] ρ = .ok (zipD ds es) ρ := id rfl
theorem ziK_t : ziK [.tuple ds, .tuple es] ρ = .ok (zipD ds es) ρ := id rfl
def rvK (d : PyData) (ρ : En) : Rs (List PyData) := match d with
  | .list ds => .ok ds.reverse ρ
  | .tuple ds => .ok ds.reverse ρ
  | _ => .stuck
def rvB (r : Rs PyData) : Rs (List PyData) := bnd r fun d ρ2 => rvK d ρ2
def rvA (r : Rs Hd) : Rs (List PyData) := bnd r fun h ρ1 => rvB (esc h ρ1)
theorem iRv_a : iRv fa ρ = rvA (fa ρ) := id rfl
theorem rvA_o : rvA (.ok h ρ) = rvB (esc h ρ) := id rfl
theorem rvB_o : rvB (.ok d ρ) = rvK d ρ := id rfl
theorem rvK_l : rvK (.list ds) ρ = .ok ds.reverse ρ := id rfl
theorem rvK_t : rvK (.tuple ds) ρ = .ok ds.reverse ρ := id rfl
def ikA (r : Rs (List PyData)) : Rs (List PyData × Option Nat) := bnd r fun ds ρ1 => .ok (ds, none) ρ1
theorem iK_a {il : Mo (List PyData)} : iK il ρ = ikA (il ρ) := id rfl
theorem ikA_o : ikA (.ok ds ρ) = .ok (ds, none) ρ := id rfl
theorem ikA_e : ikA (.exc c ρ) = .exc c ρ := id rfl
def inK (i : Nat) (o : Option Slot) (ρ : En) : Rs (List PyData × Option Nat) := match o with
  | some (.val d) => (match items d with
    | some ds => .ok (ds, none) ρ
    | none => .stuck)
  | some (.own ds) => .ok (ds, some i) ρ
  | some (.arg ds) => .ok (ds, some i) ρ
  | _ => .stuck
theorem iN_a : iN i ρ = inK i ρ[i]? ρ := id rfl
theorem inK_l : inK i (some (.val (.list ds))) ρ = .ok (ds, none) ρ := id rfl
theorem inK_t : inK i (some (.val (.tuple ds))) ρ = .ok (ds, none) ρ := id rfl
theorem inK_o : inK i (some (.own ds)) ρ = .ok (ds, some i) ρ := id rfl
theorem inK_a : inK i (some (.arg ds)) ρ = .ok (ds, some i) ρ := id rfl
/-! slices -/
theorem pNo_a : pNo ρ = .ok none ρ := id rfl
def pK (o : Option PyData) (ρ : En) : Rs (Option Int) := match o with
  | some (.int i) => .ok (some i) ρ
  | _ => .stuck
def pA (r : Rs Hd) : Rs (Option Int) := bnd r fun h ρ1 => pK (dr h ρ1) ρ1
theorem pSome_a : pSome fa ρ = pA (fa ρ) := id rfl
theorem pA_o : pA (.ok h ρ) = pK (dr h ρ) ρ := id rfl
theorem pA_e : pA (.exc c ρ) = .exc c ρ := id rfl
theorem pK_s {k : Int} : pK (some (.int k)) ρ = .ok (some k) ρ := id rfl
section
variable {ops : PyData → Option Int → Option Int → Option Hd} {f1 f2 : Mo (Option Int)} {l u : Option Int}
def slK (op : PyData → Option Int → Option Int → Option Hd) (o : Option PyData) (l u : Option Int) (ρ : En) : Rs Hd := match o with
  | some d => opt (op d l u) ρ
  | none => .stuck
def slC (op : PyData → Option Int → Option Int → Option Hd) (h : Hd) (l : Option Int) (r : Rs (Option Int)) : Rs Hd := bnd r fun u ρ3 => slK op (dr h ρ3) l u ρ3
def slB (op : PyData → Option Int → Option Int → Option Hd) (h : Hd) (f2 : Mo (Option Int)) (r : Rs (Option Int)) : Rs Hd := bnd r fun l ρ2 => slC op h l (f2 ρ2)
def slA (op : PyData → Option Int → Option Int → Option Hd) (f1 f2 : Mo (Option Int)) (r : Rs Hd) : Rs Hd := bnd r fun h ρ1 => slB op h.hold f2 (f1 ρ1)
theorem eSl_a : eSl ops fe f1 f2 ρ = slA ops f1 f2 (fe ρ) := id rfl
theorem slA_o : slA ops f1 f2 (.ok h ρ) = slB ops h.hold f2 (f1 ρ) := id rfl
theorem slA_e : slA ops f1 f2 (.exc c ρ) = .exc c ρ := id rfl
theorem slB_o : slB ops h f2 (.ok l ρ) = slC ops h l (f2 ρ) := id rfl
theorem slC_o : slC ops h l (.ok u ρ) = slK ops (dr h ρ) l u ρ := id rfl
theorem slK_s : slK ops (some d) l u ρ = opt (ops d l u) ρ := id rfl
theorem slD_l : slD (.list ds) l u = some (.fresh (cutD ds l u)) := id rfl
theorem slD_t : slD (.tuple ds) l u = some (.imm (.tuple (cutD ds l u))) := id rfl
end
/-! isinstance -/
def isiK (o : Option Bool) (ρ : En) : Rs Hd := match o with
  | some b => .ok (.imm (.bool b)) ρ
  | none => .stuck
theorem isiK_s {b : Bool} : isiK (some b) ρ = .ok (.imm (.bool b)) ρ := id rfl
def isiA (T : String) (r : Rs Hd) : Rs Hd := bnd r fun h ρ1 => match dr h.hold ρ1 with
  | some d => isiK (isiD T d) ρ1
  | none => .stuck
def isiB (T : String) (o : Option PyData) (ρ : En) : Rs Hd := match o with
  | some d => isiK (isiD T d) ρ
  | none => .stuck
theorem eIsi_a {T : String} : eIsi T fa ρ = isiA T (fa ρ) := id rfl
theorem isiA_o {T : String} : isiA T (.ok h ρ) = isiB T (dr h.hold ρ) ρ := id rfl
theorem isiA_e {T : String} : isiA T (.exc c ρ) = .exc c ρ := id rfl
theorem isiB_s {T : String} : isiB T (some d) ρ = isiK (isiD T d) ρ := id rfl
/-! calls -/
def lentK (o : Option Slot) (j : Nat) (l : List Nat) : List Nat := if isLst o = true then j :: l else l
theorem lent_n : lent ρ [] = [] := id rfl
theorem lent_i : lent ρ (.imm d :: hs) = lent ρ hs := id rfl
theorem lent_f : lent ρ (.fresh ds :: hs) = lent ρ hs := id rfl
theorem lent_s : lent ρ (.slot j :: hs) = lentK ρ[j]? j (lent ρ hs) := id rfl
theorem lentK_v {l : List Nat} : lentK (some (.val d)) j l = l := id rfl
theorem lentK_o {l : List Nat} : lentK (some (.own ds)) j l = j :: l := id rfl
theorem lentK_a {l : List Nat} : lentK (some (.arg ds)) j l = j :: l := id rfl
theorem cleanH_t : cleanH true (.imm d) = true := id rfl
theorem cleanH_tf : cleanH true (.fresh ds) = true := id rfl
theorem cleanH_f : cleanH false (.imm d) = noList d := id rfl
theorem cleanH_ff : cleanH false (.fresh ds) = noLists ds := id rfl
theorem noList_i {k : Int} : noList (.int k) = true := id rfl
theorem noList_b {k : Bool} : noList (.bool k) = true := id rfl
theorem noList_n : noList .none = true := id rfl
theorem noList_str {k : Str} : noList (.str k) = true := id rfl
theorem noList_t : noList (.tuple ds) = noLists ds := id rfl
theorem noLists_n : noLists [] = true := id rfl
theorem noLists_c : noLists (d :: ds) = (noList d && noLists ds) := id rfl
theorem noLists_app : ∀ a b : List PyData, noLists (a ++ b) = (noLists a && noLists b)
  | [], b => rfl
  | x :: a, b => by rw [List.cons_append, noLists_c, noLists_c, noLists_app a b, Bool.and_assoc]
theorem noLists_map {γ : Type} (f : γ → PyData) (hf : ∀ x, noList (f x) = true) : ∀ l : List γ, noLists (l.map f) = true
  | [] => rfl
  | x :: l => by rw [List.map_cons, noLists_c, hf, noLists_map f hf l]; rfl
theorem noLists_ints (l : List Int) : noLists (l.map PyData.int) = true := noLists_map _ (fun _ => rfl) l
theorem noLists_cs (l : List (Nat × Int)) : noLists (l.map cs) = true := noLists_map _ (fun _ => rfl) l
def okIf (b : Bool) (h : Hd) (ρ : En) : Rs Hd := if b = true then .ok h ρ else .stuck
theorem okIf_t : okIf true h ρ = .ok h ρ := id rfl
def resK (o : So) (e : Bool) (ρ1 : En) : Rs Hd := match o with
  | .rt h _ => okIf (cleanH e h) h ρ1
  | .exc c _ => .exc c ρ1
  | _ => .stuck
def callK (n : Nat) (m : List Slot → So) (hs : List Hd) (o : Option (List PyData)) (ρ1 : En) : Rs Hd := match o with
  | some ds => if ds.length ≠ n then .stuck else resK (m (ds.map .val)) (lent ρ1 hs).isEmpty ρ1
  | none => .stuck
def caA (n : Nat) (m : List Slot → So) (r : Rs (List Hd)) : Rs Hd := bnd r fun hs ρ1 => callK n m hs (drs hs ρ1) ρ1
theorem eCall_a {n : Nat} {m : List Slot → So} : eCall n m fl ρ = caA n m (fl ρ) := id rfl
theorem caA_o {n : Nat} {m : List Slot → So} : caA n m (.ok hs ρ) = callK n m hs (drs hs ρ) ρ := id rfl
theorem caA_e {n : Nat} {m : List Slot → So} : caA n m (.exc c ρ) = .exc c ρ := id rfl
theorem callK_s {n : Nat} {m : List Slot → So} : callK n m hs (some ds) ρ = if ds.length = n then resK (m (ds.map .val)) (lent ρ hs).isEmpty ρ else .stuck := by
  by_cases h : ds.length = n
  · rw [if_pos h]; exact if_neg (fun z => z h)
  · rw [if_neg h]; exact if_pos h
theorem resK_r {e : Bool} {as : List Slot} : resK (.rt h as) e ρ = okIf (cleanH e h) h ρ := id rfl
theorem resK_e {e : Bool} {as : List Slot} : resK (.exc c as) e ρ = .exc c ρ := id rfl
def exIf (b : Bool) (c : Str) (ρ : En) : Rs Hd := if b = true then .exc c ρ else .stuck
theorem exIf_t : exIf true c ρ = .exc c ρ := id rfl
def argK (o : Option Slot) (ow : Bool) (h : Hd) (e : Bool) (j : Nat) (ρ1 : En) : Rs Hd := match o with
  | some (.arg fs) => okIf (cleanH e h && (e || noLists fs)) h (ρ1.set j (if ow = true then .own fs else .arg fs))
  | _ => .stuck
def argE (o : Option Slot) (ow : Bool) (c : Str) (e : Bool) (j : Nat) (ρ1 : En) : Rs Hd := match o with
  | some (.arg fs) => exIf (e || noLists fs) c (ρ1.set j (if ow = true then .own fs else .arg fs))
  | _ => .stuck
def resR (o : So) (ow : Bool) (n : Nat) (e : Bool) (j : Nat) (ρ1 : En) : Rs Hd := match o with
  | .rt h as' => argK as'[n]? ow h e j ρ1
  | .exc c as' => argE as'[n]? ow c e j ρ1
  | _ => .stuck
def callR2 (o : Option Slot) (n : Nat) (m : List Slot → So) (e : Bool) (ds : List PyData) (j : Nat) (ρ1 : En) : Rs Hd := match o with
  | some (.own es) => resR (m ((ds.map .val).set n (.arg es))) true n e j ρ1
  | some (.arg es) => resR (m ((ds.map .val).set n (.arg es))) false n e j ρ1
  | _ => .stuck
def callR (np n : Nat) (m : List Slot → So) (hs : List Hd) (o : Option (List PyData)) (q : Option Hd) (ρ1 : En) : Rs Hd := match o, q with
  | some ds, some (.slot j) => if ds.length ≠ np ∨ j ∈ lent ρ1 (hs.eraseIdx n) then .stuck else callR2 ρ1[j]? n m (lent ρ1 (hs.eraseIdx n)).isEmpty ds j ρ1
  | _, _ => .stuck
def crA (np n : Nat) (m : List Slot → So) (r : Rs (List Hd)) : Rs Hd := bnd r fun hs ρ1 => callR np n m hs (drs hs ρ1) hs[n]? ρ1
theorem eCallR_a {np n : Nat} {m : List Slot → So} : eCallR np n m fl ρ = crA np n m (fl ρ) := by
  simp only [eCallR, crA]
  congr
theorem crA_o {np n : Nat} {m : List Slot → So} : crA np n m (.ok hs ρ) = callR np n m hs (drs hs ρ) hs[n]? ρ := id rfl
theorem crA_e {np n : Nat} {m : List Slot → So} : crA np n m (.exc c ρ) = .exc c ρ := id rfl
theorem callR_s {np n : Nat} {m : List Slot → So} : callR np n m hs (some ds) (some (.slot j)) ρ = if ds.length = np then (if j ∈ lent ρ (hs.eraseIdx n) then .stuck else callR2 ρ[j]? n m (lent ρ (hs.eraseIdx n)).isEmpty ds j ρ) else .stuck := by
  by_cases h : ds.length = np <;> simp only [callR, h, ne_eq, not_true, not_false_eq_true, false_or, true_or, if_true, if_false]
theorem callR2_o {n : Nat} {m : List Slot → So} {e : Bool} : callR2 (some (.own es)) n m e ds j ρ = resR (m ((ds.map .val).set n (.arg es))) true n e j ρ := id rfl
theorem callR2_a {n : Nat} {m : List Slot → So} {e : Bool} : callR2 (some (.arg es)) n m e ds j ρ = resR (m ((ds.map .val).set n (.arg es))) false n e j ρ := id rfl
theorem resR_r {ow : Bool} {n : Nat} {e : Bool} {as : List Slot} : resR (.rt h as) ow n e j ρ = argK as[n]? ow h e j ρ := id rfl
theorem resR_e {ow : Bool} {n : Nat} {e : Bool} {as : List Slot} : resR (.exc c as) ow n e j ρ = argE as[n]? ow c e j ρ := id rfl
theorem argK_o {e : Bool} : argK (some (.arg es)) true h e j ρ = okIf (cleanH e h && (e || noLists es)) h (ρ.set j (.own es)) := id rfl
theorem argK_a {e : Bool} : argK (some (.arg es)) false h e j ρ = okIf (cleanH e h && (e || noLists es)) h (ρ.set j (.arg es)) := id rfl
theorem argE_o {e : Bool} : argE (some (.arg es)) true c e j ρ = exIf (e || noLists es) c (ρ.set j (.own es)) := id rfl
theorem argE_a {e : Bool} : argE (some (.arg es)) false c e j ρ = exIf (e || noLists es) c (ρ.set j (.arg es)) := id rfl
def pad (n : Nat) : List Slot := List.replicate n .unset
theorem pad_z : pad 0 = [] := id rfl
theorem pad_s {n : Nat} : pad (n + 1) = .unset :: pad n := id rfl
theorem fnM_a {n : Nat} {as : List Slot} : fnM n f as = finF as (f (as ++ pad (n - as.length))) := id rfl
def fiK (h : Hd) (o : Option (List Slot)) : So := match o with
  | some as => .rt h as
  | none => .stuck
def feK (c : Str) (o : Option (List Slot)) : So := match o with
  | some as => .exc c as
  | none => .stuck
theorem fiK_s {as : List Slot} : fiK h (some as) = .rt h as := id rfl
theorem feK_s {as : List Slot} : feK c (some as) = .exc c as := id rfl
theorem finF_n {as : List Slot} : finF as (.nx ρ) = fiK (.imm .none) (keepA as ρ) := id rfl
theorem finF_i {as : List Slot} : finF as (.rt (.imm d) ρ) = fiK (.imm d) (keepA as ρ) := id rfl
theorem finF_f {as : List Slot} : finF as (.rt (.fresh ds) ρ) = fiK (.fresh ds) (keepA as ρ) := id rfl
theorem finF_e {as : List Slot} : finF as (.exc c ρ) = feK c (keepA as ρ) := id rfl
def kpK (s : Slot) (o : Option (List Slot)) : Option (List Slot) := o.map (s :: ·)
theorem kpK_s {s : Slot} {as : List Slot} : kpK s (some as) = some (s :: as) := id rfl
theorem keepA_n : keepA [] ρ = some [] := id rfl
theorem keepA_a {as : List Slot} : keepA (.arg ds :: as) (.arg es :: ρ) = kpK (.arg es) (keepA as ρ) := id rfl
theorem keepA_v {s : Slot} {as : List Slot} : keepA (.val d :: as) (s :: ρ) = kpK .unset (keepA as ρ) := id rfl
/-! comprehensions -/
def cpK (r : Rs (List PyData)) (ρ1 : En) (vs : List Nat) : Rs Hd := match r with
  | .ok acc ρ2 => .ok (.fresh acc) (resE ρ1 ρ2 vs)
  | _ => .stuck
def clear (vs : List Nat) (ρ : En) : Bool := vs.all (fun v => !isCell ρ[v]?)
theorem clear_n : clear [] ρ = true := id rfl
theorem clear_c {vs : List Nat} : clear (i :: vs) ρ = (!isCell ρ[i]? && clear vs ρ) := id rfl
noncomputable def cmA (tf : PyData → En → Option En) (c : Mo Bool) (e : Mo Hd) (vs : List Nat) (r : Rs (List PyData × Option Nat)) : Rs Hd := bnd r fun s ρ1 => if clear vs ρ1 = true then cpK (compL s.2 s.1 tf c e vs s.1 [] (wipeE ρ1 vs)) ρ1 vs else .stuck
theorem eComp_a {ic : Mo (List PyData × Option Nat)} {tf : PyData → En → Option En} {vs : List Nat} : eComp ic tf ft fe vs ρ = cmA tf ft fe vs (ic ρ) := id rfl
theorem cmA_o {tf : PyData → En → Option En} {vs : List Nat} {o : Option Nat} : cmA tf ft fe vs (.ok (ds, o) ρ) = if clear vs ρ = true then cpK (compL o ds tf ft fe vs ds [] (wipeE ρ vs)) ρ vs else .stuck := id rfl
theorem cpK_o {vs : List Nat} : cpK (.ok ds ρ1) ρ vs = .ok (.fresh ds) (resE ρ ρ1 vs) := id rfl
theorem wipeE_n : wipeE ρ [] = ρ := id rfl
theorem wipeE_c {vs : List Nat} : wipeE ρ (i :: vs) = (wipeE ρ vs).set i .unset := id rfl
theorem resE_n : resE ρ1 ρ [] = ρ := id rfl
theorem resE_c {vs : List Nat} : resE ρ1 ρ (i :: vs) = (resE ρ1 ρ vs).set i (ρ1.getD i .unset) := id rfl
/-! data -/
theorem addD_i {a b : Int} : addD (.int a) (.int b) = some (.imm (.int (a + b))) := id rfl
theorem addD_l : addD (.list ds) (.list es) = @ite _ (ds.length + es.length ≤ sizeLine) (Classical.propDecidable _) (some (.fresh (ds ++ es))) none := id rfl
theorem addD_t : addD (.tuple ds) (.tuple es) = @ite _ (ds.length + es.length ≤ sizeLine) (Classical.propDecidable _) (some (.imm (.tuple (ds ++ es)))) none := id rfl
theorem subD_i {a b : Int} : subD (.int a) (.int b) = some (.imm (.int (a - b))) := id rfl
theorem mulD_i {a b : Int} (h1 : -(2 ^ 250) < a) (h2 : a < 2 ^ 250) (h3 : -(2 ^ 250) < b) (h4 : b < 2 ^ 250) : mulD (.int a) (.int b) = some (.imm (.int (a * b))) := mulD_int (mulOk_small ⟨h1, h2⟩ ⟨h3, h4⟩)
theorem mulD_l {k : Int} : mulD (.list ds) (.int k) = @ite _ (-(2 ^ 63) ≤ k ∧ k < 2 ^ 63 ∧ ds.length * k.toNat ≤ sizeLine) (Classical.propDecidable _) (some (.fresh (List.replicate k.toNat ds).flatten)) none := id rfl
theorem mulD_t {k : Int} : mulD (.tuple ds) (.int k) = @ite _ (-(2 ^ 63) ≤ k ∧ k < 2 ^ 63 ∧ ds.length * k.toNat ≤ sizeLine) (Classical.propDecidable _) (some (.imm (.tuple (List.replicate k.toNat ds).flatten))) none := id rfl
theorem mul_if {α : Sort _} {k : Int} {n : Nat} {inst : Decidable (-(2 ^ 63) ≤ k ∧ k < 2 ^ 63 ∧ n ≤ sizeLine)} {a b : α} (h1 : -1000000 ≤ k) (h2 : k ≤ 1000000) (h : n ≤ 1000000) : @ite _ (-(2 ^ 63) ≤ k ∧ k < 2 ^ 63 ∧ n ≤ sizeLine) inst a b = a := by
  rw [if_pos]
  have := sizeLine_eq
  exact ⟨by omega, by omega, by omega⟩
theorem rep1 {γ : Type} {x : γ} {n : Nat} : (List.replicate n [x]).flatten = List.replicate n x := by
  induction n with
  | zero => rfl
  | succ n ih => rw [List.replicate_succ, List.flatten_cons, ih]; rfl
theorem fdivD_i {a b : Int} (h0 : 0 < b) (h : b < 2 ^ 250) : fdivD (.int a) (.int b) = some (.imm (.int (a / b))) := fdivD_int (divOk_small h0 h)
theorem modD_i {a b : Int} (h0 : 0 < b) : modD (.int a) (.int b) = some (.imm (.int (a % b))) := modD_int h0
theorem pow10_18 : powD (.int 10) (.int 18) = some (.imm (.int (10 ^ 18))) := powD_10 18 (by decide)
theorem pow10_60 : powD (.int 10) (.int 60) = some (.imm (.int (10 ^ 60))) := powD_10 60 (by decide)
theorem pow10_59 : powD (.int 10) (.int 59) = some (.imm (.int (10 ^ 59))) := powD_10 59 (by decide)
theorem negD_i {a : Int} : negD (.int a) = some (.imm (.int (-a))) := id rfl
theorem ltD_i {a b : Int} : ltD (.int a) (.int b) = some (.imm (.bool (decide (a < b)))) := id rfl
theorem leD_i {a b : Int} : leD (.int a) (.int b) = some (.imm (.bool (decide (a ≤ b)))) := id rfl
theorem gtD_i {a b : Int} : gtD (.int a) (.int b) = some (.imm (.bool (decide (b < a)))) := id rfl
theorem geD_i {a b : Int} : geD (.int a) (.int b) = some (.imm (.bool (decide (b ≤ a)))) := id rfl
theorem lenD_l : lenD [.list ds] = some (.imm (.int ds.length)) := id rfl
theorem lenD_t : lenD [.tuple ds] = some (.imm (.int ds.length)) := id rfl
theorem listD_l : listD [.list ds] = some (.fresh ds) := id rfl
theorem listD_t : listD [.tuple ds] = some (.fresh ds) := id rfl
theorem tupleD_l : tupleD [.list ds] = some (.imm (.tuple ds)) := id rfl
theorem tupleD_t : tupleD [.tuple ds] = some (.imm (.tuple ds)) := id rfl
theorem max2D_i {a b : Int} : max2D [.int a, .int b] = some (.imm (.int (if b > a then b else a))) := id rfl
theorem min2D_i {a b : Int} : min2D [.int a, .int b] = some (.imm (.int (if b < a then b else a))) := id rfl
theorem intD_i {a : Int} : intD [.int a] = some (.imm (.int a)) := id rfl
theorem intD_b {a : Bool} : intD [.bool a] = some (.imm (.int (if a then 1 else 0))) := id rfl
theorem revD_l : revD (.list ds) = some (.fresh ds.reverse) := id rfl
theorem revD_t : revD (.tuple ds) = some (.imm (.tuple ds.reverse)) := id rfl
theorem sumD_i (l : List Int) : sumD [.list (l.map .int)] = some (.imm (.int l.sum)) := by simp only [sumD, intsOf_map, Option.map_some]
/-- a place of a sequence -/
def ixK (o : Option PyData) : Option Hd := o.map .imm
theorem ixD_l {k : Int} : ixD (.list ds) (.int k) = ixK (atI ds k) := id rfl
theorem ixK_s : ixK (some d) = some (.imm d) := id rfl
theorem atI_nn {γ : Type} {l : List γ} {n : Nat} (h : n < l.length) : atI l (n : Int) = l[n]? := by
  simp only [atI, ixN]
  rw [if_pos (by omega), if_pos (by omega)]
  rfl
end
/-! loops -/
def foT (tf : PyData → En → Option En) (b : En → So) (ds : List PyData) (o : Option En) : So := match o with
  | some ρ => turnS (b ρ) (forL tf b ds)
  | none => .stuck
/-- a loop whose state is known at each place -/
theorem forL_list {α : Type} {tf : PyData → En → Option En} {b : En → So} (f : α → PyData) (l : List α) (V : Nat → En)
    (h : ∀ i x, l[i]? = some x → ∃ ρ1, tf (f x) (V i) = some ρ1 ∧ (b ρ1 = .nx (V (i + 1)) ∨ b ρ1 = .ct (V (i + 1)))) : forL tf b (l.map f) (V 0) = .nx (V l.length) := by
  obtain ⟨ρ', e, q⟩ := for_inv (tf := tf) (b := b) (ds := l.map f) (ρ := V 0) (fun i ρ => ρ = V i) rfl (by
    rintro i d ρ hd rfl
    obtain ⟨x, hx, rfl⟩ := map_get hd
    obtain ⟨ρ1, e1, e2⟩ := h i x hx
    exact ⟨ρ1, V (i + 1), e1, e2, rfl⟩)
  rw [e, q, List.length_map]
theorem forL_rng {tf : PyData → En → Option En} {b : En → So} (lo : Int) (n : Nat) (V : Nat → En)
    (h : ∀ i, i < n → ∃ ρ1, tf (.int (lo + i)) (V i) = some ρ1 ∧ (b ρ1 = .nx (V (i + 1)) ∨ b ρ1 = .ct (V (i + 1)))) : forL tf b (rng lo n) (V 0) = .nx (V n) := by
  have := forL_list (tf := tf) (b := b) (fun k : Nat => .int (lo + (k : Int))) (List.range n) V (fun i x hx => by
    obtain ⟨hi, e⟩ := List.getElem?_eq_some_iff.mp hx
    rw [List.getElem_range] at e
    subst e
    exact h i (by simpa using hi))
  rw [List.length_range] at this
  exact this
/-- a loop with a state, that may leave -/
def runO {α σ : Type} (step : σ → α → Except So σ) : List α → σ → Except So σ
  | [], s => .ok s
  | x :: l, s => match step s x with
    | .ok s' => runO step l s'
    | .error o => .error o
def So.leaves : So → Prop
  | .rt _ _ => True
  | .exc _ _ => True
  | .bk _ => True
  | _ => False
/-- a comprehension over one name, whose rounds leave the state -/
theorem comp1 {α : Type} {src : Option Nat} {all : List PyData} {e : Mo Hd} {v : Nat} (f g : α → PyData) (V : Slot → En) (hs : srcOk src all (V .unset)) (hV : ∀ d, gN v d (V .unset) = some (V (.val d))) (hW : ∀ d, wipeE (V (.val d)) [v] = V .unset) (l : List α) (hl : l.length ≤ 1000000)
    (he : ∀ x ∈ l, e (V (.val (f x))) = .ok (.imm (g x)) (V (.val (f x)))) : compL src all (gN v) tYes' e [v] (l.map f) [] (V .unset) = .ok (l.map g) (V .unset) := by
  have := compL_mapA (src := src) (all := all) (tf := gN v) (e := e) (vs := [v]) f g (ρ := V .unset) hs l [] (fun x hx => ⟨_, _, _, _, hV _, he x hx, rfl, hW _⟩) (by simpa using hl)
  simpa using this
theorem isi_int_none : isiD "int" .none = some false := id rfl
theorem isi_int_bool {x : Bool} : isiD "int" (.bool x) = some true := id rfl
theorem isi_int_int {x : Int} : isiD "int" (.int x) = some true := id rfl
theorem isi_int_str {x : Str} : isiD "int" (.str x) = some false := id rfl
theorem isi_int_list {x : List PyData} : isiD "int" (.list x) = some false := id rfl
theorem isi_int_tuple {x : List PyData} : isiD "int" (.tuple x) = some false := id rfl
theorem isi_bool_none : isiD "bool" .none = some false := id rfl
theorem isi_bool_bool {x : Bool} : isiD "bool" (.bool x) = some true := id rfl
theorem isi_bool_int {x : Int} : isiD "bool" (.int x) = some false := id rfl
theorem isi_bool_str {x : Str} : isiD "bool" (.str x) = some false := id rfl
theorem isi_bool_list {x : List PyData} : isiD "bool" (.list x) = some false := id rfl
theorem isi_bool_tuple {x : List PyData} : isiD "bool" (.tuple x) = some false := id rfl
theorem isi_tuple_none : isiD "tuple" .none = some false := id rfl
theorem isi_tuple_bool {x : Bool} : isiD "tuple" (.bool x) = some false := id rfl
theorem isi_tuple_int {x : Int} : isiD "tuple" (.int x) = some false := id rfl
theorem isi_tuple_str {x : Str} : isiD "tuple" (.str x) = some false := id rfl
theorem isi_tuple_list {x : List PyData} : isiD "tuple" (.list x) = some false := id rfl
theorem isi_tuple_tuple {x : List PyData} : isiD "tuple" (.tuple x) = some true := id rfl
theorem isi_list_none : isiD "list" .none = some false := id rfl
theorem isi_list_bool {x : Bool} : isiD "list" (.bool x) = some false := id rfl
theorem isi_list_int {x : Int} : isiD "list" (.int x) = some false := id rfl
theorem isi_list_str {x : Str} : isiD "list" (.str x) = some false := id rfl
theorem isi_list_list {x : List PyData} : isiD "list" (.list x) = some true := id rfl
theorem isi_list_tuple {x : List PyData} : isiD "list" (.tuple x) = some false := id rfl
theorem isi_str_none : isiD "str" .none = some false := id rfl
theorem isi_str_bool {x : Bool} : isiD "str" (.bool x) = some false := id rfl
theorem isi_str_int {x : Int} : isiD "str" (.int x) = some false := id rfl
theorem isi_str_str {x : Str} : isiD "str" (.str x) = some true := id rfl
theorem isi_str_list {x : List PyData} : isiD "str" (.list x) = some false := id rfl
theorem isi_str_tuple {x : List PyData} : isiD "str" (.tuple x) = some false := id rfl
theorem isi_int_dict {x : List (PyData × PyData)} : isiD "int" (.dict x) = some false := id rfl
theorem isi_bool_dict {x : List (PyData × PyData)} : isiD "bool" (.dict x) = some false := id rfl
theorem isi_tuple_dict {x : List (PyData × PyData)} : isiD "tuple" (.dict x) = some false := id rfl
theorem isi_list_dict {x : List (PyData × PyData)} : isiD "list" (.dict x) = some false := id rfl
theorem isi_str_dict {x : List (PyData × PyData)} : isiD "str" (.dict x) = some false := id rfl
/-! exceptions -/
def tryK (L : List Str) (T : Str) (i j : Nat) (o : So) : So := match o with
  | .exc c ρ1 => if c ∈ L ∧ i < ρ1.length ∧ j < ρ1.length then (if excSub c T = true then .nx ((ρ1.set i .unset).set j (.exn c)) else .exc c ρ1) else .stuck
  | o => o
section
variable {L : List Str} {T c : Str} {i j : Nat} {f : En → So} {ρ : En} {h : Hd}
theorem sTry_a : sTry L T i j f ρ = tryK L T i j (f ρ) := id rfl
theorem tryK_nx : tryK L T i j (.nx ρ) = .nx ρ := id rfl
theorem tryK_rt : tryK L T i j (.rt h ρ) = .rt h ρ := id rfl
def isxK (L : List Str) (T : Str) (o : Option Slot) (ρ : En) : Rs Hd := match o with
  | some (.exn c) => if c ∈ L then .ok (.imm (.bool (excSub c T))) ρ else .stuck
  | some (.val .none) => .ok (.imm (.bool false)) ρ
  | _ => .stuck
theorem eIsx_a : eIsx L T j ρ = isxK L T ρ[j]? ρ := id rfl
theorem isxK_n : isxK L T (some (.val .none)) ρ = .ok (.imm (.bool false)) ρ := id rfl
theorem isxK_x (h1 : c ∈ L) : isxK L T (some (.exn c)) ρ = .ok (.imm (.bool (excSub c T))) ρ := if_pos h1
def isnK (o : Option Slot) (ρ : En) : Rs Bool := match o with
  | some (.exn _) => .ok false ρ
  | some (.val .none) => .ok true ρ
  | _ => .stuck
theorem tIsN_a : tIsN j ρ = isnK ρ[j]? ρ := id rfl
theorem isnK_x : isnK (some (.exn c)) ρ = .ok false ρ := id rfl
theorem isnK_n : isnK (some (.val .none)) ρ = .ok true ρ := id rfl
theorem cell_exn : isCell (some (.exn c)) = false := id rfl
end
/-! methods -/
section
variable {tg : PyData → Bool} {opm : PyData → List PyData → Option Hd} {fo : Mo Hd} {fl : Mo (List Hd)} {ρ : En} {h : Hd} {hs : List Hd} {d : PyData} {ds : List PyData} {c : Str}
def mtD (op : PyData → List PyData → Option Hd) (o : Option PyData) (os : Option (List PyData)) (ρ : En) : Rs Hd := match o, os with
  | some d, some ds => opt (op d ds) ρ
  | _, _ => .stuck
def mtC (op : PyData → List PyData → Option Hd) (h : Hd) (r : Rs (List Hd)) : Rs Hd := bnd r fun hs ρ2 => mtD op (dr h ρ2) (drs hs ρ2) ρ2
def mtB (tg : PyData → Bool) (op : PyData → List PyData → Option Hd) (fl : Mo (List Hd)) (h : Hd) (o : Option PyData) (ρ1 : En) : Rs Hd := match o with
  | some d0 => if tg d0 = true then mtC op h (fl ρ1) else .stuck
  | none => .stuck
def mtA (tg : PyData → Bool) (op : PyData → List PyData → Option Hd) (fl : Mo (List Hd)) (r : Rs Hd) : Rs Hd := bnd r fun h ρ1 => mtB tg op fl h.hold (dr h.hold ρ1) ρ1
theorem eMt_a : eMt tg opm fo fl ρ = mtA tg opm fl (fo ρ) := by
  simp only [eMt, mtA]
  congr
theorem mtA_o : mtA tg opm fl (.ok h ρ) = mtB tg opm fl h.hold (dr h.hold ρ) ρ := id rfl
theorem mtB_s : mtB tg opm fl h (some d) ρ = if tg d = true then mtC opm h (fl ρ) else .stuck := id rfl
theorem mtC_o : mtC opm h (.ok hs ρ) = mtD opm (dr h ρ) (drs hs ρ) ρ := id rfl
theorem mtD_s : mtD opm (some d) (some ds) ρ = opt (opm d ds) ρ := id rfl
theorem tgL_l : tgL (.list ds) = true := id rfl
end
theorem cntD_i (l : List Int) (k : Int) : cntD (.list (l.map .int)) [.int k] = some (.imm (.int (l.count k : Nat))) := by simp only [cntD, intsOf_map, Option.map_some]
theorem sortD_i (l : List Int) : sortD [.list (l.map .int)] = some (.fresh ((isort l).map .int)) := by simp only [sortD, intsOf_map, Option.map_some]
theorem lr2D_i {i j : Int} (h1 : -1000000 ≤ i) (h2 : i ≤ 1000000) (h3 : -1000000 ≤ j) (h4 : j ≤ 1000000) : lr2D (.int i) (.int j) = some (.fresh (rng i (j - i).toNat)) := by
  simp only [lr2D]
  rw [if_pos]
  exact ⟨by omega, by omega, by omega, by omega, by omega⟩
theorem lr1D_i {j : Int} (h3 : -1000000 ≤ j) (h4 : j ≤ 1000000) : lr1D (.int j) = some (.fresh (rng 0 j.toNat)) := by
  simp only [lr1D]
  rw [if_pos]
  exact ⟨by omega, by omega, by omega, by omega, by omega⟩
theorem Good.anyEq {α : Type} [DecidableEq α] {f : α → PyData} {n : Nat} (h : Good f n) (x : α) : ∀ l : List α, ((l.map f).any fun z => PyData.eqv z (f x)) = decide (x ∈ l)
  | [] => rfl
  | y :: l => by
    rw [List.map_cons, List.any_cons, h.inj, Good.anyEq h x l]
    by_cases e : y = x
    · subst e; simp
    · have e' : ¬ x = y := fun z => e z.symm
      by_cases m : x ∈ l <;> simp [e, e', m]
theorem Good.inD {α : Type} [DecidableEq α] {f : α → PyData} {n : Nat} (h : Good f n) (hn : n + 1 ≤ 64) (x : α) (l : List α) : inD (f x) (.list (l.map f)) = some (.imm (.bool (decide (x ∈ l)))) := by
  show (if SeqAt.shaped (f x) = true ∧ SeqAt.shaped (.list (l.map f)) = true then iBool _ else none) = _
  rw [if_pos ⟨h.shaped (by omega) x, h.lst.shaped hn l⟩, h.anyEq]
  rfl
theorem Good.notInD {α : Type} [DecidableEq α] {f : α → PyData} {n : Nat} (h : Good f n) (hn : n + 1 ≤ 64) (x : α) (l : List α) : notInD (f x) (.list (l.map f)) = some (.imm (.bool (!decide (x ∈ l)))) := by
  show (if SeqAt.shaped (f x) = true ∧ SeqAt.shaped (.list (l.map f)) = true then iBool _ else none) = _
  rw [if_pos ⟨h.shaped (by omega) x, h.lst.shaped hn l⟩, h.anyEq]
  rfl
abbrev castL (l : List Nat) : List Int := l.map fun n : Nat => (n : Int)
end Mir


local macro_rules | `(tactic| simp! [$ls,*]) => `(tactic| simp (disch := omega) only [Mir.eMt_a, Mir.mtA_o, Mir.mtB_s, Mir.mtC_o, Mir.mtD_s, Mir.tgL_l, Mir.cntD_i, Mir.sortD_i, Mir.lr2D_i, Mir.lr1D_i, Mir.sTry_a, Mir.tryK_nx, Mir.tryK_rt, Mir.eIsx_a, Mir.isxK_n, Mir.tIsN_a, Mir.isnK_x, Mir.isnK_n, Mir.cell_exn, Mir.eN_a, Mir.nmK_v, Mir.nmK_o, Mir.nmK_a, Mir.eC_a, Mir.hold_i, Mir.hold_s, Mir.hold_f, Mir.dr_i, Mir.dr_f, Mir.dr_s, Mir.drK_v, Mir.drK_o, Mir.drK_a, Mir.opt_s, Mir.f2K_s, Mir.e2_a, Mir.e2A_o, Mir.e2A_e, Mir.e2B_o, Mir.e2B_e, Mir.f1K_s, Mir.e1_a, Mir.e1A_o, Mir.e1A_e, Mir.aNil_a, Mir.aCons_a, Mir.acA_o, Mir.acA_e, Mir.acB_o, Mir.acB_e, Mir.drs_n, Mir.drs_c, Mir.consK_s, Mir.clK_s, Mir.eCl_a, Mir.clA_o, Mir.clA_e, Mir.esc_i, Mir.esc_f, Mir.esc_s, Mir.escK_v, Mir.escK_o, Mir.escs_n, Mir.escs_c, Mir.esA_o, Mir.esB_o, Mir.sz_if, Mir.szlt_if, Mir.eTup_a, Mir.tuA_o, Mir.tuA_e, Mir.tuB_o, Mir.eLst_a, Mir.lsA_o, Mir.lsA_e, Mir.lsB_o, Mir.t1K_s, Mir.t1_a, Mir.t1A_o, Mir.t1A_e, Mir.tAnd_a, Mir.anK_t, Mir.anK_f, Mir.anK_e, Mir.tOr_a, Mir.orK_t, Mir.orK_f, Mir.orK_e, Mir.tNot_a, Mir.noK_o, Mir.noK_e, Mir.tYes_a, Mir.eAnd_a, Mir.eanK_t, Mir.eanK_f, Mir.eOr_a, Mir.eorK_t, Mir.eorK_f, Mir.eNot_a, Mir.enoK_o, Mir.eIf_a, Mir.eifK_t, Mir.eifK_f, Mir.eCh_a, Mir.chA_o, Mir.chB_o, Mir.chC_t, Mir.chC_f, Mir.chD_o, Mir.sSeq_a, Mir.seqK_nx, Mir.seqK_rt, Mir.seqK_bk, Mir.seqK_ct, Mir.seqK_exc, Mir.sKl_a, Mir.klK_nx, Mir.klK_ct, Mir.klK_bk, Mir.klK_rt, Mir.klK_exc, Mir.killE_n, Mir.killE_c, Mir.turnS_nx, Mir.turnS_ct, Mir.turnS_bk, Mir.turnS_rt, Mir.turnS_exc, Mir.sNil_a, Mir.sBrk_a, Mir.sCnt_a, Mir.sExc_a, Mir.setV_a, Mir.sSet_a, Mir.seA_i, Mir.seA_f, Mir.seA_s, Mir.seA_e, Mir.seB_o, Mir.optS_s, Mir.sAsg_a, Mir.asA_o, Mir.asA_e, Mir.asB_o, Mir.sPar_a, Mir.paA_o, Mir.paB_o, Mir.parK_s, Mir.sExpr_a, Mir.exA_o, Mir.exA_e, Mir.sRet_a, Mir.reA_o, Mir.reA_e, Mir.retS_i, Mir.retS_f, Mir.retS_s, Mir.retK_v, Mir.retK_o, Mir.sIf_a, Mir.ifK_t, Mir.ifK_f, Mir.ifK_e, Mir.gN_a, Mir.gT_a, Mir.gT_l, Mir.gNil_a, Mir.gCons_a, Mir.goK_s, Mir.cellK_o, Mir.cellK_a, Mir.sApp_a, Mir.apA_o, Mir.apA_e, Mir.apB_o, Mir.apK_o, Mir.apK_a, Mir.sExt_a, Mir.etA_o, Mir.etA_e, Mir.etB_o, Mir.etK_o, Mir.etK_a, Mir.suF_o, Mir.suF_a, Mir.suK_o, Mir.suK_a, Mir.sbD_i, Mir.sSub_a, Mir.sbA_o, Mir.sbA_e, Mir.sbB_o, Mir.sbC_o, Mir.sFor_a, Mir.foK_o, Mir.foK_e, Mir.itK_s, Mir.iL_a, Mir.ilA_o, Mir.ilA_e, Mir.ilB_o, Mir.items_l, Mir.items_t, Mir.iR1_a, Mir.r1A_o, Mir.r1A_e, Mir.r1K_s, Mir.iR2_a, Mir.r2A_o, Mir.r2A_e, Mir.r2K_s, Mir.iR3_a, Mir.r3A_o, Mir.r3K_s, Mir.iEn_a, Mir.enA_o, Mir.enA_e, Mir.enB_o, Mir.enK_l, Mir.iZi_a, Mir.ziA_o, Mir.ziB_o, Mir.ziK_l, Mir.ziK_t, Mir.iRv_a, Mir.rvA_o, Mir.rvB_o, Mir.rvK_l, Mir.rvK_t, Mir.iK_a, Mir.ikA_o, Mir.ikA_e, Mir.iN_a, Mir.inK_l, Mir.inK_t, Mir.inK_o, Mir.inK_a, Mir.pNo_a, Mir.pSome_a, Mir.pA_o, Mir.pA_e, Mir.pK_s, Mir.eSl_a, Mir.slA_o, Mir.slA_e, Mir.slB_o, Mir.slC_o, Mir.slK_s, Mir.slD_l, Mir.slD_t, Mir.eIsi_a, Mir.isiK_s, Mir.isiA_o, Mir.isiA_e, Mir.isiB_s, Mir.isi_int_dict, Mir.isi_bool_dict, Mir.isi_tuple_dict, Mir.isi_list_dict, Mir.isi_str_dict, Mir.isi_int_none, Mir.isi_int_bool, Mir.isi_int_int, Mir.isi_int_str, Mir.isi_int_list, Mir.isi_int_tuple, Mir.isi_bool_none, Mir.isi_bool_bool, Mir.isi_bool_int, Mir.isi_bool_str, Mir.isi_bool_list, Mir.isi_bool_tuple, Mir.isi_tuple_none, Mir.isi_tuple_bool, Mir.isi_tuple_int, Mir.isi_tuple_str, Mir.isi_tuple_list, Mir.isi_tuple_tuple, Mir.isi_list_none, Mir.isi_list_bool, Mir.isi_list_int, Mir.isi_list_str, Mir.isi_list_list, Mir.isi_list_tuple, Mir.isi_str_none, Mir.isi_str_bool, Mir.isi_str_int, Mir.isi_str_str, Mir.isi_str_list, Mir.isi_str_tuple, Mir.lent_n, Mir.lent_i, Mir.lent_f, Mir.lent_s, Mir.lentK_v, Mir.lentK_o, Mir.lentK_a, Mir.cleanH_t, Mir.cleanH_tf, Mir.cleanH_f, Mir.cleanH_ff, Mir.noList_i, Mir.noList_b, Mir.noList_n, Mir.noList_str, Mir.noList_t, Mir.noLists_n, Mir.noLists_c, Mir.noLists_app, Mir.noLists_ints, Mir.noLists_cs, Mir.okIf_t, Mir.exIf_t, Mir.eCall_a, Mir.caA_o, Mir.caA_e, Mir.callK_s, Mir.resK_r, Mir.resK_e, Mir.eCallR_a, Mir.crA_o, Mir.crA_e, Mir.callR_s, Mir.callR2_o, Mir.callR2_a, Mir.resR_r, Mir.resR_e, Mir.argK_o, Mir.argK_a, Mir.argE_o, Mir.argE_a, Mir.fnM_a, Mir.pad_z, Mir.pad_s, Mir.fiK_s, Mir.feK_s, Mir.finF_n, Mir.finF_i, Mir.finF_f, Mir.finF_e, Mir.kpK_s, Mir.keepA_n, Mir.keepA_a, Mir.keepA_v, Mir.clear_n, Mir.clear_c, Mir.eComp_a, Mir.cmA_o, Mir.cpK_o, Mir.wipeE_n, Mir.wipeE_c, Mir.resE_n, Mir.resE_c, Mir.addD_i, Mir.addD_l, Mir.addD_t, Mir.subD_i, Mir.mulD_i, Mir.mulD_l, Mir.mulD_t, Mir.mul_if, Mir.rep1, Nat.one_mul, Nat.zero_mul, Mir.fdivD_i, Mir.modD_i, Mir.pow10_18, Mir.pow10_59, Mir.pow10_60, Mir.negD_i, Mir.ltD_i, Mir.leD_i, Mir.gtD_i, Mir.geD_i, Mir.eqD_int, Mir.neD_int, Mir.lenD_l, Mir.lenD_t, Mir.listD_l, Mir.listD_t, Mir.tupleD_l, Mir.tupleD_t, Mir.max2D_i, Mir.min2D_i, Mir.intD_i, Mir.intD_b, Mir.revD_l, Mir.revD_t, Mir.ixK_s, L2.atI, L2.ixN, Mir.isCell_own, Mir.isCell_arg, Mir.isCell_val, Mir.isCell_unset, Mir.isCell_none, List.getElem?_cons_zero, List.getElem?_cons_succ, List.set_cons_zero, List.set_cons_succ, List.getD_cons_zero, List.getD_cons_succ, List.length_cons, List.length_nil, List.length_append, List.length_map, List.length_reverse, List.length_replicate, List.cons_append, List.nil_append, List.append_nil, List.map_cons, List.map_nil, List.map_append, List.map_reverse, List.map_replicate, List.eraseIdx_cons_zero, List.eraseIdx_cons_succ, List.not_mem_nil, Option.map_some, Option.map_none, Option.bind_some, Nat.reduceAdd, Nat.reduceSub, Nat.zero_add, Nat.sub_self, Nat.reduceLT, Nat.reduceLeDiff, Nat.reduceEqDiff, Int.cast_ofNat_Int, Int.natCast_zero, Int.natCast_one, Int.reduceNeg, Int.reduceToNat, Int.reduceLT, Int.reduceLE, Int.reduceEq, Int.reduceAdd, Int.reduceSub, Int.toNat_natCast, Int.natCast_add, Nat.lt_add_one, Nat.zero_lt_succ, if_true, if_false, reduceIte, decide_true, decide_false, decide_eq_true_eq, Bool.true_and, Bool.and_true, Bool.false_and, Bool.and_false, Bool.true_or, Bool.false_or, Bool.or_true, Bool.or_false, Bool.not_true, Bool.not_false, Bool.not_not, Bool.false_eq_true, true_or, or_true, false_or, or_false, true_and, and_true, and_self, not_true, not_false_eq_true, ne_eq, List.isEmpty_nil, List.isEmpty_cons, Mir.So.rt.injEq, Mir.So.nx.injEq, Mir.So.ct.injEq, Mir.So.bk.injEq, Mir.Hd.imm.injEq, Mir.Hd.fresh.injEq, Mir.Rs.ok.injEq, eq_self, List.cons.injEq, Mir.Slot.val.injEq, Mir.Slot.own.injEq, Mir.Slot.arg.injEq, PySem.PyData.int.injEq, PySem.PyData.tuple.injEq, PySem.PyData.list.injEq, PySem.PyData.bool.injEq, $ls,*])
local macro_rules | `(tactic| simp! [$ls,*] $l:location) => `(tactic| simp (disch := omega) only [Mir.eMt_a, Mir.mtA_o, Mir.mtB_s, Mir.mtC_o, Mir.mtD_s, Mir.tgL_l, Mir.cntD_i, Mir.sortD_i, Mir.lr2D_i, Mir.lr1D_i, Mir.sTry_a, Mir.tryK_nx, Mir.tryK_rt, Mir.eIsx_a, Mir.isxK_n, Mir.tIsN_a, Mir.isnK_x, Mir.isnK_n, Mir.cell_exn, Mir.eN_a, Mir.nmK_v, Mir.nmK_o, Mir.nmK_a, Mir.eC_a, Mir.hold_i, Mir.hold_s, Mir.hold_f, Mir.dr_i, Mir.dr_f, Mir.dr_s, Mir.drK_v, Mir.drK_o, Mir.drK_a, Mir.opt_s, Mir.f2K_s, Mir.e2_a, Mir.e2A_o, Mir.e2A_e, Mir.e2B_o, Mir.e2B_e, Mir.f1K_s, Mir.e1_a, Mir.e1A_o, Mir.e1A_e, Mir.aNil_a, Mir.aCons_a, Mir.acA_o, Mir.acA_e, Mir.acB_o, Mir.acB_e, Mir.drs_n, Mir.drs_c, Mir.consK_s, Mir.clK_s, Mir.eCl_a, Mir.clA_o, Mir.clA_e, Mir.esc_i, Mir.esc_f, Mir.esc_s, Mir.escK_v, Mir.escK_o, Mir.escs_n, Mir.escs_c, Mir.esA_o, Mir.esB_o, Mir.sz_if, Mir.szlt_if, Mir.eTup_a, Mir.tuA_o, Mir.tuA_e, Mir.tuB_o, Mir.eLst_a, Mir.lsA_o, Mir.lsA_e, Mir.lsB_o, Mir.t1K_s, Mir.t1_a, Mir.t1A_o, Mir.t1A_e, Mir.tAnd_a, Mir.anK_t, Mir.anK_f, Mir.anK_e, Mir.tOr_a, Mir.orK_t, Mir.orK_f, Mir.orK_e, Mir.tNot_a, Mir.noK_o, Mir.noK_e, Mir.tYes_a, Mir.eAnd_a, Mir.eanK_t, Mir.eanK_f, Mir.eOr_a, Mir.eorK_t, Mir.eorK_f, Mir.eNot_a, Mir.enoK_o, Mir.eIf_a, Mir.eifK_t, Mir.eifK_f, Mir.eCh_a, Mir.chA_o, Mir.chB_o, Mir.chC_t, Mir.chC_f, Mir.chD_o, Mir.sSeq_a, Mir.seqK_nx, Mir.seqK_rt, Mir.seqK_bk, Mir.seqK_ct, Mir.seqK_exc, Mir.sKl_a, Mir.klK_nx, Mir.klK_ct, Mir.klK_bk, Mir.klK_rt, Mir.klK_exc, Mir.killE_n, Mir.killE_c, Mir.turnS_nx, Mir.turnS_ct, Mir.turnS_bk, Mir.turnS_rt, Mir.turnS_exc, Mir.sNil_a, Mir.sBrk_a, Mir.sCnt_a, Mir.sExc_a, Mir.setV_a, Mir.sSet_a, Mir.seA_i, Mir.seA_f, Mir.seA_s, Mir.seA_e, Mir.seB_o, Mir.optS_s, Mir.sAsg_a, Mir.asA_o, Mir.asA_e, Mir.asB_o, Mir.sPar_a, Mir.paA_o, Mir.paB_o, Mir.parK_s, Mir.sExpr_a, Mir.exA_o, Mir.exA_e, Mir.sRet_a, Mir.reA_o, Mir.reA_e, Mir.retS_i, Mir.retS_f, Mir.retS_s, Mir.retK_v, Mir.retK_o, Mir.sIf_a, Mir.ifK_t, Mir.ifK_f, Mir.ifK_e, Mir.gN_a, Mir.gT_a, Mir.gT_l, Mir.gNil_a, Mir.gCons_a, Mir.goK_s, Mir.cellK_o, Mir.cellK_a, Mir.sApp_a, Mir.apA_o, Mir.apA_e, Mir.apB_o, Mir.apK_o, Mir.apK_a, Mir.sExt_a, Mir.etA_o, Mir.etA_e, Mir.etB_o, Mir.etK_o, Mir.etK_a, Mir.suF_o, Mir.suF_a, Mir.suK_o, Mir.suK_a, Mir.sbD_i, Mir.sSub_a, Mir.sbA_o, Mir.sbA_e, Mir.sbB_o, Mir.sbC_o, Mir.sFor_a, Mir.foK_o, Mir.foK_e, Mir.itK_s, Mir.iL_a, Mir.ilA_o, Mir.ilA_e, Mir.ilB_o, Mir.items_l, Mir.items_t, Mir.iR1_a, Mir.r1A_o, Mir.r1A_e, Mir.r1K_s, Mir.iR2_a, Mir.r2A_o, Mir.r2A_e, Mir.r2K_s, Mir.iR3_a, Mir.r3A_o, Mir.r3K_s, Mir.iEn_a, Mir.enA_o, Mir.enA_e, Mir.enB_o, Mir.enK_l, Mir.iZi_a, Mir.ziA_o, Mir.ziB_o, Mir.ziK_l, Mir.ziK_t, Mir.iRv_a, Mir.rvA_o, Mir.rvB_o, Mir.rvK_l, Mir.rvK_t, Mir.iK_a, Mir.ikA_o, Mir.ikA_e, Mir.iN_a, Mir.inK_l, Mir.inK_t, Mir.inK_o, Mir.inK_a, Mir.pNo_a, Mir.pSome_a, Mir.pA_o, Mir.pA_e, Mir.pK_s, Mir.eSl_a, Mir.slA_o, Mir.slA_e, Mir.slB_o, Mir.slC_o, Mir.slK_s, Mir.slD_l, Mir.slD_t, Mir.eIsi_a, Mir.isiK_s, Mir.isiA_o, Mir.isiA_e, Mir.isiB_s, Mir.isi_int_dict, Mir.isi_bool_dict, Mir.isi_tuple_dict, Mir.isi_list_dict, Mir.isi_str_dict, Mir.isi_int_none, Mir.isi_int_bool, Mir.isi_int_int, Mir.isi_int_str, Mir.isi_int_list, Mir.isi_int_tuple, Mir.isi_bool_none, Mir.isi_bool_bool, Mir.isi_bool_int, Mir.isi_bool_str, Mir.isi_bool_list, Mir.isi_bool_tuple, Mir.isi_tuple_none, Mir.isi_tuple_bool, Mir.isi_tuple_int, Mir.isi_tuple_str, Mir.isi_tuple_list, Mir.isi_tuple_tuple, Mir.isi_list_none, Mir.isi_list_bool, Mir.isi_list_int, Mir.isi_list_str, Mir.isi_list_list, Mir.isi_list_tuple, Mir.isi_str_none, Mir.isi_str_bool, Mir.isi_str_int, Mir.isi_str_str, Mir.isi_str_list, Mir.isi_str_tuple, Mir.lent_n, Mir.lent_i, Mir.lent_f, Mir.lent_s, Mir.lentK_v, Mir.lentK_o, Mir.lentK_a, Mir.cleanH_t, Mir.cleanH_tf, Mir.cleanH_f, Mir.cleanH_ff, Mir.noList_i, Mir.noList_b, Mir.noList_n, Mir.noList_str, Mir.noList_t, Mir.noLists_n, Mir.noLists_c, Mir.noLists_app, Mir.noLists_ints, Mir.noLists_cs, Mir.okIf_t, Mir.exIf_t, Mir.eCall_a, Mir.caA_o, Mir.caA_e, Mir.callK_s, Mir.resK_r, Mir.resK_e, Mir.eCallR_a, Mir.crA_o, Mir.crA_e, Mir.callR_s, Mir.callR2_o, Mir.callR2_a, Mir.resR_r, Mir.resR_e, Mir.argK_o, Mir.argK_a, Mir.argE_o, Mir.argE_a, Mir.fnM_a, Mir.pad_z, Mir.pad_s, Mir.fiK_s, Mir.feK_s, Mir.finF_n, Mir.finF_i, Mir.finF_f, Mir.finF_e, Mir.kpK_s, Mir.keepA_n, Mir.keepA_a, Mir.keepA_v, Mir.clear_n, Mir.clear_c, Mir.eComp_a, Mir.cmA_o, Mir.cpK_o, Mir.wipeE_n, Mir.wipeE_c, Mir.resE_n, Mir.resE_c, Mir.addD_i, Mir.addD_l, Mir.addD_t, Mir.subD_i, Mir.mulD_i, Mir.mulD_l, Mir.mulD_t, Mir.mul_if, Mir.rep1, Nat.one_mul, Nat.zero_mul, Mir.fdivD_i, Mir.modD_i, Mir.pow10_18, Mir.pow10_59, Mir.pow10_60, Mir.negD_i, Mir.ltD_i, Mir.leD_i, Mir.gtD_i, Mir.geD_i, Mir.eqD_int, Mir.neD_int, Mir.lenD_l, Mir.lenD_t, Mir.listD_l, Mir.listD_t, Mir.tupleD_l, Mir.tupleD_t, Mir.max2D_i, Mir.min2D_i, Mir.intD_i, Mir.intD_b, Mir.revD_l, Mir.revD_t, Mir.ixK_s, L2.atI, L2.ixN, Mir.isCell_own, Mir.isCell_arg, Mir.isCell_val, Mir.isCell_unset, Mir.isCell_none, List.getElem?_cons_zero, List.getElem?_cons_succ, List.set_cons_zero, List.set_cons_succ, List.getD_cons_zero, List.getD_cons_succ, List.length_cons, List.length_nil, List.length_append, List.length_map, List.length_reverse, List.length_replicate, List.cons_append, List.nil_append, List.append_nil, List.map_cons, List.map_nil, List.map_append, List.map_reverse, List.map_replicate, List.eraseIdx_cons_zero, List.eraseIdx_cons_succ, List.not_mem_nil, Option.map_some, Option.map_none, Option.bind_some, Nat.reduceAdd, Nat.reduceSub, Nat.zero_add, Nat.sub_self, Nat.reduceLT, Nat.reduceLeDiff, Nat.reduceEqDiff, Int.cast_ofNat_Int, Int.natCast_zero, Int.natCast_one, Int.reduceNeg, Int.reduceToNat, Int.reduceLT, Int.reduceLE, Int.reduceEq, Int.reduceAdd, Int.reduceSub, Int.toNat_natCast, Int.natCast_add, Nat.lt_add_one, Nat.zero_lt_succ, if_true, if_false, reduceIte, decide_true, decide_false, decide_eq_true_eq, Bool.true_and, Bool.and_true, Bool.false_and, Bool.and_false, Bool.true_or, Bool.false_or, Bool.or_true, Bool.or_false, Bool.not_true, Bool.not_false, Bool.not_not, Bool.false_eq_true, true_or, or_true, false_or, or_false, true_and, and_true, and_self, not_true, not_false_eq_true, ne_eq, List.isEmpty_nil, List.isEmpty_cons, Mir.So.rt.injEq, Mir.So.nx.injEq, Mir.So.ct.injEq, Mir.So.bk.injEq, Mir.Hd.imm.injEq, Mir.Hd.fresh.injEq, Mir.Rs.ok.injEq, eq_self, List.cons.injEq, Mir.Slot.val.injEq, Mir.Slot.own.injEq, Mir.Slot.arg.injEq, PySem.PyData.int.injEq, PySem.PyData.tuple.injEq, PySem.PyData.list.injEq, PySem.PyData.bool.injEq, $ls,*] $l:location)

set_option maxHeartbeats 1000000
/-! ### try with a suite of its own -/
namespace Mir
open PySem PySem.Spec PyProof.Rows L2
def wSuite (K : PySem.W.Frag) (c : Value) (i : Nat) (ts : TS) (Wo : WX) (D : Ends) : WX := fun cls d σ H =>
  ∃ y, PySem.W.exmOne K cls c = some y ∧ (y = false → Wo cls d σ H) ∧
    (y = true → ∀ a, H a = none → ts { nx := fun σ' H' => D.nx (σ'.set i none) H', rt := fun _ _ => False, bk := fun _ _ => False, ct := fun _ _ => False } (σ.set i (some (.ref a))) (upd H a (exT cls d a)))
section
variable {X : Cx} {x n : Str} {c : Value} {i : Nat} {body suite : List Stmt} {st : Stmt} {q1 q2 q3 : Pos} {tb : WX → TS} {ts : TS} {Wo : WX}
theorem ps_try_suite (hst : X.stack = X.env :: X.outer) (hfr : X.env.frame = some X.env.locals) (hex : X.ex = []) (hN : X.N.Nodup) (hi : X.N[i]? = some n) (hl : X.env.kindOf n = some .local) (hc : Names X x c) (tk : Takes X Wo)
    (hb : ∀ (W : WX) (pn : List (Addr × Obj)) (xe : Value → Shared → Prop), Takes (X.tr pn xe) W → PassesOwn (model X.prog X.w) X.A X.env xe → PSs (X.tr pn xe) body (tb W))
    (hsu : ∀ (a : Addr) (pn : List (Addr × Obj)), PSs (X.suite a pn) (st :: suite) ts) :
    PS X (.Try body [.ExceptHandler (some (.Name x q1)) (some n) (st :: suite) q2] [] [] q3) (fun D σ H => tb (wSuite X.K c i ts Wo D) D σ H) := by
  constructor
  intro pins s σ H D I h
  have ok := I.ok
  refine wpAny_Try_except (wpAny_mono ((hb (wSuite X.K c i ts Wo D) (X.pn ++ pins) (fun e s₁ => wpAny (model X.prog X.w) X.A (noteFrame e X.env)
    (fun _ s₂ => wpAny (model X.prog X.w) X.A (setFlight e none) (fun _ s₃ => wpAny (model X.prog X.w) X.A (handleBy e X.env [.ExceptHandler (some (.Name x q1)) (some n) (st :: suite) q2]) (SP X pins D) X.xe s₃) X.xe s₂) X.xe s₁)
    ?fly PassesOwn.looking).run [] s σ H D (I.toTry _) h) ?done (fun _ _ z => z))
  case done =>
    intro f s1 hsp
    cases f with
    | next => obtain ⟨σ1, H1, J1, z⟩ := hsp; exact wpAny_execs_nil ⟨σ1, H1, J1.ofTry ok, z⟩
    | ret u => obtain ⟨v1, σ1, H1, J1, r1, z⟩ := hsp; exact ⟨v1, σ1, H1, J1.ofTry ok, r1, z⟩
    | brk => obtain ⟨σ1, H1, J1, z⟩ := hsp; exact ⟨σ1, H1, J1.ofTry ok, z⟩
    | cont => obtain ⟨σ1, H1, J1, z⟩ := hsp; exact ⟨σ1, H1, J1.ofTry ok, z⟩
  case fly =>
    rintro u s' ⟨a, B, sI, pins', σ', H', cls, d, rfl, J0, nb, up, sky, na, os, ag, y, hy, hno, hyes⟩
    have J : Inv X pins σ' H' sI := J0.ofTry ok
    have frames : X.A.frames = some (X.env :: X.outer) := by rw [ok.frames, hst]
    have sky1 : Sky B (X.env :: X.outer) a (Zc cls d) X.env.locals s'.heap := hst ▸ sky
    show wpAny (model X.prog X.w) X.A (noteFrame (.ref a) X.env) _ _ _
    refine Sky.land Zc.steady frames hfr sky1 fun h3 fl3 up3 => ?_
    have J3 : Inv X pins σ' H' { s' with heap := h3 } := J.landed nb fl3.1 (up.trans up3) os ag
    obtain ⟨oe3, vs3, he3, hz3, hd3⟩ := fl3.there
    have nofr : a ∉ frs (X.env :: X.outer) := by
      intro hm
      obtain ⟨_, o', e', hnf⟩ := fl3.2.2.1.mem hm
      cases he3.symm.trans e'
      exact hnf _ hd3
    have nL : a ≠ X.env.locals := fun z => nofr (List.mem_filterMap.mpr ⟨X.env, List.mem_cons_self, by rw [hfr, z]⟩)
    have nF : a ∉ X.fs := by
      intro hm
      obtain ⟨e, he, q⟩ := List.mem_filterMap.mp hm
      exact nofr (List.mem_filterMap.mpr ⟨e, List.mem_cons_of_mem _ he, q⟩)
    have gone : B.get? a = none := fl3.2.1
    have notI : sI.heap.get? a = none := by
      cases e : sI.heap.get? a with
      | none => rfl
      | some o =>
        have z := nb a o e (by rw [hst]; exact nofr)
        rw [gone] at z
        cases z
    have not0 : X.s_0.heap.get? a = none := by
      cases e : X.s_0.heap.get? a with
      | none => rfl
      | some o =>
        obtain ⟨o', z⟩ := J.base.there a o e (by rw [hex]; exact List.not_mem_nil)
        rw [notI] at z
        cases z
    have notP : ∀ p ∈ X.pn ++ pins, p.1 ≠ a := fun p hp z => by
      have := (J.pin p hp).1
      rw [z, notI] at this
      cases this
    have S3 := J3.suite he3 hd3 na nL nF
    refine wpAny_handleBy_cons (codeAny_handlers_test ?_) (fun q => by cases q)
    have tyL : PySem.W.Looks (model X.prog X.w) h3 (typeOf (.ref a)) cls := fun A Q E s k q => wpAny_typeOf_ref (k _ _ he3) (by rw [hz3.1]; exact q)
    have asks := PySem.W.exm_one (M := model X.prog X.w) J3.kIn tyL hy
    have reads : ∀ {Q : Value → Shared → Prop} {E : Value → Shared → Prop}, Q c { s' with heap := h3 } → wpAny (model X.prog X.w) (X.A.mark (some (.ref a))) (eval (.Name x q1) X.env) Q E { s' with heap := h3 } := by
      intro Q E q
      rcases hc with ⟨hg, hdb, hm | ⟨hm, hv, hnn⟩⟩
      · exact ld_glob (X := X.suite a ((a, oe3) :: (X.pn ++ pins))) S3 hg hm q hdb
      · exact ld_blt (X := X.suite a ((a, oe3) :: (X.pn ++ pins))) S3 hg hm hv q hnn hdb
    refine reads (asks.here ?_)
    cases y with
    | false =>
      show wpAny _ X.A (handleBy (.ref a) X.env []) _ _ _
      refine wpAny_handleBy_nil ?_
      obtain ⟨k1, k2, k3, oe, vs, T, oT, ts', he, hz, hd, h1, hr⟩ := id fl3
      unfold PySem.passOn
      refine wpAny_bind (wpAny_field he hd h1 ?_)
      rw [if_neg (show ¬ ((Value.ref T == Value.none) = true) by simp)]
      have up' : wpAny (model X.prog X.w) X.A (setFlight (.ref a) X.env.frame) (fun _ s4 => wpAny (model X.prog X.w) X.A (throw (.ref a) : Sem Flow) (SP X pins D) X.xe s4) X.xe { s' with heap := h3 } := by
        rw [hfr]
        exact HandSPX.setFlight_upZ fl3 fun h4 hh4 up4 => wpAny_throw (tk _ _ ⟨a, B, sI, pins, σ', H', cls, d, rfl, J, nb, (up.trans up3).trans up4, .inr (.inr (by rw [hst]; exact hh4)), na, os, ag, hno rfl⟩)
      first
        | exact wpAny_bind up'
        | exact wpAny_bind (wpAny_pure (wpAny_bind up'))
    | true =>
      refine codeAny_handlers_suite_as (HandSPX.lands_againZ fl3 fun h4 fl4 up4 => ?_)
      have J4 : Inv X pins σ' H' { s' with heap := h4 } := J.landed nb fl4.1 ((up.trans up3).trans up4) os ag
      obtain ⟨oe4, vs4, he4, hz4, hd4⟩ := fl4.there
      have S4 := J4.suite he4 hd4 na nL nF
      have T4 : Inv (X.tr ((a, oe4) :: (X.pn ++ pins)) X.xe) [] σ' H' { s' with heap := h4 } := ⟨ok.toTry _ _, S4.os, S4.bare, S4.base, S4.loc, S4.cell, S4.free, S4.freeC, S4.pin, S4.hok, S4.len⟩
      have K4 : Inv X pins σ' (upd H' a (exT cls d a)) { s' with heap := h4 } := track_exc (pn := []) ok T4 hz4 hd4 not0 notP
      have Z4 : Inv (X.suite a (X.pn ++ pins)) [] σ' (upd H' a (exT cls d a)) { s' with heap := h4 } := ⟨ok.suite _ _, K4.os, K4.bare, K4.base, K4.loc, K4.cell, K4.free, K4.freeC, fun p hp => K4.pin p (by simpa using hp), K4.hok, K4.len⟩
      refine store_ok (X := X.suite a (X.pn ++ pins)) (v := .ref a) Z4 hN hi (.inl hl) rfl (fun s5 S5 => ?_) (.inr hl)
      refine wpAny_mono ((hsu a (X.pn ++ pins)).run [] s5 _ _ _ S5 (hyes rfl a na)) ?_ (fun _ _ z => False.elim z)
      intro f s6 hsp
      cases f with
      | next =>
        obtain ⟨σ6, H6, S6, z6⟩ := hsp
        have T6 : Inv X pins σ6 H6 s6 := ⟨ok, S6.os, S6.bare, S6.base, S6.loc, S6.cell, S6.free, S6.freeC, fun p hp => S6.pin p (by simpa using hp), S6.hok, S6.len⟩
        exact gone_ok T6 hN hi hl fun s7 J7 => ⟨_, _, J7, z6⟩
      | ret u => obtain ⟨_, _, _, _, _, z⟩ := hsp; exact z.elim
      | brk => obtain ⟨_, _, _, z⟩ := hsp; exact z.elim
      | cont => obtain ⟨_, _, _, z⟩ := hsp; exact z.elim

end
def wStop : WX := fun _ _ _ _ => False
theorem takesStop {X : Cx} : Takes X wStop := fun _ _ h => by
  obtain ⟨a, B, sI, pins, σ, H, cls, d, _, _, _, _, _, _, _, _, z⟩ := h
  exact z.elim
def sTryS (L : List Str) (T : Str) (i : Nat) (f g : En → So) : En → So := fun ρ => match f ρ with
  | .exc c ρ1 => if c ∈ L ∧ i < ρ1.length then (if excSub c T = true then (match g (ρ1.set i (.exn c)) with
      | .nx ρ2 => .nx (ρ2.set i .unset)
      | _ => .stuck) else .exc c ρ1) else .stuck
  | o => o
section
variable {X : Cx} {W : WX} {f g : En → So}
theorem rs_tryS {L : List Str} {T n : Str} {body suite : List Stmt} {st : Stmt} {q1 q2 q3 : Pos} (i : Nat) (tab : ExcTab X.K X.mg L) (hT : T ∈ L) (hN : X.N.Nodup) (tk : Takes X W)
    (hb : ∀ (W : WX) (pn : List (Addr × Obj)) (xe : Value → Shared → Prop), Takes (X.tr pn xe) W → PassesOwn (model X.prog X.w) X.A X.env xe → PSs (X.tr pn xe) body (tS X.K X.mg W f))
    (hsu : ∀ (a : Addr) (pn : List (Addr × Obj)), PSs (X.suite a pn) (st :: suite) (tS X.K X.mg wStop g))
    (hi : X.N[i]? = some n := by rfl) (hgT : Gl X T := by rfl) (hdb : (T == ("__debug__" : Str)) = false := by decide)
    (hl : X.env.kindOf n = some .local := by rfl) (hst : X.stack = X.env :: X.outer := by rfl) (hfr : X.env.frame = some X.env.locals := by rfl) (hex : X.ex = [] := by rfl) :
    PS X (.Try body [.ExceptHandler (some (.Name T q1)) (some n) (st :: suite) q2] [] [] q3) (tS X.K X.mg W (sTryS L T i f g)) := by
  obtain ⟨CT, gT, nT, eT, _⟩ := tab.cls T hT
  refine PS.weak (ps_try_suite (c := .ref CT) hst hfr hex hN hi hl ⟨hgT, hdb, .inl gT⟩ tk hb hsu) fun D σ H h => ?_
  obtain ⟨Fm, B, G, ρ, r0, p⟩ := h
  refine ⟨Fm, B, G, ρ, r0, ?_⟩
  simp only [sTryS] at p
  cases e : f ρ with
  | nx ρ1 => rw [e] at p; exact p
  | bk ρ1 => rw [e] at p; exact p
  | ct ρ1 => rw [e] at p; exact p
  | rt h1 ρ1 => rw [e] at p; exact p
  | stuck => rw [e] at p; exact p
  | exc c ρ1 =>
    rw [e] at p
    dsimp only at p
    split at p
    · rename_i hh
      obtain ⟨hc, hli⟩ := hh
      intro G1 σ1 H1 s1 r1 C hC
      obtain ⟨C', gC, nC, eC, _⟩ := tab.cls c hc
      have : C' = C := by
        have z := gC.symm.trans hC
        cases z
        rfl
      subst this
      refine ⟨excSub c T, (tab.sub c hc T hT C' CT nC nT).1, fun hy => ?_, fun hy a na => ?_⟩
      · rw [if_neg (by rw [hy]; exact Bool.false_ne_true)] at p
        exact p G1 σ1 H1 s1 r1 C' hC
      · rw [if_pos hy] at p
        have gr := Grow.new (o := exT (.ref C') none a) r1.gh na
        have r2 := r1.grow gr
        have r3 := r2.put (i := i) (s := .exn c) (v := .ref a) hli ⟨a, C', rfl, nC, upd_same⟩ (fun z => by cases z)
        refine ⟨Fm, B, _, _, r3, ?_⟩
        cases e2 : g (ρ1.set i (.exn c)) with
        | nx ρ2 =>
          rw [e2] at p
          intro G2 σ2 H2 s2 r4
          exact p _ _ _ ((s1.trans gr.gg).trans s2) (r4.none i)
        | _ => rw [e2] at p; exact p.elim
    · exact p.elim
end
/-! without a name -/
def sTryN (L : List Str) (T : Str) (f g : En → So) : En → So := fun ρ => match f ρ with
  | .exc c ρ1 => if c ∈ L then (if excSub c T = true then (match g ρ1 with
      | .exc _ _ => .stuck
      | o => o) else .exc c ρ1) else .stuck
  | o => o
section
variable {X : Cx} {W : WX} {f g : En → So}
end
/-! raise C(text) -/
def sExcT (c : Str) (f : Mo Hd) : En → So := fun ρ => match f ρ with
  | .ok _ ρ1 => .exc c ρ1
  | _ => .stuck
section
variable {X : Cx} {W : WX} {f : Mo Hd}
theorem rs_raiseT {c : Str} {e : Expr} {C : Addr} {bmB : List Value} {B newId initId : String} {p q pos : Pos} (hc : X.calm = true) (tk : Takes X W) (Fx : ExcBaseFacts B newId initId bmB) (qx : PySem.W.excIn X.K C bmB newId = true) (gC : X.mg c = some (.ref C)) (kC : PySem.W.keepIn X.K (.ref C) = true) (r : Raises X (.ref C)) (hg : Gl X c)
    (he : PE X e (tH X.K X.mg W f)) (hs : starEach [e] X.env = (false, eval e X.env) :: starEach [] X.env := by rfl) (hdb : (c == ("__debug__" : Str)) = false := by decide) :
    PS X (.Raise (some (.Call (.Name c p) [e] [] q)) none pos) (tS X.K X.mg W (sExcT c f)) :=
  PS.weak (ps_raise hc tk (SkE.pmk_own1 Fx qx gC kC r hg he hs hdb)) fun D σ H h => by
    obtain ⟨Fm, B, G, ρ, r0, p⟩ := h
    refine ⟨Fm, B, G, ρ, r0, ?_⟩
    simp only [sExcT] at p
    cases e2 : f ρ with
    | ok h ρ1 => rw [e2] at p; exact fun v G' H' s1 r1 _ => p G' σ H' s1 r1 C gC
    | exc c' ρ1 => rw [e2] at p; exact p.elim
    | stuck => rw [e2] at p; exact p.elim
end
/-! working out -/
section
variable {L : List Str} {T c : Str} {i : Nat} {f g : En → So} {ρ ρ2 : En} {h : Hd} {fe : Mo Hd}
def tryG (L : List Str) (T : Str) (i : Nat) (g : En → So) (o : So) : So := match o with
  | .exc c ρ1 => if c ∈ L ∧ i < ρ1.length then (if excSub c T = true then (match g (ρ1.set i (.exn c)) with
      | .nx ρ2 => .nx (ρ2.set i .unset)
      | _ => .stuck) else .exc c ρ1) else .stuck
  | o => o
def tryE (i : Nat) (o : So) : So := match o with
  | .nx ρ2 => .nx (ρ2.set i .unset)
  | _ => .stuck
theorem sTryS_a : sTryS L T i f g ρ = tryG L T i g (f ρ) := id rfl
theorem tryG_ex (h1 : c ∈ L) (h2 : excSub c T = true) : tryG L T i g (.exc c ρ) = if i < ρ.length then tryE i (g (ρ.set i (.exn c))) else .stuck := by
  simp only [tryG, h1, h2, true_and, if_true]
  rfl
theorem tryE_nx : tryE i (.nx ρ) = .nx (ρ.set i .unset) := id rfl
def tryM (L : List Str) (T : Str) (g : En → So) (o : So) : So := match o with
  | .exc c ρ1 => if c ∈ L then (if excSub c T = true then (match g ρ1 with
      | .exc _ _ => .stuck
      | o => o) else .exc c ρ1) else .stuck
  | o => o
def rsT (c : Str) (r : Rs Hd) : So := match r with
  | .ok _ ρ1 => .exc c ρ1
  | _ => .stuck
theorem sExcT_a : sExcT c fe ρ = rsT c (fe ρ) := id rfl
theorem rsT_o : rsT c (.ok h ρ) = .exc c ρ := id rfl
end
end Mir



set_option maxHeartbeats 4000000
namespace Mir
open PySem PySem.Spec PyProof.Rows L2
/-! {k1: a, k2: b}.get(e, d) -/
section
variable {K : PySem.W.Frag} {Fm F1 : Hp} {B : Nat → Addr} {G G' H H' : Hp} {σ : L2.St} {ρ : En}
theorem Cell.less {p : Addr} {ds : List PyData} (hF : ∀ q o, Fm q = some o → F1 q = some o) (c : Cell K F1 G H p ds) : Cell K Fm G H p ds := by
  obtain ⟨a, b, x⟩ := c
  refine ⟨a, ?_, x⟩
  cases e : Fm p with
  | none => rfl
  | some o => have := hF p o e; rw [b] at this; cases this
theorem DCell.less {p : Addr} {m : List (List Int × PyData)} (hF : ∀ q o, Fm q = some o → F1 q = some o) (c : DCell K F1 G H p m) : DCell K Fm G H p m := by
  obtain ⟨a, b, x⟩ := c
  refine ⟨a, ?_, x⟩
  cases e : Fm p with
  | none => rfl
  | some o => have := hF p o e; rw [b] at this; cases this
theorem BCell.less {p : Addr} {b : Bx} (hF : ∀ q o, Fm q = some o → F1 q = some o) (c : BCell K F1 G H p b) : BCell K Fm G H p b := c.move (fun t o _ h1 h2 h3 _ => by
  refine ⟨h3, h1, ?_⟩
  cases e : Fm t with
  | none => rfl
  | some o => have := hF t o e; rw [h2] at this; cases this) fun v d q => q
theorem Rep.less (hF : ∀ q o, Fm q = some o → F1 q = some o) (r : Rep K F1 B G σ H ρ) : Rep K Fm B G σ H ρ := by
  refine ⟨r.gh, fun p o e => r.fh p o (hF p o e), r.len, fun i s e => ?_, r.nd, r.cl, r.nb⟩
  have x := r.sl i s e
  cases s with
  | unset => trivial
  | val d => exact x
  | own ds => obtain ⟨p, e1, c⟩ := x; exact ⟨p, e1, c.less hF⟩
  | arg ds => exact ⟨x.1, x.2.less hF⟩
  | exn c => exact x
  | lck m => exact x
  | dic m => obtain ⟨p, e1, c⟩ := x; exact ⟨p, e1, c.less hF⟩
  | darg m => exact ⟨x.1, x.2.less hF⟩
  | bx b => obtain ⟨p, e1, c⟩ := x; exact ⟨p, e1, c.less hF⟩
  | bxa b => exact ⟨x.1, x.2.less hF⟩
theorem HdR.less {v : V} {h : Hd} (hF : ∀ q o, Fm q = some o → F1 q = some o) (r : HdR K F1 G σ H ρ v h) : HdR K Fm G σ H ρ v h := by
  cases h with
  | imm d => exact r
  | slot j => exact r
  | fresh ds => obtain ⟨p, e, c, n⟩ := r; exact ⟨p, e, c.less hF, n⟩
variable {mg : Str → Option Value} {W : WX}
end
def eGet2 (k1 : Int) (f1 : Mo Hd) (k2 : Int) (f2 fe fd : Mo Hd) : Mo Hd := fun ρ => bnd (f1 ρ) fun h1 ρ1 => bnd (f2 ρ1) fun h2 ρ2 => bnd (fe ρ2) fun he ρ3 => bnd (fd ρ3) fun hd ρ4 => match h1, h2, hd, he with
  | .imm a, .imm b, .imm d, .imm (.int k) => .ok (.imm (if k = k2 then b else if k = k1 then a else d)) ρ4
  | _, _, _, _ => .stuck
section
variable {X : Cx} {W : WX}
end
end Mir


set_option maxHeartbeats 4000000
namespace Mir
open PySem PySem.Spec PyProof.Rows L2
/-! the order of nested data -/
noncomputable def ltXD (a b : PyData) : Option Hd := @ite _ (PySem.W.alike a b = true ∧ a ≠ .none ∧ a.depth ≤ 60) (Classical.propDecidable _) (some (.imm (.bool (PySem.W.dataLt a b)))) none
end Mir


set_option maxHeartbeats 4000000
namespace Mir
open PySem PySem.Spec PyProof.Rows L2
variable {X : Cx} {W : WX}
/-! for k in reversed(range(n)) -/
noncomputable def iRr (fe : Mo Hd) : Mo (List PyData) := fun ρ => bnd (fe ρ) fun h ρ1 => match dr h ρ1 with
  | some (.int j) => @ite _ (-(2 ^ 62) ≤ j ∧ j < 2 ^ 62) (Classical.propDecidable _) (.ok (rngC ((j.toNat : Int) - 1) (-1) j.toNat) ρ1) .stuck
  | _ => .stuck
/-! sorted(set(..)) of whole numbers -/
def insU (x : Int) : List Int → List Int
  | [] => [x]
  | y :: ys => if x < y then x :: y :: ys else if x = y then y :: ys else y :: insU x ys
def usort (l : List Int) : List Int := l.foldr insU []
def usetTD : PyData → Option Hd
  | .tuple ds => (intsOf ds).bind fun ns => if ns.length < 64 then some (.fresh ((usort ns).map .int)) else none
  | _ => none
section
variable {a : Expr} {fa : Mo Hd} {p p2 q pos : Pos}
end
end Mir


set_option maxHeartbeats 4000000
namespace Mir
open PySem PySem.Spec PyProof.Rows L2
section
variable {P : Program} {w : World} {A : Around} {E : Value → Shared → Prop} {s : Shared}
abbrev setN (w : World) : Obj := { cls := .type "set", dict := none, data := .set #[] 0 (.fresh 0 0 (!w.params.followText "set-order")) }
end
variable {X : Cx} {W : WX}
def usetLD : PyData → Option Hd
  | .list ds => (intsOf ds).bind fun ns => if ns.length < 64 then some (.fresh ((usort ns).map .int)) else none
  | _ => none
section
variable {a : Expr} {fa : Mo Hd} {p p2 q pos : Pos}
end
end Mir


set_option maxHeartbeats 4000000
namespace Mir
open PySem PySem.Spec PyProof.Rows L2
variable {X : Cx} {W : WX}
/-- an expression whose list is given away for good -/
def eEsc (fe : Mo Hd) : Mo Hd := fun ρ => bnd (fe ρ) fun h ρ1 => bnd (esc h ρ1) fun d ρ2 => .ok (.imm d) ρ2
/-- f(e), e a new list that the call may turn -/
def eCallT (m : List Slot → So) (fe : Mo Hd) : Mo Hd := fun ρ => bnd (fe ρ) fun h ρ1 => match h with
  | .fresh es => (match m [.arg es] with
    | .rt (.imm d) [.arg _] => .ok (.imm d) ρ1
    | _ => .stuck)
  | _ => .stuck
end Mir


set_option maxHeartbeats 4000000
namespace Mir
open PySem PySem.Spec PyProof.Rows L2
variable {X : Cx} {W : WX}
/-! texts: 'a'.join([..]), 'a'.index(e) -/
def strsOf : List PyData → Option (List Str)
  | [] => some []
  | .str z :: ds => (strsOf ds).map (z :: ·)
  | _ => none
theorem strsOf_map : ∀ ys : List Str, strsOf (ys.map .str) = some ys
  | [] => rfl
  | y :: ys => by rw [List.map_cons, strsOf, strsOf_map ys]; rfl
theorem strsOf_eq : ∀ {ds : List PyData} {ys : List Str}, strsOf ds = some ys → ds = ys.map .str
  | [], _, e => by cases e; rfl
  | d :: ds, ys, e => by
    cases d with
    | str z =>
      rw [strsOf] at e
      cases q : strsOf ds with
      | none => rw [q] at e; cases e
      | some zs => rw [q] at e; cases e; rw [strsOf_eq q]; rfl
    | _ => cases e
theorem strs_vs {K : PySem.W.Frag} {G : Hp} : ∀ {ys : List Str} {vs : List V}, DpAll K G vs (ys.map PyData.str) → vs = ys.map V.str
  | [], _, h => by cases h; rfl
  | y :: ys, _, h => by
    cases h with
    | cons h1 h2 => cases h1; rw [strs_vs h2]; rfl
def joinD (a : Str) : PyData → Option Hd
  | .list ds => (strsOf ds).bind fun ys => if (ys.map (·.length)).sum + ys.length * a.length ≤ 16777216 then some (.imm (.str (Txt.join a ys))) else none
  | _ => none
def sixD (a : Str) : PyData → Option Hd
  | .str b => match Builtin.Str.occurrences a b 0 a.length 1 with
    | i :: _ => some (.imm (.int (i : Nat)))
    | [] => none
  | _ => none
section
variable {a : Str} {e : Expr} {fe : Mo Hd} {ppos apos pos : Pos} {j : Nat}
theorem e1_use {op : PyData → Option Hd} {σ : L2.St} {H : Hp} {Q : VK} (h : tH X.K X.mg W (e1 op fe) σ H Q) (P : V → Hp → Prop) (hp : ∀ x G H d r, Same G H → ER X.K G H x d → op d = some (.imm r) → (∀ v, Dp X.K G v r → Q v H) → P x H) (hi : ∀ d r, op d = some r → ∃ r', r = .imm r') : tH X.K X.mg W fe σ H P := by
  obtain ⟨Fm, B, G, ρ, r0, p⟩ := h
  refine ⟨Fm, B, G, ρ, r0, p.bnd fun x h1 G1 H1 ρ1 s1 r1 q1 p1 => ?_⟩
  cases z : dr h1 ρ1 with
  | none => rw [z] at p1; exact p1.elim
  | some d =>
    simp only [z] at p1
    have er := r1.er q1 z
    cases y : op d with
    | none => rw [y] at p1; exact p1.elim
    | some r =>
      obtain ⟨r', rfl⟩ := hi d r y
      rw [y] at p1
      exact hp x G1 H1 d r' r1.gh er y fun v hv => p1 v G1 H1 (Same.refl _) r1 hv
theorem re_join (he : PE X e (tH X.K X.mg W fe)) (hs : starEach [e] X.env = [(false, eval e X.env)] := by rfl) (hb : attributeBase (.Constant (.str a) j ppos) "join" X.env (eval (.Constant (.str a) j ppos) X.env) = eval (.Constant (.str a) j ppos) X.env := by rfl) (hl : (apos.endLine == pos.line) = true := by rfl) :
    PE X (.Call (.Attribute (.Constant (.str a) j ppos) "join" apos) [e] [] pos) (tH X.K X.mg W (e1 (joinD a) fe)) :=
  PE.weak (pe_join pe_str he hs hb hl) fun σ H Q h => ⟨⟨a, rfl⟩, e1_use h _ (fun x G H d r sg er eo k => by
    unfold joinD at eo
    split at eo
    · rename_i ds
      cases q : strsOf ds with
      | none => rw [q] at eo; cases eo
      | some ys =>
        rw [q, Option.bind_some] at eo
        split at eo
        · rename_i hz
          cases eo
          obtain ⟨l, vs, rfl, hlv, qv⟩ := er.list sg
          rw [strsOf_eq q] at qv
          rw [strs_vs qv] at hlv
          exact ⟨a, l, ys, rfl, rfl, .inl hlv, hz, k _ (.str _)⟩
        · cases eo
    · cases eo) (fun d r hr => by
    unfold joinD at hr
    split at hr
    · rename_i ds
      cases q : strsOf ds with
      | none => rw [q] at hr; cases hr
      | some ys =>
        rw [q, Option.bind_some] at hr
        split at hr
        · cases hr; exact ⟨_, rfl⟩
        · cases hr
    · cases hr)⟩
end
/-- text or e -/
def eOrS (fa fb : Mo Hd) : Mo Hd := fun ρ => bnd (fa ρ) fun h ρ1 => match dr h ρ1 with
  | some (.str z) => if z.length ≤ 16777216 then (if z.length = 0 then fb ρ1 else .ok (.imm (.str z)) ρ1) else .stuck
  | _ => .stuck
end Mir


set_option maxHeartbeats 4000000
namespace Mir
open PySem PySem.Spec PyProof.Rows L2
/-! rows in their order -/
def lexL : List Int → List Int → Bool
  | _, [] => false
  | [], _ :: _ => true
  | x :: xs, y :: ys => if x = y then lexL xs ys else decide (x < y)
def rsort (rs : List (List Int)) : List (List Int) := rs.mergeSort fun a b => !lexL b a
section
variable {prog : Program} {w : World} {A : Around} {s : Shared} {E : Value → Shared → Prop}
end
def rowsOf : List PyData → Option (List (List Int))
  | [] => some []
  | .tuple d :: ds => (intsOf d).bind fun ns => (rowsOf ds).map (ns :: ·)
  | _ => none
def rowD (r : List Int) : PyData := .tuple (r.map .int)
def sortTD : List PyData → Option Hd
  | [.list ds] => (rowsOf ds).bind fun rs => if (decide (rs.length ≤ 1) || rs.all (fun r => !r.isEmpty)) = true then some (.fresh ((rsort rs).map rowD)) else none
  | _ => none
variable {X : Cx}
end Mir


set_option maxHeartbeats 4000000
namespace Mir
open PySem PySem.Spec PyProof.Rows L2
/-! ### list.insert -/
def insL {α : Type} (l : List α) (k : Nat) (y : α) : List α := l.take k ++ y :: l.drop k
def rIns : V → List V → Hp → VK → Prop := fun x vs H Q => ∃ l xs k y, x = .ref l ∧ vs = [.int k, y] ∧ H l = some (.lst xs) ∧ 0 ≤ k ∧ k ≤ xs.length ∧ xs.length < sizeLine ∧ Q .non (upd H l (.lst (insL xs k.toNat y)))
section
variable {X : Cx} {W : WX} {fl : Mo (List Hd)} {pos : Pos}
noncomputable def sIns (j : Nat) (fl : Mo (List Hd)) : En → So := fun ρ => if isLst ρ[j]? = true then bndS (fl ρ) fun hs ρ1 => bndS (escs hs ρ1) fun ds ρ2 => match ds with
    | [.int k, d] => wrS ρ2 j fun l => @ite _ (l.length < sizeLine ∧ 0 ≤ k ∧ k ≤ l.length) (Classical.propDecidable _) (some (insL l k.toNat d)) none
    | _ => .stuck
  else .stuck
/-! ### isinstance of a caught exception: a class of the interpreter, several classes -/
structure ExcV (K : PySem.W.Frag) (L : List Str) : Prop where
  val : ∀ c ∈ L, ∀ C, PySem.W.nsIn K mainGlobals c = some (some (.ref C)) → PySem.W.kitOne K (.ref C) (.type "ValueError") = some true
theorem inst_of {pins : List (Addr × Obj)} {σ : L2.St} {H : Hp} {s : Shared} {a D : Addr} (I : Inv X pins σ H s) (ha : H a = some (exT (.ref D) none a)) : ∃ oe, PySem.W.InstAt s.heap a oe D none := by
  obtain ⟨⟨oe, vs, hg, hz, hv⟩, _⟩ := I.hok a _ ha
  obtain ⟨o1, o2, o3, o4⟩ := oe
  obtain ⟨z1, z2⟩ := hz
  dsimp only at z1 z2 hv
  subst z1 z2 hv
  exact ⟨_, hg, rfl, rfl, trivial⟩
def eIsxV (L : List Str) (j : Nat) : Mo Hd := fun ρ => match ρ[j]? with
  | some (.exn c) => if c ∈ L then .ok (.imm (.bool true)) ρ else .stuck
  | _ => .stuck
def rIsxV (K : PySem.W.Frag) : List V → Hp → VK → Prop := fun xs H Q => ∃ a D, xs = [.ref a, .ty "ValueError"] ∧ Q (.bl true) H ∧ H a = some (exT (.ref D) none a) ∧ ExcC K D ∧ PySem.W.kitOne K (.ref D) (.type "ValueError") = some true
theorem cr_isxV : CallR X (.builtin "isinstance") (rIsxV X.K) := by
  intro pins s σ H xs us Q I r h
  obtain ⟨a, D, rfl, q, ha, E, e⟩ := h
  obtain ⟨u1, u2, rfl, r1, r2⟩ := vals2 r
  cases (show u1 = Value.ref a from r1)
  cases (show u2 = Value.type "ValueError" from r2)
  obtain ⟨oe, J⟩ := inst_of I ha
  exact PySem.W.kia_one (PySem.W.handS_kitx_exc E.hg E.hk E.hs E.hd E.ha E.hn E.ht E.hm) I.kIn J e (fun z => nomatch z) fun tk => ⟨.bl true, H, I.tok tk, rfl, q⟩
theorem re_isxV {L : List Str} (j : Nat) {x : Str} {p p1 p2 pos : Pos} (tab : ExcTab X.K X.mg L) (tv : ExcV X.K L) (hi : X.mg "isinstance" = none) (hm : X.mg "ValueError" = none) (hj : X.N[j]? = some x := by rfl) (hv : Vis X.env.scope x := by first | exact Or.inl rfl | exact Or.inr (Or.inl rfl) | exact Or.inr (Or.inr rfl)) (hg : Gl X "ValueError" := by rfl) (hgi : Gl X "isinstance" := by rfl) (hxd : (x == ("__debug__" : Str)) = false := by decide) (hxc : (x == ("__classdict__" : Str)) = false := by decide)
    (hs : starEach (.Name x p1 :: [.Name "ValueError" p2]) X.env = (false, eval (.Name x p1) X.env) :: starEach [.Name "ValueError" p2] X.env := by rfl) (hpl : (backTo pos (starEach [.Name "ValueError" p2] X.env)).any (·.1) = false := by rfl) (hs2 : starEach (.Name "ValueError" p2 :: []) X.env = (false, eval (.Name "ValueError" p2) X.env) :: starEach [] X.env := by rfl) :
    PE X (.Call (.Name "isinstance" p) [.Name x p1, .Name "ValueError" p2] [] pos) (tH X.K X.mg W (eIsxV L j)) := by
  refine PE.weak (pe_callB cr_isxV hgi hi (by decide +kernel) (pa_cons (pe_var (i := j) hj hv hxd hxc) (pa_cons (pe_bltn (v := .ty "ValueError") (u := .type "ValueError") hg hm (by decide +kernel) rfl (by decide) (by decide)) pa_nil hs2) hs) (by decide) (by decide) hs hpl) fun σ H Q h => ?_
  obtain ⟨Fm, B, G, ρ, r0, p⟩ := h
  simp only [eIsxV] at p
  cases z : ρ[j]? with
  | none => rw [z] at p; exact p.elim
  | some t =>
    rw [z] at p
    have sl := r0.at z
    cases t with
    | exn c =>
      dsimp only at p
      obtain ⟨a, C, e1, e2, e3⟩ := sl
      split at p
      · rename_i hc
        obtain ⟨C', gC, nC, eC, _⟩ := tab.cls c hc
        have : C' = C := by
          have y := nC.symm.trans e2
          cases y
          rfl
        subst this
        exact ⟨.ref a, join_some e1, a, C', rfl, p _ G H (Same.refl _) r0 (Dp.bl _), r0.gh _ _ e3, eC, tv.val c hc C' nC⟩
      · exact p.elim
    | _ => exact p.elim
def eIsxT (L Ts : List Str) (j : Nat) : Mo Hd := fun ρ => match ρ[j]? with
  | some (.exn c) => if c ∈ L then .ok (.imm (.bool (Ts.any (excSub c)))) ρ else .stuck
  | _ => .stuck
/-- several classes, by their names -/
def ClsAll (K : PySem.W.Frag) : List Str → List V → Prop
  | [], [] => True
  | T :: Ts, v :: vs => (∃ C, v = .ref C ∧ PySem.W.nsIn K mainGlobals T = some (some (.ref C))) ∧ ClsAll K Ts vs
  | _, _ => False
def tCs (K : PySem.W.Frag) (Ts : List Str) : TA := fun _ H Q => ∀ vs, ClsAll K Ts vs → Q vs H
def rIsxT (K : PySem.W.Frag) : List V → Hp → VK → Prop := fun xs H Q => ∃ a D tp vs b, xs = [.ref a, .ref tp] ∧ Q (.bl b) H ∧ H a = some (exT (.ref D) none a) ∧ ExcC K D ∧ H tp = some (.tup vs) ∧ ∀ its, Vals vs its → PySem.W.kitAny K (.ref D) its = some b
theorem kit_type {K : PySem.W.Frag} {t : Value} {T : String} {b : Bool} (h : PySem.W.subIn K t (.type T) = some b) (hm : PySem.W.kitMeta T = true) (hne : (t == Value.type T) = false) : PySem.W.kitOne K t (.type T) = some b := by
  unfold PySem.W.kitOne
  rw [hne, if_neg Bool.false_ne_true]
  show (if PySem.W.kitMeta T = true then PySem.W.subIn K t (.type T) else none) = some b
  rw [if_pos hm]
  exact h
theorem excV_mk {K : PySem.W.Frag} (Ls : List (Str × Addr)) (h1 : ∀ p ∈ Ls, PySem.W.nsIn K mainGlobals p.1 = some (some (.ref p.2)) ∧ PySem.W.subIn K (.ref p.2) (.type "ValueError") = some true) : ExcV K (Ls.map (·.1)) := by
  refine ⟨fun c hc C e => ?_⟩
  obtain ⟨p, hp, rfl⟩ := List.mem_map.mp hc
  have z1 := (h1 p hp).1.symm.trans e
  cases z1
  exact kit_type (h1 p hp).2 (by decide +kernel) rfl
end
end Mir


namespace Lb
open PySem PySem.Spec PyProof.Rows L2 Mir
noncomputable def m_row_of_b0 : En → So :=
  (sKl [1, 2] (sExt 3 (e2 mulD (eLst (aCons (eN 2) aNil)) (eN 1))))
theorem m_row_of_b0_a {ρ : En} : m_row_of_b0 ρ = (sKl [1, 2] (sExt 3 (e2 mulD (eLst (aCons (eN 2) aNil)) (eN 1)))) ρ := id rfl
noncomputable def m_row_of : En → So :=
  (sSeq (sIf (t1 (e2 gtD (eCl sumD (aCons (eComp (iN 0) (gT (gCons' (gN 1) (gCons' (gN 2) gNil'))) tYes' (eN 1) [1, 2]) aNil)) (eC (.int 3000)))) (sExc "TooLong") sNil)
  (sSeq (sSet 3 (eLst aNil))
  (sSeq (sKl [0, 1, 2] (sFor (iL (eN 0)) (gT (gCons' (gN 1) (gCons' (gN 2) gNil'))) m_row_of_b0))
  (sRet (eCl tupleD (aCons (eN 3) aNil))))))
theorem m_row_of_a {ρ : En} : m_row_of ρ = (sSeq (sIf (t1 (e2 gtD (eCl sumD (aCons (eComp (iN 0) (gT (gCons' (gN 1) (gCons' (gN 2) gNil'))) tYes' (eN 1) [1, 2]) aNil)) (eC (.int 3000)))) (sExc "TooLong") sNil)
  (sSeq (sSet 3 (eLst aNil))
  (sSeq (sKl [0, 1, 2] (sFor (iL (eN 0)) (gT (gCons' (gN 1) (gCons' (gN 2) gNil'))) m_row_of_b0))
  (sRet (eCl tupleD (aCons (eN 3) aNil)))))) ρ := id rfl
noncomputable def f_row_of : List Slot → So := fnM 4 m_row_of
theorem f_row_of_a {as : List Slot} : f_row_of as = fnM 4 m_row_of as := id rfl

end Lb


namespace Lb
open PySem PySem.Spec PyProof.Rows L2 Mir
noncomputable def m_figures_of_b0 : En → So :=
  (sSeq (sApp 2 (e2 modD (eN 1) (eN 0)))
  (sSet 1 (e2 fdivD (eN 1) (eN 0))))
noncomputable def m_figures_of_c1 : Mo Bool :=
  (t1 (e2 gtD (eN 1) (eC (.int 0))))
noncomputable def m_figures_of : En → So :=
  (sSeq (sSet 2 (eLst aNil))
  (sSeq (sKl [0, 1] (sWhile m_figures_of_c1 m_figures_of_b0))
  (sRet (eCl tupleD (aCons (e1 revD (eN 2)) aNil)))))
noncomputable def f_figures_of : List Slot → So := fnM 3 m_figures_of
noncomputable def m_runs_of_b0 : En → So :=
  (sKl [3] (sIf (tOr' (t1 (e2 eqD (eN 3) (eCl lenD (aCons (eN 0) aNil)))) (t1 (e2 neD (e2 ixD (eN 0) (eN 3)) (e2 ixD (eN 0) (e2 subD (eN 3) (eC (.int 1))))))) (sSeq (sKl [2] (sApp 1 (eTup (aCons (e2 subD (eN 3) (eN 2)) (aCons (e2 ixD (eN 0) (eN 2)) aNil)))))
  (sKl [3] (sSet 2 (eN 3)))) sNil))
noncomputable def m_runs_of : En → So :=
  (sSeq (sSet 1 (eLst aNil))
  (sSeq (sSet 2 (eC (.int 0)))
  (sSeq (sKl [0, 2, 3] (sFor (iR2 (aCons (eC (.int 1)) (aCons (e2 addD (eCl lenD (aCons (eN 0) aNil)) (eC (.int 1))) aNil))) (gN 3) m_runs_of_b0))
  (sRet (eN 1)))))
noncomputable def f_runs_of : List Slot → So := fnM 4 m_runs_of
noncomputable def m_sure_of_b0 : En → So :=
  (sSeq (sKl [3] (sExt 2 (eCl listD (aCons (eCall 2 f_figures_of (aCons (eN 0) (aCons (eN 3) aNil))) aNil))))
  (sKl [4] (sApp 2 (eN 4))))
noncomputable def m_sure_of : En → So :=
  (sSeq (sSet 2 (eLst aNil))
  (sSeq (sKl [0, 1, 3, 4] (sFor (iL (eSl slD (eCall 1 f_runs_of (aCons (eN 1) aNil)) pNo (pSome (e1 negD (eC (.int 1)))))) (gT (gCons' (gN 3) (gCons' (gN 4) gNil'))) m_sure_of_b0))
  (sRet (eCl tupleD (aCons (eN 2) aNil)))))
noncomputable def f_sure_of : List Slot → So := fnM 5 m_sure_of
noncomputable def m_said_b0 : En → So :=
  (sSeq (sKl [5] (sSet 7 (eCl listD (aCons (eCall 2 f_figures_of (aCons (eN 2) (aCons (eN 5) aNil))) aNil))))
  (sKl [6, 7] (sIf (t1 (e2 eqD (eN 3) (eC (.int 0)))) (sKl [6, 7] (sExt 4 (e2 addD (eN 7) (eLst (aCons (eN 6) aNil))))) (sKl [6, 7] (sExt 4 (e2 addD (eLst (aCons (eN 6) aNil)) (e1 revD (eN 7))))))))
noncomputable def m_said : En → So :=
  (sSeq (sKl [0] (sAsg (gT (gCons' (gN 2) (gCons' (gN 3) gNil'))) (eN 0)))
  (sSeq (sSet 4 (eLst aNil))
  (sSeq (sKl [1, 2, 3, 5, 6, 7] (sFor (iL (eCall 1 f_runs_of (aCons (eN 1) aNil))) (gT (gCons' (gN 5) (gCons' (gN 6) gNil'))) m_said_b0))
  (sRet (eCl tupleD (aCons (eN 4) aNil))))))
noncomputable def f_said : List Slot → So := fnM 8 m_said
noncomputable def m__law_pool : En → So :=
  (sRet (eLst (aCons (eCl max2D (aCons (eC (.int 0)) (aCons (e2 subD (eN 0) (e2 powD (eC (.int 10)) (eC (.int 18)))) aNil))) (aCons (e2 modD (eN 0) (e2 powD (eC (.int 10)) (eC (.int 18)))) (aCons (eC (.int 0)) aNil)))))
noncomputable def f__law_pool : List Slot → So := fnM 1 m__law_pool
noncomputable def m__law_next : En → So :=
  (sSeq (sKl [2] (sIf (t1 (e2 gtD (e2 ixD (eN 0) (eC (.int 0))) (eC (.int 0)))) (sSeq (sSet 2 (e2 modD (e2 ixD (eN 0) (eC (.int 0))) (eN 1)))
  (sSeq (sKl [1] (sSub 0 (eC (.int 0)) (e2 fdivD (e2 ixD (eN 0) (eC (.int 0))) (eN 1))))
  (sRet (eN 2)))) sNil))
  (sSeq (sSub 0 (eC (.int 2)) (e2 addD (e2 ixD (eN 0) (eC (.int 2))) (eC (.int 1))))
  (sSeq (sSet 3 (e2 modD (e2 addD (e2 ixD (eN 0) (eC (.int 1))) (e2 mulD (eC (.int 104729)) (e2 ixD (eN 0) (eC (.int 2))))) (eC (.int 999999937))))
  (sSeq (sKl [3] (sSet 4 (e2 modD (e2 mulD (e2 addD (eN 3) (eC (.int 17))) (e2 addD (eN 3) (eC (.int 65537)))) (eC (.int 1000000009)))))
  (sRet (e2 modD (e2 fdivD (e2 modD (e2 mulD (eN 4) (eN 4)) (eC (.int 2147483629))) (eC (.int 16))) (eN 1)))))))
noncomputable def f__law_next : List Slot → So := fnM 5 m__law_next
noncomputable def m__law_base : En → So :=
  (sSeq (sSet 1 (eCallR 2 0 f__law_next (aCons (eN 0) (aCons (eC (.int 8)) aNil))))
  (sSeq (sIf (t1 (e2 eqD (eN 1) (eC (.int 7)))) (sRet (e2 addD (eC (.int 5)) (eCallR 2 0 f__law_next (aCons (eN 0) (aCons (eC (.int 5)) aNil))))) sNil)
  (sRet (e2 ixD (eLst (aCons (eC (.int 2)) (aCons (eC (.int 3)) (aCons (eC (.int 3)) (aCons (eC (.int 4)) (aCons (eC (.int 10)) (aCons (eC (.int 2)) (aCons (eC (.int 3)) aNil)))))))) (eN 1)))))
theorem m__law_base_a {ρ : En} : m__law_base ρ = (sSeq (sSet 1 (eCallR 2 0 f__law_next (aCons (eN 0) (aCons (eC (.int 8)) aNil))))
  (sSeq (sIf (t1 (e2 eqD (eN 1) (eC (.int 7)))) (sRet (e2 addD (eC (.int 5)) (eCallR 2 0 f__law_next (aCons (eN 0) (aCons (eC (.int 5)) aNil))))) sNil)
  (sRet (e2 ixD (eLst (aCons (eC (.int 2)) (aCons (eC (.int 3)) (aCons (eC (.int 3)) (aCons (eC (.int 4)) (aCons (eC (.int 10)) (aCons (eC (.int 2)) (aCons (eC (.int 3)) aNil)))))))) (eN 1))))) ρ := id rfl
noncomputable def f__law_base : List Slot → So := fnM 2 m__law_base
theorem f__law_base_a {as : List Slot} : f__law_base as = fnM 2 m__law_base as := id rfl

noncomputable def m__law_row_p_b0 : En → So :=
  (sKl [9] (sSeq (sSet 10 (e2 addD (eN 6) (eCallR 2 0 f__law_next (aCons (eN 0) (aCons (eN 5) aNil)))))
  (sSeq (sIf (tAnd' (t1 (e2 neD (eN 8) (eTup aNil))) (t1 (e2 ltD (eCallR 2 0 f__law_next (aCons (eN 0) (aCons (eC (.int 3)) aNil))) (e2 subD (eN 7) (eC (.int 1)))))) (sSet 10 (e2 ixD (eN 8) (e1 negD (eC (.int 1))))) sNil)
  (sKl [10] (sSet 8 (e2 addD (eN 8) (eTup (aCons (eN 10) aNil))))))))
noncomputable def m__law_row_p : En → So :=
  (sSeq (sKl [2, 3] (sSet 4 (e2 addD (eN 2) (eCallR 2 0 f__law_next (aCons (eN 0) (aCons (e2 addD (e2 subD (eN 3) (eN 2)) (eC (.int 1))) aNil))))))
  (sSeq (sSet 5 (e2 ixD (eLst (aCons (eC (.int 2)) (aCons (eCl min2D (aCons (eN 1) (aCons (eC (.int 3)) aNil))) (aCons (eCl min2D (aCons (eN 1) (aCons (eC (.int 4)) aNil))) (aCons (eN 1) aNil))))) (eCallR 2 0 f__law_next (aCons (eN 0) (aCons (eC (.int 4)) aNil)))))
  (sSeq (sKl [1] (sSet 6 (e2 mulD (eCallR 2 0 f__law_next (aCons (eN 0) (aCons (eC (.int 2)) aNil))) (e2 subD (eN 1) (eN 5)))))
  (sSeq (sSet 7 (e2 addD (eC (.int 1)) (eCallR 2 0 f__law_next (aCons (eN 0) (aCons (eC (.int 3)) aNil)))))
  (sSeq (sSet 8 (eTup aNil))
  (sSeq (sKl [4, 5, 6, 7, 9, 10] (sFor (iR1 (aCons (eN 4) aNil)) (gN 9) m__law_row_p_b0))
  (sRet (eN 8))))))))
noncomputable def f__law_row_p : List Slot → So := fnM 11 m__law_row_p
noncomputable def m_front_of_b0 : En → So :=
  (sKl [1] (sIf (tAnd' (t1 (e2 eqD (e2 ixD (eN 0) (e2 subD (eN 1) (eC (.int 1)))) (eC (.int 0)))) (t1 (e2 neD (e2 ixD (eN 0) (eN 1)) (eC (.int 0))))) (sRet (eSl slD (eN 0) pNo (pSome (eN 1)))) sNil))
noncomputable def m_front_of : En → So :=
  (sSeq (sKl [1] (sFor (iR2 (aCons (eC (.int 1)) (aCons (eCl lenD (aCons (eN 0) aNil)) aNil))) (gN 1) m_front_of_b0))
  (sRet (eN 0)))
noncomputable def f_front_of : List Slot → So := fnM 2 m_front_of
noncomputable def m_number_of_b0 : En → So :=
  (sKl [3] (sSet 2 (e2 addD (e2 mulD (eN 2) (eN 0)) (eN 3))))
noncomputable def m_number_of : En → So :=
  (sSeq (sSet 2 (eC (.int 0)))
  (sSeq (sKl [0, 1, 3] (sFor (iL (eN 1)) (gN 3) m_number_of_b0))
  (sRet (eN 2))))
noncomputable def f_number_of : List Slot → So := fnM 4 m_number_of
noncomputable def m__law_mixed : En → So :=
  (sSeq (sKl [0, 1] (sSet 2 (e2 modD (e2 mulD (e2 addD (e2 addD (e2 modD (eN 0) (eC (.int 1000000007))) (e2 mulD (eC (.int 7919)) (eN 1))) (eC (.int 101))) (eC (.int 48271))) (eC (.int 2147483647)))))
  (sRet (e2 modD (e2 mulD (e2 modD (e2 mulD (eN 2) (eN 2)) (eC (.int 2147483629))) (eC (.int 69621))) (eC (.int 2147483647)))))
theorem m__law_mixed_a {ρ : En} : m__law_mixed ρ = (sSeq (sKl [0, 1] (sSet 2 (e2 modD (e2 mulD (e2 addD (e2 addD (e2 modD (eN 0) (eC (.int 1000000007))) (e2 mulD (eC (.int 7919)) (eN 1))) (eC (.int 101))) (eC (.int 48271))) (eC (.int 2147483647)))))
  (sRet (e2 modD (e2 mulD (e2 modD (e2 mulD (eN 2) (eN 2)) (eC (.int 2147483629))) (eC (.int 69621))) (eC (.int 2147483647))))) ρ := id rfl
noncomputable def f__law_mixed : List Slot → So := fnM 3 m__law_mixed
theorem f__law_mixed_a {as : List Slot} : f__law_mixed as = fnM 3 m__law_mixed as := id rfl

noncomputable def m__law_stream_b0 : En → So :=
  (sKl [3] (sSet 2 (e2 addD (e2 mulD (eN 2) (eC (.int 2147483647))) (eCall 2 f__law_mixed (aCons (e2 addD (eN 0) (e2 mulD (eC (.int 1009)) (eN 1))) (aCons (eN 3) aNil))))))
theorem m__law_stream_b0_a {ρ : En} : m__law_stream_b0 ρ = (sKl [3] (sSet 2 (e2 addD (e2 mulD (eN 2) (eC (.int 2147483647))) (eCall 2 f__law_mixed (aCons (e2 addD (eN 0) (e2 mulD (eC (.int 1009)) (eN 1))) (aCons (eN 3) aNil)))))) ρ := id rfl
noncomputable def m__law_stream : En → So :=
  (sSeq (sSet 0 (e2 modD (eN 0) (e2 mulD (e2 powD (eC (.int 10)) (eC (.int 60))) (e2 powD (eC (.int 10)) (eC (.int 60))))))
  (sSeq (sIf (t1 (e2 geD (eN 0) (e2 powD (eC (.int 10)) (eC (.int 18))))) (sRet (eLst (aCons (eN 0) aNil))) sNil)
  (sSeq (sSet 2 (eC (.int 0)))
  (sSeq (sKl [0, 1, 3] (sFor (iR1 (aCons (eC (.int 14)) aNil)) (gN 3) m__law_stream_b0))
  (sRet (eLst (aCons (eN 2) aNil)))))))
theorem m__law_stream_a {ρ : En} : m__law_stream ρ = (sSeq (sSet 0 (e2 modD (eN 0) (e2 mulD (e2 powD (eC (.int 10)) (eC (.int 60))) (e2 powD (eC (.int 10)) (eC (.int 60))))))
  (sSeq (sIf (t1 (e2 geD (eN 0) (e2 powD (eC (.int 10)) (eC (.int 18))))) (sRet (eLst (aCons (eN 0) aNil))) sNil)
  (sSeq (sSet 2 (eC (.int 0)))
  (sSeq (sKl [0, 1, 3] (sFor (iR1 (aCons (eC (.int 14)) aNil)) (gN 3) m__law_stream_b0))
  (sRet (eLst (aCons (eN 2) aNil))))))) ρ := id rfl
noncomputable def f__law_stream : List Slot → So := fnM 4 m__law_stream
theorem f__law_stream_a {as : List Slot} : f__law_stream as = fnM 4 m__law_stream as := id rfl

noncomputable def m__law_take : En → So :=
  (sSeq (sSet 2 (e2 modD (e2 ixD (eN 0) (eC (.int 0))) (eN 1)))
  (sSeq (sKl [1] (sSub 0 (eC (.int 0)) (e2 fdivD (e2 ixD (eN 0) (eC (.int 0))) (eN 1))))
  (sRet (eN 2))))
theorem m__law_take_a {ρ : En} : m__law_take ρ = (sSeq (sSet 2 (e2 modD (e2 ixD (eN 0) (eC (.int 0))) (eN 1)))
  (sSeq (sKl [1] (sSub 0 (eC (.int 0)) (e2 fdivD (e2 ixD (eN 0) (eC (.int 0))) (eN 1))))
  (sRet (eN 2)))) ρ := id rfl
noncomputable def f__law_take : List Slot → So := fnM 3 m__law_take
theorem f__law_take_a {as : List Slot} : f__law_take as = fnM 3 m__law_take as := id rfl

end Lb


set_option maxHeartbeats 4000000
namespace L_k06
open PySem PySem.Spec PyProof.Rows L2 Mir Lb
def topS (i : Nat) : Stmt := PySem.Challenge.pw_rowtongue_k06_refusals_stand_alone.main.body.getD i (.Pass ⟨0, 0, 0, 0⟩)
noncomputable def m__law_kinds : En → So :=
  (sSeq (sSet 1 (eLst (aCons (eIsx ["TongueError", "TooLong", "TooMany", "NoElder", "NoPlace", "NoSign", "NoText", "NoLine", "NoPast", "Empty"] "TooLong" 0) (aCons (eIsx ["TongueError", "TooLong", "TooMany", "NoElder", "NoPlace", "NoSign", "NoText", "NoLine", "NoPast", "Empty"] "TooMany" 0) (aCons (eIsx ["TongueError", "TooLong", "TooMany", "NoElder", "NoPlace", "NoSign", "NoText", "NoLine", "NoPast", "Empty"] "NoElder" 0) aNil)))))
  (sSeq (sSet 1 (e2 addD (eN 1) (eLst (aCons (eIsx ["TongueError", "TooLong", "TooMany", "NoElder", "NoPlace", "NoSign", "NoText", "NoLine", "NoPast", "Empty"] "NoPlace" 0) (aCons (eIsx ["TongueError", "TooLong", "TooMany", "NoElder", "NoPlace", "NoSign", "NoText", "NoLine", "NoPast", "Empty"] "NoSign" 0) (aCons (eIsx ["TongueError", "TooLong", "TooMany", "NoElder", "NoPlace", "NoSign", "NoText", "NoLine", "NoPast", "Empty"] "NoText" 0) aNil))))))
  (sSeq (sSet 1 (e2 addD (eN 1) (eLst (aCons (eIsx ["TongueError", "TooLong", "TooMany", "NoElder", "NoPlace", "NoSign", "NoText", "NoLine", "NoPast", "Empty"] "NoLine" 0) (aCons (eIsx ["TongueError", "TooLong", "TooMany", "NoElder", "NoPlace", "NoSign", "NoText", "NoLine", "NoPast", "Empty"] "NoPast" 0) (aCons (eIsx ["TongueError", "TooLong", "TooMany", "NoElder", "NoPlace", "NoSign", "NoText", "NoLine", "NoPast", "Empty"] "Empty" 0) aNil))))))
  (sRet (e2 addD (eN 1) (eLst (aCons (eIsx ["TongueError", "TooLong", "TooMany", "NoElder", "NoPlace", "NoSign", "NoText", "NoLine", "NoPast", "Empty"] "TongueError" 0) (aCons (eIsxV ["TongueError", "TooLong", "TooMany", "NoElder", "NoPlace", "NoSign", "NoText", "NoLine", "NoPast", "Empty"] 0) aNil))))))))
theorem m__law_kinds_a {ρ : En} : m__law_kinds ρ = (sSeq (sSet 1 (eLst (aCons (eIsx ["TongueError", "TooLong", "TooMany", "NoElder", "NoPlace", "NoSign", "NoText", "NoLine", "NoPast", "Empty"] "TooLong" 0) (aCons (eIsx ["TongueError", "TooLong", "TooMany", "NoElder", "NoPlace", "NoSign", "NoText", "NoLine", "NoPast", "Empty"] "TooMany" 0) (aCons (eIsx ["TongueError", "TooLong", "TooMany", "NoElder", "NoPlace", "NoSign", "NoText", "NoLine", "NoPast", "Empty"] "NoElder" 0) aNil)))))
  (sSeq (sSet 1 (e2 addD (eN 1) (eLst (aCons (eIsx ["TongueError", "TooLong", "TooMany", "NoElder", "NoPlace", "NoSign", "NoText", "NoLine", "NoPast", "Empty"] "NoPlace" 0) (aCons (eIsx ["TongueError", "TooLong", "TooMany", "NoElder", "NoPlace", "NoSign", "NoText", "NoLine", "NoPast", "Empty"] "NoSign" 0) (aCons (eIsx ["TongueError", "TooLong", "TooMany", "NoElder", "NoPlace", "NoSign", "NoText", "NoLine", "NoPast", "Empty"] "NoText" 0) aNil))))))
  (sSeq (sSet 1 (e2 addD (eN 1) (eLst (aCons (eIsx ["TongueError", "TooLong", "TooMany", "NoElder", "NoPlace", "NoSign", "NoText", "NoLine", "NoPast", "Empty"] "NoLine" 0) (aCons (eIsx ["TongueError", "TooLong", "TooMany", "NoElder", "NoPlace", "NoSign", "NoText", "NoLine", "NoPast", "Empty"] "NoPast" 0) (aCons (eIsx ["TongueError", "TooLong", "TooMany", "NoElder", "NoPlace", "NoSign", "NoText", "NoLine", "NoPast", "Empty"] "Empty" 0) aNil))))))
  (sRet (e2 addD (eN 1) (eLst (aCons (eIsx ["TongueError", "TooLong", "TooMany", "NoElder", "NoPlace", "NoSign", "NoText", "NoLine", "NoPast", "Empty"] "TongueError" 0) (aCons (eIsxV ["TongueError", "TooLong", "TooMany", "NoElder", "NoPlace", "NoSign", "NoText", "NoLine", "NoPast", "Empty"] 0) aNil)))))))) ρ := id rfl
noncomputable def f__law_kinds : List Slot → So := fnM 2 m__law_kinds
theorem f__law_kinds_a {as : List Slot} : f__law_kinds as = fnM 2 m__law_kinds as := id rfl

noncomputable def m__law_raised : En → So :=
  (sSeq (sKl [2] (sSet 2 (eLst aNil)))
  (sSeq (sKl [0, 1, 3] (sTryS ["TongueError", "TooLong", "TooMany", "NoElder", "NoPlace", "NoSign", "NoText", "NoLine", "NoPast", "Empty"] "TongueError" 3 (sSeq (sIf (t1 (e2 eqD (eN 0) (eC (.int 0)))) (sExcT "TooLong" (eN 1)) sNil)
  (sSeq (sIf (t1 (e2 eqD (eN 0) (eC (.int 1)))) (sExcT "TooMany" (eN 1)) sNil)
  (sSeq (sIf (t1 (e2 eqD (eN 0) (eC (.int 2)))) (sExcT "NoElder" (eN 1)) sNil)
  (sSeq (sIf (t1 (e2 eqD (eN 0) (eC (.int 3)))) (sExcT "NoPlace" (eN 1)) sNil)
  (sSeq (sIf (t1 (e2 eqD (eN 0) (eC (.int 4)))) (sExcT "NoSign" (eN 1)) sNil)
  (sSeq (sIf (t1 (e2 eqD (eN 0) (eC (.int 5)))) (sExcT "NoText" (eN 1)) sNil)
  (sSeq (sIf (t1 (e2 eqD (eN 0) (eC (.int 6)))) (sExcT "NoLine" (eN 1)) sNil)
  (sSeq (sKl [0] (sIf (t1 (e2 eqD (eN 0) (eC (.int 7)))) (sExcT "NoPast" (eN 1)) sNil))
  (sExcT "Empty" (eN 1)))))))))) (sKl [3] (sSet 2 (eCallE f__law_kinds 3)))))
  (sRet (eN 2))))
theorem m__law_raised_a {ρ : En} : m__law_raised ρ = (sSeq (sKl [2] (sSet 2 (eLst aNil)))
  (sSeq (sKl [0, 1, 3] (sTryS ["TongueError", "TooLong", "TooMany", "NoElder", "NoPlace", "NoSign", "NoText", "NoLine", "NoPast", "Empty"] "TongueError" 3 (sSeq (sIf (t1 (e2 eqD (eN 0) (eC (.int 0)))) (sExcT "TooLong" (eN 1)) sNil)
  (sSeq (sIf (t1 (e2 eqD (eN 0) (eC (.int 1)))) (sExcT "TooMany" (eN 1)) sNil)
  (sSeq (sIf (t1 (e2 eqD (eN 0) (eC (.int 2)))) (sExcT "NoElder" (eN 1)) sNil)
  (sSeq (sIf (t1 (e2 eqD (eN 0) (eC (.int 3)))) (sExcT "NoPlace" (eN 1)) sNil)
  (sSeq (sIf (t1 (e2 eqD (eN 0) (eC (.int 4)))) (sExcT "NoSign" (eN 1)) sNil)
  (sSeq (sIf (t1 (e2 eqD (eN 0) (eC (.int 5)))) (sExcT "NoText" (eN 1)) sNil)
  (sSeq (sIf (t1 (e2 eqD (eN 0) (eC (.int 6)))) (sExcT "NoLine" (eN 1)) sNil)
  (sSeq (sKl [0] (sIf (t1 (e2 eqD (eN 0) (eC (.int 7)))) (sExcT "NoPast" (eN 1)) sNil))
  (sExcT "Empty" (eN 1)))))))))) (sKl [3] (sSet 2 (eCallE f__law_kinds 3)))))
  (sRet (eN 2)))) ρ := id rfl
noncomputable def f__law_raised : List Slot → So := fnM 4 m__law_raised
theorem f__law_raised_a {as : List Slot} : f__law_raised as = fnM 4 m__law_raised as := id rfl

noncomputable def m__law_base : En → So :=
  (sSeq (sKl [1] (sSet 1 (eLst aNil)))
  (sSeq (sKl [0, 2] (sTryS ["TongueError", "TooLong", "TooMany", "NoElder", "NoPlace", "NoSign", "NoText", "NoLine", "NoPast", "Empty"] "TongueError" 2 (sExcT "TongueError" (eN 0)) (sKl [2] (sSet 1 (eCallE f__law_kinds 2)))))
  (sRet (eN 1))))
theorem m__law_base_a {ρ : En} : m__law_base ρ = (sSeq (sKl [1] (sSet 1 (eLst aNil)))
  (sSeq (sKl [0, 2] (sTryS ["TongueError", "TooLong", "TooMany", "NoElder", "NoPlace", "NoSign", "NoText", "NoLine", "NoPast", "Empty"] "TongueError" 2 (sExcT "TongueError" (eN 0)) (sKl [2] (sSet 1 (eCallE f__law_kinds 2)))))
  (sRet (eN 1)))) ρ := id rfl
noncomputable def f__law_base : List Slot → So := fnM 3 m__law_base
theorem f__law_base_a {as : List Slot} : f__law_base as = fnM 3 m__law_base as := id rfl

noncomputable def m__law_long : En → So :=
  (sSeq (sSet 1 (eLst aNil))
  (sSeq (sKl [0, 2] (sTryS ["TongueError", "TooLong", "TooMany", "NoElder", "NoPlace", "NoSign", "NoText", "NoLine", "NoPast", "Empty"] "TongueError" 2 (sKl [0] (sExpr (eCall 1 f_row_of (aCons (eLst (aCons (eTup (aCons (eC (.int 1)) (aCons (eC (.int 0)) aNil))) (aCons (eTup (aCons (eN 0) (aCons (eC (.int 1)) aNil))) aNil))) aNil)))) (sKl [2] (sSet 1 (eCallE f__law_kinds 2)))))
  (sRet (eN 1))))
theorem m__law_long_a {ρ : En} : m__law_long ρ = (sSeq (sSet 1 (eLst aNil))
  (sSeq (sKl [0, 2] (sTryS ["TongueError", "TooLong", "TooMany", "NoElder", "NoPlace", "NoSign", "NoText", "NoLine", "NoPast", "Empty"] "TongueError" 2 (sKl [0] (sExpr (eCall 1 f_row_of (aCons (eLst (aCons (eTup (aCons (eC (.int 1)) (aCons (eC (.int 0)) aNil))) (aCons (eTup (aCons (eN 0) (aCons (eC (.int 1)) aNil))) aNil))) aNil)))) (sKl [2] (sSet 1 (eCallE f__law_kinds 2)))))
  (sRet (eN 1)))) ρ := id rfl
noncomputable def f__law_long : List Slot → So := fnM 3 m__law_long
theorem f__law_long_a {as : List Slot} : f__law_long as = fnM 3 m__law_long as := id rfl

noncomputable def m_law_b0 : En → So :=
  (sKl [6] (sIf (t1 (e2 neD (eCall 2 f__law_raised (aCons (eN 6) (aCons (eN 4) aNil))) (e2 addD (eComp (iK (iR1 (aCons (eC (.int 9)) aNil))) (gN 5) tYes' (e2 eqD (eN 5) (eN 6)) [5]) (eLst (aCons (eC (.bool true)) (aCons (eC (.bool true)) aNil)))))) (sRet (eC (.bool false))) sNil))
theorem m_law_b0_a {ρ : En} : m_law_b0 ρ = (sKl [6] (sIf (t1 (e2 neD (eCall 2 f__law_raised (aCons (eN 6) (aCons (eN 4) aNil))) (e2 addD (eComp (iK (iR1 (aCons (eC (.int 9)) aNil))) (gN 5) tYes' (e2 eqD (eN 5) (eN 6)) [5]) (eLst (aCons (eC (.bool true)) (aCons (eC (.bool true)) aNil)))))) (sRet (eC (.bool false))) sNil)) ρ := id rfl
noncomputable def m_law_b1 : En → So :=
  (sSeq (sKl [1, 2] (sSet 3 (eCall 2 f__law_stream (aCons (eN 2) (aCons (eN 1) aNil)))))
  (sSeq (sSet 4 (e1 (joinD "") (eComp (iK (iR1 (aCons (eCallR 2 0 f__law_take (aCons (eN 3) (aCons (eC (.int 9)) aNil))) aNil))) (gN 5) tYes' (e2 ixD (eC (.str "az -09")) (eCallR 2 0 f__law_take (aCons (eN 3) (aCons (eC (.int 6)) aNil)))) [5])))
  (sSeq (sKl [6] (sFor (iR1 (aCons (eC (.int 9)) aNil)) (gN 6) m_law_b0))
  (sSeq (sKl [4] (sIf (t1 (e2 neD (eCall 1 f__law_base (aCons (eN 4) aNil)) (e2 addD (e2 mulD (eLst (aCons (eC (.bool false)) aNil)) (eC (.int 9))) (eLst (aCons (eC (.bool true)) (aCons (eC (.bool true)) aNil)))))) (sRet (eC (.bool false))) sNil))
  (sKl [3] (sIf (t1 (e2 neD (eCall 1 f__law_long (aCons (e2 addD (eC (.int 3000)) (eCallR 2 0 f__law_take (aCons (eN 3) (aCons (e2 powD (eC (.int 10)) (eC (.int 18))) aNil)))) aNil)) (e2 addD (e2 addD (eLst (aCons (eC (.bool true)) aNil)) (e2 mulD (eLst (aCons (eC (.bool false)) aNil)) (eC (.int 8)))) (eLst (aCons (eC (.bool true)) (aCons (eC (.bool true)) aNil)))))) (sRet (eC (.bool false))) sNil))))))
theorem m_law_b1_a {ρ : En} : m_law_b1 ρ = (sSeq (sKl [1, 2] (sSet 3 (eCall 2 f__law_stream (aCons (eN 2) (aCons (eN 1) aNil)))))
  (sSeq (sSet 4 (e1 (joinD "") (eComp (iK (iR1 (aCons (eCallR 2 0 f__law_take (aCons (eN 3) (aCons (eC (.int 9)) aNil))) aNil))) (gN 5) tYes' (e2 ixD (eC (.str "az -09")) (eCallR 2 0 f__law_take (aCons (eN 3) (aCons (eC (.int 6)) aNil)))) [5])))
  (sSeq (sKl [6] (sFor (iR1 (aCons (eC (.int 9)) aNil)) (gN 6) m_law_b0))
  (sSeq (sKl [4] (sIf (t1 (e2 neD (eCall 1 f__law_base (aCons (eN 4) aNil)) (e2 addD (e2 mulD (eLst (aCons (eC (.bool false)) aNil)) (eC (.int 9))) (eLst (aCons (eC (.bool true)) (aCons (eC (.bool true)) aNil)))))) (sRet (eC (.bool false))) sNil))
  (sKl [3] (sIf (t1 (e2 neD (eCall 1 f__law_long (aCons (e2 addD (eC (.int 3000)) (eCallR 2 0 f__law_take (aCons (eN 3) (aCons (e2 powD (eC (.int 10)) (eC (.int 18))) aNil)))) aNil)) (e2 addD (e2 addD (eLst (aCons (eC (.bool true)) aNil)) (e2 mulD (eLst (aCons (eC (.bool false)) aNil)) (eC (.int 8)))) (eLst (aCons (eC (.bool true)) (aCons (eC (.bool true)) aNil)))))) (sRet (eC (.bool false))) sNil)))))) ρ := id rfl
noncomputable def m_law : En → So :=
  (sSeq (sKl [0, 1, 2, 3, 4, 6] (sFor (iEn (aCons (e2 addD (eN 0) (eLst (aCons (eCl lenD (aCons (eN 0) aNil)) aNil))) aNil)) (gT (gCons' (gN 1) (gCons' (gN 2) gNil'))) m_law_b1))
  (sRet (eC (.bool true))))
theorem m_law_a {ρ : En} : m_law ρ = (sSeq (sKl [0, 1, 2, 3, 4, 6] (sFor (iEn (aCons (e2 addD (eN 0) (eLst (aCons (eCl lenD (aCons (eN 0) aNil)) aNil))) aNil)) (gT (gCons' (gN 1) (gCons' (gN 2) gNil'))) m_law_b1))
  (sRet (eC (.bool true)))) ρ := id rfl
noncomputable def f_law : List Slot → So := fnM 7 m_law
theorem f_law_a {as : List Slot} : f_law as = fnM 7 m_law as := id rfl

theorem sc_row_of : FnScope ["runs", "count", "sign", "found"] ["runs"] (defScope (topS 13)) := ⟨rfl, rfl, rfl, by decide +kernel, rfl, by decide +kernel, by decide +kernel⟩
theorem ok_row_of {P : Program} {w : World} {K : PySem.W.Frag} {mg : Str → Option Value} {base : Heap} {C_TooLong : Addr} {f : Addr} {fd : FuncData} (F : Fun K "row_of" "row_of" (topS 13) f fd) (b_sum : mg "sum" = none) (b_tuple : mg "tuple" = none) (q_MOST_SIGNS : ∃ t, mg "MOST_SIGNS" = some (.int 3000 t)) (x_TooLong : ExcF K mg "TooLong" C_TooLong) : FnOk P w K mg base (L2.CX P w) 1 f fd ["runs"] (spF K mg 1 f_row_of) := by
  have h := fn_rule (P := P) (w := w) (mg := mg) (base := base) (k := 0) (mb := m_row_of) F sc_row_of (fun cdv A outer s H E hr => by exact
  (rs_cons (rs_if (rt_cmp d_gt (re_callB (d_sum rfl) (by rfl) b_sum (by decide +kernel) (ra_cons (re_lc [("count", 1), ("sign", 2)] rfl sc_row_of.nd (ri_n 0) (blkOk_by (N := ["runs", "count", "sign", "found"]) (sc := defScope (topS 13)) (by decide +kernel)) (fun _ _ _ _ _ => (rg_tup (by rfl) (rg_cons (rg_name 1 sc_row_of.nd) (rg_cons (rg_name 2 sc_row_of.nd) rg_nil)) (gl_cons (gl_cons gl_nil)))) (fun _ _ _ _ _ => rc_yes) (fun _ _ _ _ _ => (re_name 1))) ra_nil)) (re_const (pe_glob (v := .int 3000) (by rfl) q_MOST_SIGNS.choose_spec ⟨_, rfl⟩) fun _ => .int 3000) (nomark _)) (rs_one (rs_raise (by rfl) (takes_of rfl rfl rfl rfl) (pmk_own PySem.F.excBase_ValueError x_TooLong.xP x_TooLong.gP x_TooLong.kP (raises_own x_TooLong.bP x_TooLong.tP) (by rfl)) x_TooLong.gP)) rs_nil)
  (rs_cons (rs_set 3 sc_row_of.nd (re_lst ra_nil))
  (rs_cons (rs_kill [0, 1, 2] (rs_for (passes_of rfl) (by rfl) (ri_seq (re_name 0)) (rg_tup (by rfl) (rg_cons (rg_name 1 sc_row_of.nd) (rg_cons (rg_name 2 sc_row_of.nd) rg_nil)) (gl_cons (gl_cons gl_nil))) (rs_one (rs_kill [1, 2] (rs_extend 3 (re_op d_mul (re_lst (ra_cons (re_name 2) ra_nil)) (re_name 1)))))))
  (rs_one (rs_ret (re_callTy d_tuple (by rfl) b_tuple (by decide +kernel) (ra_cons (re_name 3) ra_nil))))))))
  exact h

theorem sc__law_mixed : FnScope ["cell", "k", "one"] ["cell", "k"] (defScope (topS 15)) := ⟨rfl, rfl, rfl, by decide +kernel, rfl, by decide +kernel, by decide +kernel⟩
theorem ok__law_mixed {P : Program} {w : World} {K : PySem.W.Frag} {mg : Str → Option Value} {base : Heap} {f : Addr} {fd : FuncData} (F : Fun K "_law_mixed" "_law_mixed" (topS 15) f fd)  : FnOk P w K mg base (L2.CX P w) 1 f fd ["cell", "k"] (spF K mg 2 f__law_mixed) := by
  have h := fn_rule (P := P) (w := w) (mg := mg) (base := base) (k := 0) (mb := m__law_mixed) F sc__law_mixed (fun cdv A outer s H E hr => by exact
  (rs_cons (rs_kill [0, 1] (rs_set 2 sc__law_mixed.nd (re_op d_mod (re_op d_mul (re_op d_add (re_op d_add (re_op d_mod (re_name 0) re_int) (re_op d_mul re_int (re_name 1))) re_int) re_int) re_int)))
  (rs_one (rs_ret (re_op d_mod (re_op d_mul (re_op d_mod (re_op d_mul (re_name 2) (re_name 2)) re_int) re_int) re_int)))))
  exact h

theorem sc__law_stream : FnScope ["cell", "k", "found", "j"] ["cell", "k"] (defScope (topS 16)) := ⟨rfl, rfl, rfl, by decide +kernel, rfl, by decide +kernel, by decide +kernel⟩
theorem ok__law_stream {P : Program} {w : World} {K : PySem.W.Frag} {mg : Str → Option Value} {base : Heap} {a__law_mixed : Addr} {d__law_mixed : FuncData} {f : Addr} {fd : FuncData} (F : Fun K "_law_stream" "_law_stream" (topS 16) f fd) (c__law_mixed : Fn P w K mg base 1 "_law_mixed" ["cell", "k"] f__law_mixed a__law_mixed d__law_mixed) (b_range : mg "range" = none) : FnOk P w K mg base (L2.CX P w) 2 f fd ["cell", "k"] (spF K mg 2 f__law_stream) := by
  have h := fn_rule (P := P) (w := w) (mg := mg) (base := base) (k := 1) (mb := m__law_stream) F sc__law_stream (fun cdv A outer s H E hr => by exact
  (rs_cons (rs_set 0 sc__law_stream.nd (re_op d_mod (re_name 0) (re_op d_mul (re_op d_pow re_int re_int) (re_op d_pow re_int re_int))))
  (rs_cons (rs_if (rt_cmp d_ge (re_name 0) (re_op d_pow re_int re_int) (nomark _)) (rs_one (rs_ret (re_lst (ra_cons (re_name 0) ra_nil)))) rs_nil)
  (rs_cons (rs_set 2 sc__law_stream.nd re_int)
  (rs_cons (rs_kill [0, 1, 3] (rs_for (passes_of rfl) (by rfl) (ri_range1 (by rfl) b_range (ra_cons re_int ra_nil)) (rg_name 3 sc__law_stream.nd) (rs_one (rs_kill [3] (rs_set 2 sc__law_stream.nd (re_op d_add (re_op d_mul (re_name 2) re_int) (re_fn c__law_mixed hr (takes_of rfl rfl rfl rfl) (ra_cons (re_op d_add (re_name 0) (re_op d_mul re_int (re_name 1))) (ra_cons (re_name 3) ra_nil)))))))))
  (rs_one (rs_ret (re_lst (ra_cons (re_name 2) ra_nil)))))))))
  exact h

theorem sc__law_take : FnScope ["stream", "many", "digit"] ["stream", "many"] (defScope (topS 17)) := ⟨rfl, rfl, rfl, by decide +kernel, rfl, by decide +kernel, by decide +kernel⟩
theorem ok__law_take {P : Program} {w : World} {K : PySem.W.Frag} {mg : Str → Option Value} {base : Heap} {f : Addr} {fd : FuncData} (F : Fun K "_law_take" "_law_take" (topS 17) f fd)  : FnOk P w K mg base (L2.CX P w) 1 f fd ["stream", "many"] (spF K mg 2 f__law_take) := by
  have h := fn_rule (P := P) (w := w) (mg := mg) (base := base) (k := 0) (mb := m__law_take) F sc__law_take (fun cdv A outer s H E hr => by exact
  (rs_cons (rs_set 2 sc__law_take.nd (re_op d_mod (re_ix d_ix (re_name 0) re_int (fun _ _ => rfl)) (re_name 1)))
  (rs_cons (rs_kill [1] (rs_sub 0 (re_op d_fdiv (re_ix d_ix (re_name 0) re_int (fun _ _ => rfl)) (re_name 1)) re_int))
  (rs_one (rs_ret (re_name 2))))))
  exact h

theorem sc__law_kinds : FnScope ["caught", "some"] ["caught"] (defScope (topS 18)) := ⟨rfl, rfl, rfl, by decide +kernel, rfl, by decide +kernel, by decide +kernel⟩
theorem ok__law_kinds {P : Program} {w : World} {K : PySem.W.Frag} {mg : Str → Option Value} {base : Heap} {f : Addr} {fd : FuncData} (F : Fun K "_law_kinds" "_law_kinds" (topS 18) f fd) (b_isinstance : mg "isinstance" = none) (b_ValueError : mg "ValueError" = none) (tab : ExcTab K mg ["TongueError", "TooLong", "TooMany", "NoElder", "NoPlace", "NoSign", "NoText", "NoLine", "NoPast", "Empty"]) (tv : ExcV K ["TongueError", "TooLong", "TooMany", "NoElder", "NoPlace", "NoSign", "NoText", "NoLine", "NoPast", "Empty"]) : FnN P w K mg base (L2.CX P w) 1 f fd ["caught"] (spF K mg 1 f__law_kinds) := by
  have h := fn_ruleN (P := P) (w := w) (mg := mg) (base := base) (k := 0) (mb := m__law_kinds) F sc__law_kinds (fun cdv A outer s H E hr => by exact
  (rs_cons (rs_set 1 sc__law_kinds.nd (re_lst (ra_cons (re_isx "TooLong" 0 tab (by decide) b_isinstance) (ra_cons (re_isx "TooMany" 0 tab (by decide) b_isinstance) (ra_cons (re_isx "NoElder" 0 tab (by decide) b_isinstance) ra_nil)))))
  (rs_cons (rs_set 1 sc__law_kinds.nd (re_op d_add (re_name 1) (re_lst (ra_cons (re_isx "NoPlace" 0 tab (by decide) b_isinstance) (ra_cons (re_isx "NoSign" 0 tab (by decide) b_isinstance) (ra_cons (re_isx "NoText" 0 tab (by decide) b_isinstance) ra_nil))))))
  (rs_cons (rs_set 1 sc__law_kinds.nd (re_op d_add (re_name 1) (re_lst (ra_cons (re_isx "NoLine" 0 tab (by decide) b_isinstance) (ra_cons (re_isx "NoPast" 0 tab (by decide) b_isinstance) (ra_cons (re_isx "Empty" 0 tab (by decide) b_isinstance) ra_nil))))))
  (rs_one (rs_ret (re_op d_add (re_name 1) (re_lst (ra_cons (re_isx "TongueError" 0 tab (by decide) b_isinstance) (ra_cons (re_isxV 0 tab tv b_isinstance b_ValueError) ra_nil))))))))))
  exact h

theorem sc__law_raised : FnScope ["kind", "text", "kinds", "e"] ["kind", "text"] (defScope (topS 19)) := ⟨rfl, rfl, rfl, by decide +kernel, rfl, by decide +kernel, by decide +kernel⟩
theorem ok__law_raised {P : Program} {w : World} {K : PySem.W.Frag} {mg : Str → Option Value} {base : Heap} {a__law_kinds : Addr} {d__law_kinds : FuncData} {C_TooLong : Addr} {C_TooMany : Addr} {C_NoElder : Addr} {C_NoPlace : Addr} {C_NoSign : Addr} {C_NoText : Addr} {C_NoLine : Addr} {C_NoPast : Addr} {C_Empty : Addr} {f : Addr} {fd : FuncData} (F : Fun K "_law_raised" "_law_raised" (topS 19) f fd) (c__law_kinds : FnE P w K mg base 1 "_law_kinds" ["caught"] f__law_kinds a__law_kinds d__law_kinds) (x_TooLong : ExcF K mg "TooLong" C_TooLong) (x_TooMany : ExcF K mg "TooMany" C_TooMany) (x_NoElder : ExcF K mg "NoElder" C_NoElder) (x_NoPlace : ExcF K mg "NoPlace" C_NoPlace) (x_NoSign : ExcF K mg "NoSign" C_NoSign) (x_NoText : ExcF K mg "NoText" C_NoText) (x_NoLine : ExcF K mg "NoLine" C_NoLine) (x_NoPast : ExcF K mg "NoPast" C_NoPast) (x_Empty : ExcF K mg "Empty" C_Empty) (tab : ExcTab K mg ["TongueError", "TooLong", "TooMany", "NoElder", "NoPlace", "NoSign", "NoText", "NoLine", "NoPast", "Empty"]) : FnOk P w K mg base (L2.CX P w) 2 f fd ["kind", "text"] (spF K mg 2 f__law_raised) := by
  have h := fn_rule (P := P) (w := w) (mg := mg) (base := base) (k := 1) (mb := m__law_raised) F sc__law_raised (fun cdv A outer s H E hr => by exact
  (rs_cons (rs_kill [2] (rs_set 2 sc__law_raised.nd (re_lst ra_nil)))
  (rs_cons (rs_kill [0, 1, 3] (rs_tryS 3 tab (by decide) sc__law_raised.nd (takes_of rfl rfl rfl rfl) (fun W1 pn1 xe1 tk1 po1 => (rs_cons (rs_if (rt_cmp (d_eq hr.units) (re_name 0) re_int (nomark _)) (rs_one (rs_raiseT (by rfl) tk1 PySem.F.excBase_ValueError x_TooLong.xP x_TooLong.gP x_TooLong.kP (raises_own x_TooLong.bP x_TooLong.tP) (by rfl) (re_name 1))) rs_nil)
  (rs_cons (rs_if (rt_cmp (d_eq hr.units) (re_name 0) re_int (nomark _)) (rs_one (rs_raiseT (by rfl) tk1 PySem.F.excBase_ValueError x_TooMany.xP x_TooMany.gP x_TooMany.kP (raises_own x_TooMany.bP x_TooMany.tP) (by rfl) (re_name 1))) rs_nil)
  (rs_cons (rs_if (rt_cmp (d_eq hr.units) (re_name 0) re_int (nomark _)) (rs_one (rs_raiseT (by rfl) tk1 PySem.F.excBase_ValueError x_NoElder.xP x_NoElder.gP x_NoElder.kP (raises_own x_NoElder.bP x_NoElder.tP) (by rfl) (re_name 1))) rs_nil)
  (rs_cons (rs_if (rt_cmp (d_eq hr.units) (re_name 0) re_int (nomark _)) (rs_one (rs_raiseT (by rfl) tk1 PySem.F.excBase_ValueError x_NoPlace.xP x_NoPlace.gP x_NoPlace.kP (raises_own x_NoPlace.bP x_NoPlace.tP) (by rfl) (re_name 1))) rs_nil)
  (rs_cons (rs_if (rt_cmp (d_eq hr.units) (re_name 0) re_int (nomark _)) (rs_one (rs_raiseT (by rfl) tk1 PySem.F.excBase_ValueError x_NoSign.xP x_NoSign.gP x_NoSign.kP (raises_own x_NoSign.bP x_NoSign.tP) (by rfl) (re_name 1))) rs_nil)
  (rs_cons (rs_if (rt_cmp (d_eq hr.units) (re_name 0) re_int (nomark _)) (rs_one (rs_raiseT (by rfl) tk1 PySem.F.excBase_ValueError x_NoText.xP x_NoText.gP x_NoText.kP (raises_own x_NoText.bP x_NoText.tP) (by rfl) (re_name 1))) rs_nil)
  (rs_cons (rs_if (rt_cmp (d_eq hr.units) (re_name 0) re_int (nomark _)) (rs_one (rs_raiseT (by rfl) tk1 PySem.F.excBase_ValueError x_NoLine.xP x_NoLine.gP x_NoLine.kP (raises_own x_NoLine.bP x_NoLine.tP) (by rfl) (re_name 1))) rs_nil)
  (rs_cons (rs_kill [0] (rs_if (rt_cmp (d_eq hr.units) (re_name 0) re_int (nomark _)) (rs_one (rs_raiseT (by rfl) tk1 PySem.F.excBase_ValueError x_NoPast.xP x_NoPast.gP x_NoPast.kP (raises_own x_NoPast.bP x_NoPast.tP) (by rfl) (re_name 1))) rs_nil))
  (rs_one (rs_raiseT (by rfl) tk1 PySem.F.excBase_ValueError x_Empty.xP x_Empty.gP x_Empty.kP (raises_own x_Empty.bP x_Empty.tP) (by rfl) (re_name 1)))))))))))) (fun ax px => (rs_one (rs_kill [3] (rs_set 2 sc__law_raised.nd (re_fnE 3 c__law_kinds (roomN_of hr) takesStop)))))))
  (rs_one (rs_ret (re_name 2))))))
  exact h

theorem sc__law_base : FnScope ["text", "kinds", "e"] ["text"] (defScope (topS 20)) := ⟨rfl, rfl, rfl, by decide +kernel, rfl, by decide +kernel, by decide +kernel⟩
theorem ok__law_base {P : Program} {w : World} {K : PySem.W.Frag} {mg : Str → Option Value} {base : Heap} {a__law_kinds : Addr} {d__law_kinds : FuncData} {C_TongueError : Addr} {f : Addr} {fd : FuncData} (F : Fun K "_law_base" "_law_base" (topS 20) f fd) (c__law_kinds : FnE P w K mg base 1 "_law_kinds" ["caught"] f__law_kinds a__law_kinds d__law_kinds) (x_TongueError : ExcF K mg "TongueError" C_TongueError) (tab : ExcTab K mg ["TongueError", "TooLong", "TooMany", "NoElder", "NoPlace", "NoSign", "NoText", "NoLine", "NoPast", "Empty"]) : FnOk P w K mg base (L2.CX P w) 2 f fd ["text"] (spF K mg 1 f__law_base) := by
  have h := fn_rule (P := P) (w := w) (mg := mg) (base := base) (k := 1) (mb := m__law_base) F sc__law_base (fun cdv A outer s H E hr => by exact
  (rs_cons (rs_kill [1] (rs_set 1 sc__law_base.nd (re_lst ra_nil)))
  (rs_cons (rs_kill [0, 2] (rs_tryS 2 tab (by decide) sc__law_base.nd (takes_of rfl rfl rfl rfl) (fun W1 pn1 xe1 tk1 po1 => (rs_one (rs_raiseT (by rfl) tk1 PySem.F.excBase_ValueError x_TongueError.xP x_TongueError.gP x_TongueError.kP (raises_own x_TongueError.bP x_TongueError.tP) (by rfl) (re_name 0)))) (fun ax px => (rs_one (rs_kill [2] (rs_set 1 sc__law_base.nd (re_fnE 2 c__law_kinds (roomN_of hr) takesStop)))))))
  (rs_one (rs_ret (re_name 1))))))
  exact h

theorem sc__law_long : FnScope ["count", "kinds", "e"] ["count"] (defScope (topS 21)) := ⟨rfl, rfl, rfl, by decide +kernel, rfl, by decide +kernel, by decide +kernel⟩
theorem ok__law_long {P : Program} {w : World} {K : PySem.W.Frag} {mg : Str → Option Value} {base : Heap} {a_row_of : Addr} {d_row_of : FuncData} {a__law_kinds : Addr} {d__law_kinds : FuncData} {f : Addr} {fd : FuncData} (F : Fun K "_law_long" "_law_long" (topS 21) f fd) (c_row_of : Fn P w K mg base 1 "row_of" ["runs"] f_row_of a_row_of d_row_of) (c__law_kinds : FnE P w K mg base 1 "_law_kinds" ["caught"] f__law_kinds a__law_kinds d__law_kinds) (tab : ExcTab K mg ["TongueError", "TooLong", "TooMany", "NoElder", "NoPlace", "NoSign", "NoText", "NoLine", "NoPast", "Empty"]) : FnOk P w K mg base (L2.CX P w) 2 f fd ["count"] (spF K mg 1 f__law_long) := by
  have h := fn_rule (P := P) (w := w) (mg := mg) (base := base) (k := 1) (mb := m__law_long) F sc__law_long (fun cdv A outer s H E hr => by exact
  (rs_cons (rs_set 1 sc__law_long.nd (re_lst ra_nil))
  (rs_cons (rs_kill [0, 2] (rs_tryS 2 tab (by decide) sc__law_long.nd (takes_of rfl rfl rfl rfl) (fun W1 pn1 xe1 tk1 po1 => (rs_one (rs_kill [0] (rs_expr (re_fn c_row_of hr tk1 (ra_cons (re_lst (ra_cons (re_tup (ra_cons re_int (ra_cons re_int ra_nil))) (ra_cons (re_tup (ra_cons (re_name 0) (ra_cons re_int ra_nil))) ra_nil))) ra_nil)))))) (fun ax px => (rs_one (rs_kill [2] (rs_set 1 sc__law_long.nd (re_fnE 2 c__law_kinds (roomN_of hr) takesStop)))))))
  (rs_one (rs_ret (re_name 1))))))
  exact h

theorem sc_law : FnScope ["script", "k", "cell", "stream", "text", "j", "kind"] ["script"] (defScope (topS 22)) := ⟨rfl, rfl, rfl, by decide +kernel, rfl, by decide +kernel, by decide +kernel⟩
theorem ok_law {P : Program} {w : World} {K : PySem.W.Frag} {mg : Str → Option Value} {base : Heap} {a__law_stream : Addr} {d__law_stream : FuncData} {a__law_take : Addr} {d__law_take : FuncData} {a__law_raised : Addr} {d__law_raised : FuncData} {a__law_base : Addr} {d__law_base : FuncData} {a__law_long : Addr} {d__law_long : FuncData} {f : Addr} {fd : FuncData} (F : Fun K "law" "law" (topS 22) f fd) (c__law_stream : Fn P w K mg base 2 "_law_stream" ["cell", "k"] f__law_stream a__law_stream d__law_stream) (c__law_take : Fn P w K mg base 1 "_law_take" ["stream", "many"] f__law_take a__law_take d__law_take) (c__law_raised : Fn P w K mg base 2 "_law_raised" ["kind", "text"] f__law_raised a__law_raised d__law_raised) (c__law_base : Fn P w K mg base 2 "_law_base" ["text"] f__law_base a__law_base d__law_base) (c__law_long : Fn P w K mg base 2 "_law_long" ["count"] f__law_long a__law_long d__law_long) (b_len : mg "len" = none) (b_enumerate : mg "enumerate" = none) (b_range : mg "range" = none) : FnOk P w K mg base (L2.CX P w) 3 f fd ["script"] (spF K mg 1 f_law) := by
  have h := fn_rule (P := P) (w := w) (mg := mg) (base := base) (k := 2) (mb := m_law) F sc_law (fun cdv A outer s H E hr => by exact
  (rs_cons (rs_kill [0, 1, 2, 3, 4, 6] (rs_for (passes_of rfl) (by rfl) (ri_enum (by rfl) b_enumerate (ra_cons (re_op d_add (re_name 0) (re_lst (ra_cons (re_callB (d_len) (by rfl) b_len (by decide +kernel) (ra_cons (re_name 0) ra_nil)) ra_nil))) ra_nil)) (rg_tup (by rfl) (rg_cons (rg_name 1 sc_law.nd) (rg_cons (rg_name 2 sc_law.nd) rg_nil)) (gl_cons (gl_cons gl_nil))) (rs_cons (rs_kill [1, 2] (rs_set 3 sc_law.nd (re_fn c__law_stream hr (takes_of rfl rfl rfl rfl) (ra_cons (re_name 2) (ra_cons (re_name 1) ra_nil)))))
  (rs_cons (rs_set 4 sc_law.nd (re_join (re_lc [("j", 5)] rfl sc_law.nd (ri_k (ri_range1 (by rfl) b_range (ra_cons (re_fnR 0 c__law_take hr (takes_of rfl rfl rfl rfl) (ra_cons (re_name 3) (ra_cons re_int ra_nil))) ra_nil))) (blkOk_by (N := ["script", "k", "cell", "stream", "text", "j", "kind"]) (sc := defScope (topS 22)) (by decide +kernel)) (fun _ _ _ _ _ => (rg_name 5 sc_law.nd)) (fun _ _ _ _ _ => rc_yes) (fun _ _ _ _ _ => (re_ix d_ix re_str (re_fnR 0 c__law_take hr takes0 (ra_cons (re_name 3) (ra_cons re_int ra_nil))) (fun _ _ => rfl))))))
  (rs_cons (rs_kill [6] (rs_for (passes_of rfl) (by rfl) (ri_range1 (by rfl) b_range (ra_cons re_int ra_nil)) (rg_name 6 sc_law.nd) (rs_one (rs_kill [6] (rs_if (rt_cmp (d_ne hr.units) (re_fn c__law_raised hr (takes_of rfl rfl rfl rfl) (ra_cons (re_name 6) (ra_cons (re_name 4) ra_nil))) (re_op d_add (re_lc [("j", 5)] rfl sc_law.nd (ri_k (ri_range1 (by rfl) b_range (ra_cons re_int ra_nil))) (blkOk_by (N := ["script", "k", "cell", "stream", "text", "j", "kind"]) (sc := defScope (topS 22)) (by decide +kernel)) (fun _ _ _ _ _ => (rg_name 5 sc_law.nd)) (fun _ _ _ _ _ => rc_yes) (fun _ _ _ _ _ => (re_cmp (d_eq hr.units) (re_name 5) (re_name 6) (nomark _)))) (re_lst (ra_cons re_bool (ra_cons re_bool ra_nil)))) (nomark _)) (rs_one (rs_ret re_bool)) rs_nil)))))
  (rs_cons (rs_kill [4] (rs_if (rt_cmp (d_ne hr.units) (re_fn c__law_base hr (takes_of rfl rfl rfl rfl) (ra_cons (re_name 4) ra_nil)) (re_op d_add (re_op d_mul (re_lst (ra_cons re_bool ra_nil)) re_int) (re_lst (ra_cons re_bool (ra_cons re_bool ra_nil)))) (nomark _)) (rs_one (rs_ret re_bool)) rs_nil))
  (rs_one (rs_kill [3] (rs_if (rt_cmp (d_ne hr.units) (re_fn c__law_long hr (takes_of rfl rfl rfl rfl) (ra_cons (re_op d_add re_int (re_fnR 0 c__law_take hr (takes_of rfl rfl rfl rfl) (ra_cons (re_name 3) (ra_cons (re_op d_pow re_int re_int) ra_nil)))) ra_nil)) (re_op d_add (re_op d_add (re_lst (ra_cons re_bool ra_nil)) (re_op d_mul (re_lst (ra_cons re_bool ra_nil)) re_int)) (re_lst (ra_cons re_bool (ra_cons re_bool ra_nil)))) (nomark _)) (rs_one (rs_ret re_bool)) rs_nil)))))))))
  (rs_one (rs_ret re_bool))))
  exact h

end L_k06


set_option maxHeartbeats 1000000
namespace Lb
open PySem PySem.Spec PyProof.Rows L2 Mir
def mixI (c k : Int) : Int := ((c % 1000000007 + 7919 * k + 101) * 48271 % 2147483647) * ((c % 1000000007 + 7919 * k + 101) * 48271 % 2147483647) % 2147483629 * 69621 % 2147483647
theorem mixI_bd (c k : Int) : 0 ≤ mixI c k ∧ mixI c k < 2147483647 := by
  unfold mixI
  omega
theorem mixed_eq (c k : Int) (hk : 0 ≤ k) (hk' : k < 2 ^ 200) : f__law_mixed [.val (.int c), .val (.int k)] = .rt (.imm (.int (mixI c k))) [.unset, .unset] := by
  simp! [f__law_mixed_a, m__law_mixed_a, mixI]
theorem take_eq (s many : Int) (h : 0 < many) (hd : many < 2 ^ 250) : f__law_take [.arg [.int s], .val (.int many)] = .rt (.imm (.int (s % many))) [.arg [.int (s / many)], .unset] := by
  simp! [f__law_take_a, m__law_take_a, ixD_l]
theorem stream_eq (c k : Int) (hk : 0 ≤ k) (hk' : k < 1000) : ∃ s, f__law_stream [.val (.int c), .val (.int k)] = .rt (.fresh [.int s]) [.unset, .unset] := by
  have lp : ∀ c', ∃ x, forL (gN 3) m__law_stream_b0 (rng 0 14) [.val (.int c'), .val (.int k), .val (.int 0), .unset] = .nx [.val (.int c'), .val (.int k), .val (.int x), .unset] := by
    intro c'
    obtain ⟨ρ', e, x, rfl, _⟩ := for_inv (tf := gN 3) (b := m__law_stream_b0) (ds := rng 0 14) (ρ := [.val (.int c'), .val (.int k), .val (.int 0), .unset])
      (fun i ρ => ∃ x, ρ = [.val (.int c'), .val (.int k), .val (.int x), .unset] ∧ bits x (40 * i + 1)) ⟨0, rfl, by simp [bits]⟩ (by
        rintro i d ρ hd ⟨x, rfl, hx⟩
        obtain ⟨hi, rfl⟩ := rng_get hd
        have m3 := mulD_int (i := x) (j := 2147483647) (mulOk_bits hx (bits_of_lt (a := 31) (by decide) (by decide)) (by omega))
        have mx := mixed_eq (c' + 1009 * k) (0 + i) (by omega) (by omega)
        have hb := mixI_bd (c' + 1009 * k) (0 + i)
        refine ⟨_, _, rfl, .inl (by simp! [m__law_stream_b0_a, m3, mx]; rfl), _, rfl, ?_⟩
        have h1 := bits_mul hx (bits_of_lt (x := 2147483647) (a := 31) (by decide) (by decide))
        have h2 : bits (mixI (c' + 1009 * k) (0 + i)) (40 * i + 1 + 31) := bits_mono (a := 31) (bits_of_lt hb.1 (by omega)) (by omega)
        exact bits_mono (bits_add h1 h2) (by omega))
    exact ⟨x, e⟩
  by_cases hc : (10 : Int) ^ 18 ≤ c % (10 ^ 60 * 10 ^ 60)
  · refine ⟨c % (10 ^ 60 * 10 ^ 60), ?_⟩
    simp! [f__law_stream_a, m__law_stream_a, hc]
  · obtain ⟨x, e⟩ := lp (c % (10 ^ 60 * 10 ^ 60))
    refine ⟨x, ?_⟩
    simp! [f__law_stream_a, m__law_stream_a, hc, e]
end Lb


set_option maxHeartbeats 1000000
namespace Lb
open PySem PySem.Spec PyProof.Rows L2 Mir
/-- the saying of a row -/
def sayI (b : Nat) (way : Int) (p : Nat × Int) : List Int := if way = 0 then figs b p.1 ++ [p.2] else p.2 :: (figs b p.1).reverse
def said (b : Nat) (way : Int) (xs : List Int) : List Int := (runs xs).flatMap (sayI b way)
theorem flatMap_take {α β : Type} (f : α → List β) {l : List α} {i : Nat} {x : α} (h : l[i]? = some x) : (l.take (i + 1)).flatMap f = (l.take i).flatMap f ++ f x := by
  rw [take_succ_get h, List.flatMap_append]
  simp
def sureL (b : Nat) (xs : List Int) : List Int := (runs xs).dropLast.flatMap (sayI b 0)
end Lb


namespace Lb
open PySem PySem.Spec PyProof.Rows L2 Mir
noncomputable def m__law_runs_b0 : En → So :=
  (sKl [2] (sIf (tAnd' (t1 (e2 neD (eN 1) (eLst aNil))) (t1 (e2 eqD (e2 ixD (e2 ixD (eN 1) (e1 negD (eC (.int 1)))) (eC (.int 1))) (eN 2)))) (sKl [2] (sSub 1 (e1 negD (eC (.int 1))) (eTup (aCons (e2 addD (e2 ixD (e2 ixD (eN 1) (e1 negD (eC (.int 1)))) (eC (.int 0))) (eC (.int 1))) (aCons (eN 2) aNil))))) (sKl [2] (sApp 1 (eTup (aCons (eC (.int 1)) (aCons (eN 2) aNil)))))))
noncomputable def m__law_runs : En → So :=
  (sSeq (sSet 1 (eLst aNil))
  (sSeq (sKl [0, 2] (sFor (iL (eN 0)) (gN 2) m__law_runs_b0))
  (sRet (eN 1))))
noncomputable def f__law_runs : List Slot → So := fnM 3 m__law_runs
noncomputable def m__law_figures_s_b0 : En → So :=
  (sKl [3] (sIf (t1 (e2 gtD (eN 1) (eC (.int 0)))) (sSeq (sSet 2 (e2 addD (eTup (aCons (e2 modD (eN 1) (eN 0)) aNil)) (eN 2)))
  (sSet 1 (e2 fdivD (eN 1) (eN 0)))) sNil))
noncomputable def m__law_figures_s : En → So :=
  (sSeq (sSet 2 (eTup aNil))
  (sSeq (sKl [0, 1, 3] (sFor (iR1 (aCons (e2 mulD (eCl lenD (aCons (eCl strD (aCons (eN 1) aNil)) aNil)) (eC (.int 4))) aNil)) (gN 3) m__law_figures_s_b0))
  (sRet (eN 2))))
noncomputable def f__law_figures_s : List Slot → So := fnM 4 m__law_figures_s
noncomputable def m__law_front_b0 : En → So :=
  (sKl [1] (sIf (tAnd' (t1 (e2 eqD (e2 ixD (eN 0) (e2 subD (eN 1) (eC (.int 1)))) (eC (.int 0)))) (t1 (e2 gtD (e2 ixD (eN 0) (eN 1)) (eC (.int 0))))) (sRet (eSl slD (eN 0) pNo (pSome (eN 1)))) sNil))
noncomputable def m__law_front : En → So :=
  (sSeq (sKl [1] (sFor (iR2 (aCons (eC (.int 1)) (aCons (eCl lenD (aCons (eN 0) aNil)) aNil))) (gN 1) m__law_front_b0))
  (sRet (eN 0)))
noncomputable def f__law_front : List Slot → So := fnM 2 m__law_front
noncomputable def m__law_sure_b0 : En → So :=
  (sKl [3, 4] (sSet 2 (e2 addD (e2 addD (eN 2) (eCall 2 f__law_figures_s (aCons (eN 0) (aCons (eN 3) aNil)))) (eTup (aCons (eN 4) aNil)))))
noncomputable def m__law_sure : En → So :=
  (sSeq (sSet 2 (eTup aNil))
  (sSeq (sKl [0, 1, 3, 4] (sFor (iL (eSl slD (eCall 1 f__law_runs (aCons (eN 1) aNil)) pNo (pSome (e1 negD (eC (.int 1)))))) (gT (gCons' (gN 3) (gCons' (gN 4) gNil'))) m__law_sure_b0))
  (sRet (eN 2))))
noncomputable def f__law_sure : List Slot → So := fnM 5 m__law_sure
end Lb


set_option maxHeartbeats 1000000
namespace Lb
open PySem PySem.Spec PyProof.Rows L2 Mir
def isCut (xs : List Int) (k : Nat) : Bool := decide (xs[k]? = some 0) && !decide (xs[k + 1]? = some 0)
/-- up to the first nought behind which another sign stands -/
def frontL (xs : List Int) : List Int := match (List.range (xs.length - 1)).find? (isCut xs) with
  | some k => xs.take (k + 1)
  | none => xs
end Lb


namespace Lb
open PySem PySem.Spec PyProof.Rows L2 Mir
noncomputable def m_said_often_b0 : En → So :=
  (sKl [3] (sSeq (sSet 1 (eCall 2 f_said (aCons (eN 0) (aCons (eN 1) aNil))))
  (sIf (t1 (e2 gtD (eCl lenD (aCons (eN 1) aNil)) (eC (.int 3000)))) (sExc "TooLong") sNil)))
noncomputable def m_said_often : En → So :=
  (sSeq (sKl [0, 2, 3] (sFor (iR1 (aCons (eN 2) aNil)) (gN 3) m_said_often_b0))
  (sRet (eN 1)))
noncomputable def f_said_often : List Slot → So := fnM 4 m_said_often
end Lb


set_option maxHeartbeats 1000000
namespace Lb
open PySem PySem.Spec PyProof.Rows L2 Mir
/-! fronts -/
def frontR : List Int → List Int
  | [] => []
  | [x] => [x]
  | x :: y :: r => if x = 0 ∧ y ≠ 0 then [x] else x :: frontR (y :: r)
/-- where a row is parted behind its front -/
def Parts (A B : List Int) : Prop := B = [] ∨ (A.getLast? = some 0 ∧ ∃ y r, B = y :: r ∧ y ≠ 0)
/-! turns -/
def sayT (b : Nat) (way : Int) : Nat → List Int → List Int
  | 0, xs => xs
  | t + 1, xs => said b way (sayT b way t xs)
def stepO (b : Nat) (way : Int) (xs : List Int) (_ : Nat) (ρ : En) : Except So (List Int) := if 3000 < (said b way xs).length then .error (.exc "TooLong" ρ) else .ok (said b way xs)
/-- the row of a turn; none where one is too long -/
def sayO (b : Nat) (way : Int) : Nat → List Int → Option (List Int)
  | 0, xs => some xs
  | t + 1, xs => if 3000 < (said b way xs).length then none else sayO b way t (said b way xs)
end Lb


namespace Lb
open PySem PySem.Spec PyProof.Rows L2 Mir
noncomputable def m_turned_about : En → So :=
  (sRet (e1 revD (eN 0)))
noncomputable def f_turned_about : List Slot → So := fnM 1 m_turned_about
noncomputable def m__law_figures_b0 : En → So :=
  (sSet 2 (e2 mulD (eN 2) (eN 0)))
noncomputable def m__law_figures_c1 : Mo Bool :=
  (t1 (e2 leD (e2 mulD (eN 2) (eN 0)) (eN 1)))
noncomputable def m__law_figures_b2 : En → So :=
  (sSeq (sSet 3 (e2 addD (eN 3) (eTup (aCons (e2 fdivD (eN 1) (eN 2)) aNil))))
  (sSeq (sSet 1 (e2 modD (eN 1) (eN 2)))
  (sSet 2 (e2 fdivD (eN 2) (eN 0)))))
noncomputable def m__law_figures_c3 : Mo Bool :=
  (t1 (e2 gtD (eN 2) (eC (.int 0))))
noncomputable def m__law_figures : En → So :=
  (sSeq (sSet 2 (eC (.int 1)))
  (sSeq (sWhile m__law_figures_c1 m__law_figures_b0)
  (sSeq (sSet 3 (eTup aNil))
  (sSeq (sKl [0, 1, 2] (sWhile m__law_figures_c3 m__law_figures_b2))
  (sRet (eN 3))))))
noncomputable def f__law_figures : List Slot → So := fnM 4 m__law_figures
noncomputable def m__law_spoken_b0 : En → So :=
  (sSeq (sKl [5, 6] (sSet 7 (e2 addD (eCall 2 f__law_figures (aCons (eN 2) (aCons (eN 5) aNil))) (eTup (aCons (eN 6) aNil)))))
  (sKl [7] (sExt 4 (eCl listD (aCons (e2 ixD (eLst (aCons (eN 7) (aCons (e1 revD (eN 7)) aNil))) (eN 3)) aNil)))))
noncomputable def m__law_spoken : En → So :=
  (sSeq (sKl [0] (sAsg (gT (gCons' (gN 2) (gCons' (gN 3) gNil'))) (eN 0)))
  (sSeq (sSet 4 (eLst aNil))
  (sSeq (sKl [1, 2, 3, 5, 6, 7] (sFor (iL (eN 1)) (gT (gCons' (gN 5) (gCons' (gN 6) gNil'))) m__law_spoken_b0))
  (sRet (eCl tupleD (aCons (eN 4) aNil))))))
noncomputable def f__law_spoken : List Slot → So := fnM 8 m__law_spoken
noncomputable def m__law_row_b0 : En → So :=
  (sSet 8 (e2 addD (eN 8) (e2 mulD (eTup (aCons (eCallR 2 0 f__law_take (aCons (eN 0) (aCons (eN 1) aNil))) aNil)) (e2 addD (eC (.int 1)) (eCallR 2 0 f__law_take (aCons (eN 0) (aCons (eC (.int 4)) aNil)))))))
noncomputable def m__law_row_c1 : Mo Bool :=
  (t1 (e2 ltD (eCl lenD (aCons (eN 8) aNil)) (eN 4)))
noncomputable def m__law_row : En → So :=
  (sSeq (sSet 3 (eCallR 2 0 f__law_take (aCons (eN 0) (aCons (eC (.int 4)) aNil))))
  (sSeq (sKl [2] (sSet 4 (eCallR 2 0 f__law_take (aCons (eN 0) (aCons (e2 addD (eN 2) (eC (.int 1))) aNil)))))
  (sSeq (sAsg (gT (gCons' (gN 5) (gCons' (gN 6) gNil'))) (eTup (aCons (eCallR 2 0 f__law_take (aCons (eN 0) (aCons (eN 1) aNil))) (aCons (eCallR 2 0 f__law_take (aCons (eN 0) (aCons (eN 1) aNil))) aNil))))
  (sSeq (sIf (t1 (e2 eqD (eN 3) (eC (.int 0)))) (sRet (eCl tupleD (aCons (eComp (iK (iR1 (aCons (eN 4) aNil))) (gN 7) tYes' (eCallR 2 0 f__law_take (aCons (eN 0) (aCons (eN 1) aNil))) [7]) aNil))) sNil)
  (sSeq (sKl [6] (sIf (t1 (e2 eqD (eN 3) (eC (.int 1)))) (sRet (eCl tupleD (aCons (eComp (iK (iR1 (aCons (eN 4) aNil))) (gN 7) tYes' (e2 ixD (eLst (aCons (eN 5) (aCons (eN 6) aNil))) (eCallR 2 0 f__law_take (aCons (eN 0) (aCons (eC (.int 2)) aNil)))) [7]) aNil))) sNil))
  (sSeq (sKl [3, 5] (sIf (t1 (e2 eqD (eN 3) (eC (.int 2)))) (sRet (e2 mulD (eTup (aCons (eN 5) aNil)) (eN 4))) sNil))
  (sSeq (sSet 8 (eTup aNil))
  (sSeq (sKl [1] (sWhile m__law_row_c1 m__law_row_b0))
  (sRet (eSl slD (eN 8) pNo (pSome (eN 4))))))))))))
noncomputable def f__law_row : List Slot → So := fnM 9 m__law_row
noncomputable def m__law_great_b0 : En → So :=
  (sKl [5] (sSeq (sSet 6 (e2 addD (eC (.int 1)) (eCallR 2 0 f__law_take (aCons (eN 0) (aCons (eCl min2D (aCons (eN 3) (aCons (e2 ixD (eLst (aCons (eC (.int 3)) (aCons (eC (.int 14)) (aCons (eC (.int 400)) (aCons (eC (.int 3000)) aNil))))) (eCallR 2 0 f__law_take (aCons (eN 0) (aCons (eC (.int 4)) aNil)))) aNil))) aNil)))))
  (sSeq (sApp 2 (eTup (aCons (eN 6) (aCons (eN 4) aNil))))
  (sSeq (sSet 4 (e2 modD (e2 addD (e2 addD (eN 4) (eC (.int 1))) (eCallR 2 0 f__law_take (aCons (eN 0) (aCons (e2 subD (eN 1) (eC (.int 1))) aNil)))) (eN 1)))
  (sSeq (sKl [6] (sSet 3 (e2 subD (eN 3) (eN 6))))
  (sIf (t1 (e2 eqD (eN 3) (eC (.int 0)))) (sKl [1, 3, 4, 5, 6] sBrk) sNil))))))
noncomputable def m__law_great : En → So :=
  (sSeq (sSet 2 (eLst aNil))
  (sSeq (sSet 3 (e2 ixD (eLst (aCons (eC (.int 12)) (aCons (eC (.int 60)) (aCons (eC (.int 300)) (aCons (eC (.int 3000)) aNil))))) (eCallR 2 0 f__law_take (aCons (eN 0) (aCons (eC (.int 4)) aNil)))))
  (sSeq (sSet 4 (eCallR 2 0 f__law_take (aCons (eN 0) (aCons (eN 1) aNil))))
  (sSeq (sKl [1, 3, 4, 5, 6] (sFor (iR1 (aCons (eCallR 2 0 f__law_take (aCons (eN 0) (aCons (eC (.int 30)) aNil))) aNil)) (gN 5) m__law_great_b0))
  (sRet (eN 2))))))
noncomputable def f__law_great : List Slot → So := fnM 7 m__law_great
noncomputable def m__law_about : En → So :=
  (sRet (eCl tupleD (aCons (eComp (iK (iR1 (aCons (eCl lenD (aCons (eN 0) aNil)) aNil))) (gN 1) tYes' (e2 ixD (eN 0) (e2 subD (e2 subD (eCl lenD (aCons (eN 0) aNil)) (eC (.int 1))) (eN 1))) [1]) aNil)))
noncomputable def f__law_about : List Slot → So := fnM 2 m__law_about
end Lb


set_option maxHeartbeats 1000000
namespace Lb
open PySem PySem.Spec PyProof.Rows L2 Mir
/-! figures by powers -/
def digs (b : Nat) : Nat → Nat → List Int
  | 0, n => [(n : Int)]
  | k + 1, n => ((n / b ^ (k + 1) : Nat) : Int) :: digs b k (n % b ^ (k + 1))
/-! what a law says of runs -/
/-! rows of a stream -/
def Signs (b : Nat) (xs : List Int) : Prop := ∀ x ∈ xs, 0 ≤ x ∧ x < (b : Int)
theorem Signs.nil (b : Nat) : Signs b [] := fun x h => by cases h
theorem Signs.one {b : Nat} {x : Int} (h : 0 ≤ x ∧ x < (b : Int)) : Signs b [x] := fun y hy => by rw [List.mem_singleton.mp hy]; exact h
theorem Signs.rep {b : Nat} {x : Int} (h : 0 ≤ x ∧ x < (b : Int)) (n : Nat) : Signs b (List.replicate n x) := fun y hy => by rw [(List.mem_replicate.mp hy).2]; exact h
theorem Signs.take {b : Nat} {xs : List Int} (h : Signs b xs) (n : Nat) : Signs b (xs.take n) := fun y hy => h y (List.mem_of_mem_take hy)
theorem Signs.drop {b : Nat} {xs : List Int} (h : Signs b xs) (n : Nat) : Signs b (xs.drop n) := fun y hy => h y (List.mem_of_mem_drop hy)
end Lb


set_option maxHeartbeats 1000000
namespace Lb
open PySem PySem.Spec PyProof.Rows L2 Mir
/-! great runs -/
def flat (R : List (Nat × Int)) : List Int := R.flatMap fun p => List.replicate p.1 p.2
/-- runs of at most so many signs -/
structure Great (b : Nat) (most : Nat) (R : List (Nat × Int)) : Prop where
  rs : runs (flat R) = R
  len : (flat R).length ≤ most
  sg : ∀ p ∈ R, 1 ≤ p.1 ∧ 0 ≤ p.2 ∧ p.2 < (b : Int)
end Lb


set_option maxHeartbeats 1000000
namespace Lb
open PySem PySem.Spec PyProof.Rows L2 Mir
/-! rows of runs -/
abbrev ls (p : Nat × Int) : PyData := .list [.int p.1, .int p.2]
def cnt (R : List (Nat × Int)) : Nat := (R.map (·.1)).sum
theorem cnt_flat (R : List (Nat × Int)) : (flat R).length = cnt R := by
  induction R with
  | nil => rfl
  | cons p R ih => simp [flat, cnt] at ih ⊢ <;> omega
theorem flat_part (R : List (Nat × Int)) (i : Nat) : flat R = flat (R.take i) ++ flat (R.drop i) := by
  unfold flat
  rw [← List.flatMap_append, List.take_append_drop]
theorem sum_nat (R : List (Nat × Int)) : (R.map fun p => (p.1 : Int)).sum = (cnt R : Int) := by
  induction R with
  | nil => rfl
  | cons p R ih => simp [cnt] at ih ⊢; omega
theorem row_b {R : List (Nat × Int)} (hR : cnt R ≤ 3000) (D : Slot) (f : Nat × Int → PyData) (hf : ∀ p s1 s2 s3, gT (gCons' (gN 1) (gCons' (gN 2) gNil')) (f p) [D, s1, s2, s3] = some [D, .val (.int p.1), .val (.int p.2), s3]) : forL (gT (gCons' (gN 1) (gCons' (gN 2) gNil'))) m_row_of_b0 (R.map f) [D, .unset, .unset, .own []] = .nx [D, .unset, .unset, .own (dints (flat R))] := by
  have lp := forL_list (tf := gT (gCons' (gN 1) (gCons' (gN 2) gNil'))) (b := m_row_of_b0) f R (fun i => [D, .unset, .unset, .own (dints (flat (R.take i)))]) (by
    intro i p hp
    have e : flat (R.take (i + 1)) = flat (R.take i) ++ List.replicate p.1 p.2 := flatMap_take _ hp
    have hl : (flat (R.take (i + 1))).length ≤ 3000 := by
      have := flat_part R (i + 1)
      have := congrArg List.length this
      rw [cnt_flat, List.length_append] at this
      omega
    rw [e, List.length_append, List.length_replicate] at hl
    refine ⟨_, hf p _ _ _, .inl ?_⟩
    rw [e]
    simp! [m_row_of_b0_a])
  rw [List.take_length] at lp
  simpa [flat] using lp
theorem row_eq {R : List (Nat × Int)} (hl : R.length ≤ 5000) (d : PyData) (f : Nat × Int → PyData) (hf : (∀ p, f p = cs p) ∨ ∀ p, f p = ls p) (hd : items d = some (R.map f)) : f_row_of [.val d] = if 3000 < cnt R then .exc "TooLong" [.unset] else .rt (.imm (.tuple (dints (flat R)))) [.unset] := by
  have hg : ∀ (D : Slot) p s1 s2 s3, gT (gCons' (gN 1) (gCons' (gN 2) gNil')) (f p) [D, s1, s2, s3] = some [D, .val (.int p.1), .val (.int p.2), s3] := by
    intro D p s1 s2 s3
    rcases hf with hf | hf <;> rw [hf] <;> rfl
  have hin : ∀ ρ, inK 0 (some (.val d)) ρ = .ok (R.map f, none) ρ := fun ρ => by simp only [inK, hd]
  have cm := compL_mapA (src := none) (all := R.map f) (tf := gT (gCons' (gN 1) (gCons' (gN 2) gNil'))) (e := eN 1) (vs := [1, 2]) f (fun p => .int p.1) (ρ := [.val d, .unset, .unset, .unset]) trivial R [] (fun p hp => ⟨[.val d, .val (.int p.1), .val (.int p.2), .unset], [.val d, .val (.int p.1), .val (.int p.2), .unset], .slot 1, [.val d, .val (.int p.1), .val (.int p.2), .unset], hg _ p _ _ _, rfl, rfl, rfl⟩) (by simp; omega)
  rw [List.nil_append] at cm
  have hS : sumD [.list (R.map fun p => .int p.1)] = some (.imm (.int (cnt R))) := by
    have := sumD_i (R.map fun p => (p.1 : Int))
    rw [List.map_map, sum_nat] at this
    exact this
  by_cases h : 3000 < cnt R
  · have h' : (3000 : Int) < (cnt R : Int) := by omega
    rw [if_pos h]
    simp! [f_row_of_a, m_row_of_a, hin, cm, hS, h']
  · have h' : ¬ (3000 : Int) < (cnt R : Int) := by omega
    rw [if_neg h]
    have lp := row_b (R := R) (by omega) (.val d) f (hg _)
    simp! [f_row_of_a, m_row_of_a, hin, cm, hS, h', hd, lp]
end Lb


namespace Lb
open PySem PySem.Spec PyProof.Rows L2 Mir
noncomputable def m_ends_of : En → So :=
  (sSeq (sSet 3 (e2 lr2D (e2 addD (eN 2) (eC (.int 2))) (e2 addD (eCl lenD (aCons (eN 1) aNil)) (eC (.int 1)))))
  (sSeq (sKl [0] (sIf (t1 (e2 eqD (e2 ixD (eN 0) (eC (.int 1))) (eC (.int 0)))) (sSeq (sIf (t1 (e2 eqD (e2 ixD (eN 1) (eN 2)) (eC (.int 0)))) (sRet (eLst aNil)) sNil)
  (sRet (eComp (iN 3) (gN 4) (tOr' (t1 (e2 eqD (eN 2) (eC (.int 0)))) (t1 (e2 neD (e2 ixD (eN 1) (e2 subD (eN 4) (eC (.int 1)))) (e2 ixD (eN 1) (e2 subD (eN 2) (eC (.int 1))))))) (eN 4) [4]))) sNil))
  (sRet (eComp (iN 3) (gN 4) (tAnd' (t1 (e2 neD (e2 ixD (eN 1) (e2 subD (eN 4) (eC (.int 1)))) (eC (.int 0)))) (tOr' (t1 (e2 eqD (eN 4) (eCl lenD (aCons (eN 1) aNil)))) (t1 (e2 neD (e2 ixD (eN 1) (eN 4)) (e2 ixD (eN 1) (eN 2)))))) (eN 4) [4]))))
noncomputable def f_ends_of : List Slot → So := fnM 5 m_ends_of
noncomputable def m__law_tongue_m : En → So :=
  (sSeq (sSet 1 (e2 ixD (eLst (aCons (eC (.int 2)) (aCons (eC (.int 3)) (aCons (e2 addD (eC (.int 2)) (eCallR 2 0 f__law_take (aCons (eN 0) (aCons (eC (.int 9)) aNil)))) (aCons (e2 addD (eC (.int 2)) (eCallR 2 0 f__law_take (aCons (eN 0) (aCons (eC (.int 9)) aNil)))) aNil))))) (eCallR 2 0 f__law_take (aCons (eN 0) (aCons (eC (.int 4)) aNil)))))
  (sRet (eTup (aCons (eN 1) (aCons (eCallR 2 0 f__law_take (aCons (eN 0) (aCons (eC (.int 2)) aNil))) aNil)))))
noncomputable def f__law_tongue_m : List Slot → So := fnM 2 m__law_tongue_m
noncomputable def m__law_heard_b0 : En → So :=
  (sKl [7] (sSeq (sSet 8 (e2 addD (eC (.int 1)) (eCallR 2 0 f__law_take (aCons (eN 0) (aCons (e2 ixD (eLst (aCons (eC (.int 1)) (aCons (eC (.int 2)) (aCons (eC (.int 9)) (aCons (eC (.int 60)) (aCons (e2 powD (eC (.int 10)) (eC (.int 6))) aNil)))))) (eCallR 2 0 f__law_take (aCons (eN 0) (aCons (eC (.int 5)) aNil)))) aNil)))))
  (sKl [8] (sIf (t1 (e2 leD (eCl lenD (aCons (eCall 2 f__law_spoken (aCons (eN 1) (aCons (e2 addD (eN 5) (eLst (aCons (eTup (aCons (eN 8) (aCons (eN 6) aNil))) aNil))) aNil))) aNil)) (eN 2))) (sSeq (sKl [8] (sApp 5 (eTup (aCons (eN 8) (aCons (eN 6) aNil)))))
  (sSet 6 (e2 modD (e2 addD (e2 addD (eN 6) (eC (.int 1))) (eCallR 2 0 f__law_take (aCons (eN 0) (aCons (e2 subD (eN 3) (eC (.int 1))) aNil)))) (eN 3)))) sNil))))
noncomputable def m__law_heard : En → So :=
  (sSeq (sKl [4] (sAsg (gT (gCons' (gN 3) (gCons' (gN 4) gNil'))) (eN 1)))
  (sSeq (sIf (t1 (e2 eqD (eCallR 2 0 f__law_take (aCons (eN 0) (aCons (eC (.int 3)) aNil))) (eC (.int 0)))) (sRet (eCallR 3 0 f__law_row (aCons (eN 0) (aCons (eN 3) (aCons (eN 2) aNil))))) sNil)
  (sSeq (sSet 5 (eLst aNil))
  (sSeq (sSet 6 (eCallR 2 0 f__law_take (aCons (eN 0) (aCons (eN 3) aNil))))
  (sSeq (sKl [2, 3, 6, 7, 8] (sFor (iR1 (aCons (eCallR 2 0 f__law_take (aCons (eN 0) (aCons (eC (.int 14)) aNil))) aNil)) (gN 7) m__law_heard_b0))
  (sRet (eCall 2 f__law_spoken (aCons (eN 1) (aCons (eN 5) aNil)))))))))
noncomputable def f__law_heard : List Slot → So := fnM 9 m__law_heard
noncomputable def m__law_turned : En → So :=
  (sSeq (sKl [0] (sIf (t1 (e2 eqD (e2 ixD (eN 0) (eC (.int 1))) (eC (.int 1)))) (sRet (e1 revD (eN 1))) sNil))
  (sRet (eN 1)))
noncomputable def f__law_turned : List Slot → So := fnM 2 m__law_turned
noncomputable def m_counts_of_b0 : En → So :=
  (sKl [3] (sSub 2 (eN 3) (eCl sumD (aCons (eComp (iK (iL (eCall 3 f_ends_of (aCons (eN 0) (aCons (eN 1) (aCons (eN 3) aNil)))))) (gN 4) tYes' (e2 ixD (eN 2) (eN 4)) [4]) aNil))))
noncomputable def m_counts_of : En → So :=
  (sSeq (sSet 2 (e2 addD (e2 mulD (eLst (aCons (eC (.int 0)) aNil)) (eCl lenD (aCons (eN 1) aNil))) (eLst (aCons (eC (.int 1)) aNil))))
  (sSeq (sKl [0, 1, 3] (sFor (iR3 (aCons (e2 subD (eCl lenD (aCons (eN 1) aNil)) (eC (.int 1))) (aCons (e1 negD (eC (.int 1))) (aCons (e1 negD (eC (.int 1))) aNil)))) (gN 3) m_counts_of_b0))
  (sRet (eN 2))))
noncomputable def f_counts_of : List Slot → So := fnM 5 m_counts_of
noncomputable def m_elders_many : En → So :=
  (sRet (e2 ixD (eCall 2 f_counts_of (aCons (eN 0) (aCons (eN 1) aNil))) (eC (.int 0))))
noncomputable def f_elders_many : List Slot → So := fnM 2 m_elders_many
end Lb


set_option maxHeartbeats 1000000
namespace Lb
open PySem PySem.Spec PyProof.Rows L2 Mir
/-! tongues, rows that are heard -/
def Heard (b : Nat) (R : List (Nat × Int)) : Prop := ∀ p ∈ R, (1 ≤ p.1 ∧ p.1 < 2 ^ 20) ∧ 0 ≤ p.2 ∧ p.2 < (b : Int)
theorem Heard.signs {b : Nat} (hb : 2 ≤ b) (way : Int) {R : List (Nat × Int)} (h : Heard b R) : Signs b (R.flatMap (sayI b way)) := by
  intro x hx
  obtain ⟨p, hp, hx⟩ := List.mem_flatMap.mp hx
  have h1 := (h p hp).2
  unfold sayI at hx
  split at hx
  · rcases List.mem_append.mp hx with hx | hx
    · exact figs_lt hb x hx
    · rw [List.mem_singleton.mp hx]; exact h1
  · rcases List.mem_cons.mp hx with hx | hx
    · rw [hx]; exact h1
    · exact figs_lt hb x (List.mem_reverse.mp hx)
def turnW (way : Int) (xs : List Int) : List Int := if way = 1 then xs.reverse else xs
/-! the ends of words -/
def word0 (xs : List Int) (b e : Nat) : Bool := !decide (xs.getD b 0 = 0) && (decide (b = 0) || !decide (xs.getD (e - 1) 0 = xs.getD (b - 1) 0))
def word1 (xs : List Int) (b e : Nat) : Bool := !decide (xs.getD (e - 1) 0 = 0) && (decide (e = xs.length) || !decide (xs.getD e 0 = xs.getD b 0))
def wordW (way : Int) (xs : List Int) (b e : Nat) : Bool := if way = 0 then word0 xs b e else word1 xs b e
def placesN (n b : Nat) : List Nat := (List.range (n - 1 - b)).map fun k => b + 2 + k
def endsL (way : Int) (xs : List Int) (b : Nat) : List Nat := (placesN xs.length b).filter (wordW way xs b)
theorem places_mem {n b e : Nat} (h : e ∈ placesN n b) : b + 2 ≤ e ∧ e ≤ n := by
  obtain ⟨k, hk, rfl⟩ := List.mem_map.mp h
  have := List.mem_range.mp hk
  omega
end Lb


set_option maxHeartbeats 1000000
namespace Lb
open PySem PySem.Spec PyProof.Rows L2 Mir
/-! sums -/
def sg (m : Nat) (f : Nat → Nat) : Nat := ((List.range m).map f).sum
/-! ways from a place to the end -/
def edge (w : Nat → Nat → Bool) (n i e : Nat) : Nat := if i + 2 ≤ e ∧ e ≤ n ∧ w i e = true then 1 else 0
def rc (w : Nat → Nat → Bool) (n : Nat) (p : Nat) : Nat := if h : p < n then (((placesN n p).filter (w p)).attach.map fun e => rc w n e.1).sum else 1
termination_by n - p
decreasing_by
  have h1 := places_mem (List.mem_filter.mp e.2).1
  omega
/-- the graph turned about -/
def revW (w : Nat → Nat → Bool) (n : Nat) : Nat → Nat → Bool := fun p q => w (n - q) (n - p)
def lc (w : Nat → Nat → Bool) (n e : Nat) : Nat := rc (revW w n) n (n - e)
/-! lists over places -/
def tab (m : Nat) (g : Nat → Nat) : List Nat := (List.range m).map g
/-! counts_of -/
end Lb


namespace Lb
open PySem PySem.Spec PyProof.Rows L2 Mir
noncomputable def m_run_of : En → So :=
  (sSeq (sKl [0] (sAsg (gT (gCons' (gN 4) (gCons' (gN 5) gNil'))) (eN 0)))
  (sSeq (sKl [5] (sIf (t1 (e2 eqD (eN 5) (eC (.int 0)))) (sRet (eTup (aCons (eCall 2 f_number_of (aCons (eN 4) (aCons (eSl slD (eN 1) (pSome (eN 2)) (pSome (e2 subD (eN 3) (eC (.int 1))))) aNil))) (aCons (e2 ixD (eN 1) (e2 subD (eN 3) (eC (.int 1)))) aNil)))) sNil))
  (sRet (eTup (aCons (eCall 2 f_number_of (aCons (eN 4) (aCons (e1 revD (eSl slD (eN 1) (pSome (e2 addD (eN 2) (eC (.int 1)))) (pSome (eN 3)))) aNil))) (aCons (e2 ixD (eN 1) (eN 2)) aNil))))))
noncomputable def f_run_of : List Slot → So := fnM 6 m_run_of
noncomputable def m_elder_by_b0 : En → So :=
  (sSeq (sIf (t1 (e2 ltD (eN 2) (e2 ixD (eN 3) (eN 6)))) sBrk sNil)
  (sSet 2 (e2 subD (eN 2) (e2 ixD (eN 3) (eN 6)))))
noncomputable def m_elder_by_b1 : En → So :=
  (sSeq (sFor (iL (eCall 3 f_ends_of (aCons (eN 0) (aCons (eN 1) (aCons (eN 5) aNil))))) (gN 6) m_elder_by_b0)
  (sSeq (sKl [5] (sApp 4 (eCall 4 f_run_of (aCons (eN 0) (aCons (eN 1) (aCons (eN 5) (aCons (eN 6) aNil)))))))
  (sSet 5 (eN 6))))
noncomputable def m_elder_by_c2 : Mo Bool :=
  (t1 (e2 ltD (eN 5) (eCl lenD (aCons (eN 1) aNil))))
noncomputable def m_elder_by : En → So :=
  (sSeq (sSet 3 (eCall 2 f_counts_of (aCons (eN 0) (aCons (eN 1) aNil))))
  (sSeq (sIf (tNot' (t1 (eCh leD ltD (eC (.int 0)) (eN 2) (e2 ixD (eN 3) (eC (.int 0)))))) (sExc "NoElder") sNil)
  (sSeq (sSet 4 (eLst aNil))
  (sSeq (sSet 5 (eC (.int 0)))
  (sSeq (sKl [0, 1, 2, 3, 5, 6] (sWhile m_elder_by_c2 m_elder_by_b1))
  (sRet (eN 4)))))))
noncomputable def f_elder_by : List Slot → So := fnM 7 m_elder_by
noncomputable def m__law_many_b0 : En → So :=
  (sKl [3] (sIf (tOr' (t1 (e2 eqD (eN 2) (eC (.int 0)))) (t1 (e2 neD (e2 ixD (eN 0) (e2 subD (eN 3) (eC (.int 1)))) (e2 ixD (eN 0) (e2 subD (eN 2) (eC (.int 1))))))) (sKl [3] (sSub 1 (eN 3) (e2 addD (e2 ixD (eN 1) (eN 3)) (e2 ixD (eN 1) (eN 2))))) sNil))
noncomputable def m__law_many_b1 : En → So :=
  (sKl [2, 3] (sIf (t1 (e2 neD (e2 ixD (eN 0) (eN 2)) (eC (.int 0)))) (sKl [2, 3] (sFor (iR2 (aCons (e2 addD (eN 2) (eC (.int 2))) (aCons (e2 addD (eCl lenD (aCons (eN 0) aNil)) (eC (.int 1))) aNil))) (gN 3) m__law_many_b0)) sNil))
noncomputable def m__law_many : En → So :=
  (sSeq (sSet 1 (e2 addD (e2 mulD (eLst (aCons (eC (.int 0)) aNil)) (eCl lenD (aCons (eN 0) aNil))) (eLst (aCons (eC (.int 0)) aNil))))
  (sSeq (sSub 1 (eC (.int 0)) (eC (.int 1)))
  (sSeq (sKl [2, 3] (sFor (iR1 (aCons (eCl lenD (aCons (eN 0) aNil)) aNil)) (gN 2) m__law_many_b1))
  (sRet (e2 ixD (eN 1) (eCl lenD (aCons (eN 0) aNil)))))))
noncomputable def f__law_many : List Slot → So := fnM 4 m__law_many
end Lb


set_option maxHeartbeats 1000000
namespace Lb
open PySem PySem.Spec PyProof.Rows L2 Mir
/-! the elder of a number -/
def pick (c : Nat → Nat) : List Nat → Nat → Option (Nat × Nat)
  | [], _ => none
  | e :: es, k => if k < c e then some (e, k) else pick c es (k - c e)
def cutN (xs : List Int) (b e : Nat) : List Int := (xs.drop b).take (e - b)
/-- the run that a word says -/
def runP (b : Int) (way : Int) (xs : List Int) (p e : Nat) : Int × Int := if way = 0 then (numI b (cutN xs p (e - 1)), xs.getD (e - 1) 0) else (numI b (cutN xs (p + 1) e).reverse, xs.getD p 0)
def c2 (r : Int × Int) : PyData := .tuple [.int r.1, .int r.2]
/-- the words (begin, end) of the elder of number k, from place p on -/
def eldP (w : Nat → Nat → Bool) (n : Nat) : Nat → Nat → Nat → List (Nat × Nat)
  | 0, _, _ => []
  | m + 1, p, k => if p < n then (match pick (rc w n) ((placesN n p).filter (w p)) k with
    | some (e, k') => (p, e) :: eldP w n m e k'
    | none => []) else []
abbrev runC (b : Nat) (way : Int) (xs : List Int) (q : Nat × Nat) : PyData := c2 (runP b way xs q.1 q.2)
end Lb


set_option maxHeartbeats 1000000
namespace Lb
open PySem PySem.Spec PyProof.Rows L2 Mir
/-! numbers and their figures -/
/-! the words of an elder -/
def runN (b : Nat) (way : Int) (xs : List Int) (q : Nat × Nat) : Nat × Int := ((runP b way xs q.1 q.2).1.toNat, (runP b way xs q.1 q.2).2)
/-! the order of elders -/
def rlt (r s : Int × Int) : Bool := if r.1 = s.1 then decide (r.2 < s.2) else decide (r.1 < s.1)
def llt : List (Int × Int) → List (Int × Int) → Bool
  | _, [] => false
  | [], _ :: _ => true
  | x :: xs, y :: ys => if x = y then llt xs ys else rlt x y
end Lb


set_option maxHeartbeats 1000000
namespace Lb
open PySem PySem.Spec PyProof.Rows L2 Mir
/-! elders counted by the laws' own way (as in P_k08, over the library's mirror) -/
/-! the law's own count -/
def Lb' (w : Nat → Nat → Bool) (n b e : Nat) : Nat := (if e = 0 then 1 else 0) + sg b (fun i => edge w n i e * lc w n i)
end Lb


set_option maxHeartbeats 1000000
namespace Lb
open PySem PySem.Spec PyProof.Rows L2 Mir
/-! runs of elders: counts, signs, neighbours; bounds of their number -/
def RunsOk (b : Nat) : Int → List (Int × Int) → Prop
  | _, [] => True
  | l, r :: rs => 1 ≤ r.1 ∧ 0 ≤ r.2 ∧ r.2 < (b : Int) ∧ r.2 ≠ l ∧ RunsOk b r.2 rs
abbrev runQ (b : Nat) (way : Int) (xs : List Int) (q : Nat × Nat) : Int × Int := runP b way xs q.1 q.2
/-- the runs of the elder of a number -/
def eldR (b : Nat) (way : Int) (xs : List Int) (k : Nat) : List (Int × Int) := (eldP (wordW way xs) xs.length xs.length 0 k).map (runQ b way xs)
end Lb


namespace Lb
open PySem PySem.Spec PyProof.Rows L2 Mir
noncomputable def m_word_end : En → So :=
  (sSeq (sKl [3] (sAsg (gT (gCons' (gN 4) (gCons' (gN 5) gNil'))) (eN 3)))
  (sSeq (sIf (tOr' (t1 (e2 eqD (eN 2) (eCl lenD (aCons (eN 1) aNil)))) (t1 (e2 ltD (eN 4) (eC (.int 1))))) (sRet (eC .none)) sNil)
  (sSeq (sSet 6 (e2 addD (e2 addD (eN 2) (eCl lenD (aCons (eCall 2 f_figures_of (aCons (e2 ixD (eN 0) (eC (.int 0))) (aCons (eN 4) aNil))) aNil))) (eC (.int 1))))
  (sSeq (sKl [0, 1, 2, 4, 5] (sIf (tOr' (t1 (e2 notInD (eN 6) (eCall 3 f_ends_of (aCons (eN 0) (aCons (eN 1) (aCons (eN 2) aNil)))))) (t1 (e2 neD (eCall 4 f_run_of (aCons (eN 0) (aCons (eN 1) (aCons (eN 2) (aCons (eN 6) aNil))))) (eTup (aCons (eN 4) (aCons (eN 5) aNil)))))) (sRet (eC .none)) sNil))
  (sRet (eN 6))))))
noncomputable def f_word_end : List Slot → So := fnM 7 m_word_end
noncomputable def m_elder_number_b0 : En → So :=
  (sSeq (sKl [6] (sSet 7 (eCall 4 f_word_end (aCons (eN 0) (aCons (eN 1) (aCons (eN 5) (aCons (eN 6) aNil)))))))
  (sSeq (sIf (t1 (e2 isD (eN 7) (eC .none))) (sExc "NoElder") sNil)
  (sSeq (sKl [5] (sSet 4 (e2 addD (eN 4) (eCl sumD (aCons (eComp (iK (iL (eCall 3 f_ends_of (aCons (eN 0) (aCons (eN 1) (aCons (eN 5) aNil)))))) (gN 8) (t1 (e2 ltD (eN 8) (eN 7))) (e2 ixD (eN 3) (eN 8)) [8]) aNil)))))
  (sKl [7] (sSet 5 (eN 7))))))
noncomputable def m_elder_number : En → So :=
  (sSeq (sSet 3 (eCall 2 f_counts_of (aCons (eN 0) (aCons (eN 1) aNil))))
  (sSeq (sSet 4 (eC (.int 0)))
  (sSeq (sSet 5 (eC (.int 0)))
  (sSeq (sKl [0, 2, 3, 6, 7] (sFor (iL (eN 2)) (gN 6) m_elder_number_b0))
  (sSeq (sKl [1, 5] (sIf (t1 (e2 ltD (eN 5) (eCl lenD (aCons (eN 1) aNil)))) (sExc "NoElder") sNil))
  (sRet (eN 4)))))))
noncomputable def f_elder_number : List Slot → So := fnM 9 m_elder_number
end Lb


set_option maxHeartbeats 1000000
namespace Lb
open PySem PySem.Spec PyProof.Rows L2 Mir
/-! the number of an elder -/
def wend (b : Nat) (way : Int) (xs : List Int) (p : Nat) (r : Int × Int) : Option Nat :=
  if p = xs.length ∨ r.1 < 1 then none else if p + (figs b r.1.toNat).length + 1 ∈ endsL way xs p ∧ runP b way xs p (p + (figs b r.1.toNat).length + 1) = r then some (p + (figs b r.1.toNat).length + 1) else none
def od : Option Nat → PyData
  | none => .none
  | some e => .int (e : Int)
def l2 (r : Int × Int) : PyData := .list [.int r.1, .int r.2]
def sumLt (way : Int) (xs : List Int) (p e : Nat) : Nat := (((endsL way xs p).filter (fun q => decide (q < e))).map (rc (wordW way xs) xs.length)).sum
def wlk (b : Nat) (way : Int) (xs : List Int) : Nat → List (Int × Int) → Option (Nat × Nat)
  | p, [] => some (0, p)
  | p, r :: rs => match wend b way xs p r with
    | none => none
    | some e => (wlk b way xs e rs).map fun z => (sumLt way xs p e + z.1, z.2)
/-! sums and picks -/
end Lb


set_option maxHeartbeats 1000000
namespace Lb
open PySem PySem.Spec PyProof.Rows L2 Mir
/-! runs that say the row are an elder -/
def tn (r : Int × Int) : Nat × Int := (r.1.toNat, r.2)
end Lb


set_option maxHeartbeats 1000000
namespace Lb
open PySem PySem.Spec PyProof.Rows L2 Mir
/-! texts -/
open TL in
def codeT (l : List Nat) : Str := ⟨l.toArray⟩
theorem codeT_tl (l : List Nat) : TL.tl (codeT l) = l := rfl
theorem codeT_len (l : List Nat) : (codeT l).length = l.length := by rw [TL.len_tl, codeT_tl]
/-- the texts joined -/
theorem joinD_st (a : List Nat) (ys : List (List Nat)) (h : (ys.map List.length).sum + ys.length * a.length ≤ 16777216) : joinD (codeT a) (.list (ys.map fun y => .str (codeT y))) = some (.imm (.str (codeT (TL.joinL a ys)))) := by
  have e1 : (ys.map fun y => PyData.str (codeT y)) = (ys.map codeT).map .str := by rw [List.map_map]; rfl
  rw [e1]
  show ((strsOf ((ys.map codeT).map .str)).bind fun zs => if (zs.map (·.length)).sum + zs.length * (codeT a).length ≤ 16777216 then some (Hd.imm (.str (Txt.join (codeT a) zs))) else none) = _
  rw [strsOf_map, Option.bind_some]
  have e2 : (ys.map codeT).map (·.length) = ys.map List.length := by
    rw [List.map_map]
    exact List.map_congr_left fun y _ => codeT_len y
  rw [e2, List.length_map, codeT_len, if_pos h, TL.join_eq]
  congr 3
  refine TL.ext_tl ?_
  rw [TL.tl_join, codeT_tl, codeT_tl, List.map_map]
  congr 1
  exact (List.map_congr_left fun y _ => codeT_tl y).trans (List.map_id _)
/-! the figures -/
def FIG (g : Nat) : Str := codeT ((List.range g).map (48 + ·))
end Lb


set_option maxHeartbeats 4000000
namespace Mir
open PySem PySem.Spec PyProof.Rows L2
/-! the least of a list of nested data -/
noncomputable def minXD : List PyData → Option Hd
  | [.list (d :: ds)] => @ite _ (PySem.W.AlikeAll (d :: ds) ∧ PyData.depthAll (d :: ds) ≤ 60) (Classical.propDecidable _) (some (.imm (PySem.W.minD d ds))) none
  | _ => none
end Mir


set_option maxHeartbeats 4000000
namespace Mir
open PySem PySem.Spec PyProof.Rows L2
/-! constants of the module: tuples, dicts of whole numbers -/
/-- a dict of the module with whole numbers for keys -/
def KTab (P : Program) (w : World) (K : PySem.W.Frag) (a : Addr) (tbl : List (Int × PyData)) : Prop :=
  ∃ (o : Obj) (es : Array DictEntry) (n : Nat) (kvs : List (Key × V)) (vs : List (Key × Value)), K.lookup a = some o ∧ o.ExactDict ∧ o.data = .dict es n ∧ KeysOf (mixKind P w) es ∧ Pairs (mixKind P w) es.toList vs ∧ (vs.map (·.1)).Nodup ∧ (a == sysModules) = false ∧ KV kvs vs ∧
    ∀ k : Int, match tbl.lookup k with
      | some d => ∃ v, valV kvs (.inl k) = some v ∧ ∀ G, Dp K G v d
      | none => valV kvs (.inl k) = none
def eKGet (tbl : List (Int × PyData)) (fe fd : Mo Hd) : Mo Hd := fun ρ => bnd (fe ρ) fun he ρ1 => bnd (fd ρ1) fun hd ρ2 => match dr he.hold ρ2, hd with
  | some (.int k), .imm d => .ok (.imm ((tbl.lookup k).getD d)) ρ2
  | _, _ => .stuck
section
variable {X : Cx} {W : WX}
end
end Mir


set_option maxHeartbeats 1000000
/-! ### tuple(reversed(a tuple)) -/
namespace RTT
open PySem PySem.Spec PyProof.Rows RT
section
variable {prog : Program} {w : World} {A : Around} {E : Value → Shared → Prop} {s : Shared}
end
end RTT
namespace Mir
open PySem PySem.Spec PyProof.Rows L2 RT RTT
def trvD : PyData → Option Hd
  | .tuple ds => some (.imm (.tuple ds.reverse))
  | _ => none
section
variable {X : Cx} {W : WX} {e : Expr} {fe : Mo Hd}
end
end Mir


set_option maxHeartbeats 1000000
/-! ### dicts whose keys are tuples of whole numbers -/
namespace Mir
open PySem PySem.Spec PyProof.Rows L2
/-- an entry, over values -/
def EntV (K : PySem.W.Frag) (H : Hp) (e : List Int × V) (d : DictEntry) : Prop :=
  (∀ (P : Program) (w : World), d.hash = (tupleKind (intKind P w)).hash e.1) ∧ (∃ b, d.key = .ref b ∧ SqT K H b (e.1.map V.int)) ∧ RelV e.2 d.val
def DRaw (K : PySem.W.Frag) (H : Hp) (p : Addr) (m : List (List Int × V)) : Prop :=
  (p == sysModules) = false ∧ m.length ≤ sizeLine ∧ (m.map (·.1)).Nodup ∧ ∃ es, H p = some (rawT p es) ∧ Paired (EntV K H) m es
section
variable {X : Cx} {pins : List (Addr × Obj)} {σ : L2.St} {H : Hp} {s : Shared} {p b : Addr} {m : List (List Int × V)} {k : List Int}
abbrev XsR (K : PySem.W.Frag) (H : Hp) (e : List Int × V) (x : List Int × Addr × Value) : Prop := e.1 = x.1 ∧ SqT K H x.2.1 (e.1.map V.int) ∧ RelV e.2 x.2.2
def KeyR (e : DictEntry) (y : V) : Prop := ∃ b, y = .ref b ∧ e.key = .ref b
variable {v : V} {A : Around} {E : Value → Shared → Prop}
/-- what stands behind d[k] = v, k new -/
def NewE (K : PySem.W.Frag) (H : Hp) (p : Addr) (k : List Int) (b : Addr) (v : V) (H' : Hp) : Prop := ∃ es u, H p = some (rawT p es) ∧ RelV v u ∧ ∃ hsh, (∀ (P : Program) (w : World), hsh = (tupleKind (intKind P w)).hash k) ∧ H' = upd H p (rawT p (es ++ [⟨hsh, .ref b, u⟩]))
end
section
variable {X : Cx} {o i e value : Expr} {pos pos' : Pos} {td ty tv : TE}
def tDGetR (K : PySem.W.Frag) (td ty : TE) : TE := fun σ H Q => td σ H fun x H1 => ty σ H1 fun y H2 => ∃ a b m k v, x = .ref a ∧ y = .ref b ∧ DRaw K H2 a m ∧ SqT K H2 b (k.map V.int) ∧ valV m k = some v ∧ Q v H2
def tDInR (f : Bool → Bool) (K : PySem.W.Frag) (ty td : TE) : TE := fun σ H Q => ty σ H fun y H1 => td σ H1 fun x H2 => ∃ a b m k, x = .ref a ∧ y = .ref b ∧ DRaw K H2 a m ∧ SqT K H2 b (k.map V.int) ∧ Q (.bl (f (valV m k).isSome)) H2
def sDPutR (K : PySem.W.Frag) (td ty tv : TE) : TS := fun D σ H => tv σ H fun v H1 => td σ H1 fun x H2 => ty σ H2 fun y H3 => ∃ a b m k, x = .ref a ∧ y = .ref b ∧ DRaw K H3 a m ∧ m.length < sizeLine ∧ SqT K H3 b (k.map V.int) ∧ valV m k = none ∧ ∀ H4, NewE K H3 a k b v H4 → D.nx σ H4
def tDNewR : TE := fun _ H Q => ∀ p, H p = none → (p == sysModules) = false → Q (.ref p) (upd H p (rawT p []))
end
/-! ### in the mirror -/
def dcOf : Option Slot → Option (List (List Int × PyData))
  | some (.dic m) => some m
  | some (.darg m) => some m
  | _ => none
def lkD (m : List (List Int × PyData)) (k : List Int) : Option PyData := (m.find? fun e => decide (e.1 = k)).map (·.2)
section
variable {K : PySem.W.Frag} {Fm : Hp} {B : Nat → Addr} {G H : Hp} {σ : L2.St} {ρ : En} {p : Addr} {m : List (List Int × PyData)}
abbrev MvR (K : PySem.W.Frag) (G : Hp) (e : List Int × PyData) (f : List Int × V) : Prop := e.1 = f.1 ∧ Dp K G f.2 e.2
end

/-- the dict of a slot and a key -/
def dKey (j : Nat) (h : Hd) (ρ : En) : Option (List (List Int × PyData) × List Int) := match dcOf ρ[j]?, dr h ρ with
  | some m, some (.tuple ds) => (intsOf ds).map fun ks => (m, ks)
  | _, _ => none
def dSet : Option Slot → List (List Int × PyData) → Slot
  | some (.darg _), m => .darg m
  | _, m => .dic m
def keysD (m : List (List Int × PyData)) : List PyData := m.map fun e => .tuple (e.1.map .int)
def eDGet (j : Nat) (fk : Mo Hd) : Mo Hd := fun ρ => if (dcOf ρ[j]?).isSome = true then bnd (fk ρ) fun h ρ1 => match dKey j h ρ1 with
    | some (m, ks) => (match lkD m ks with
      | some d => .ok (.imm d) ρ1
      | none => .stuck)
    | none => .stuck
  else .stuck
def eDIn (f : Bool → Bool) (j : Nat) (fk : Mo Hd) : Mo Hd := fun ρ => bnd (fk ρ) fun h ρ1 => match dKey j h.hold ρ1 with
    | some (m, ks) => .ok (.imm (.bool (f (lkD m ks).isSome))) ρ1
    | none => .stuck
def eDLen (j : Nat) : Mo Hd := fun ρ => match dcOf ρ[j]? with
  | some m => .ok (.imm (.int (m.length : Nat))) ρ
  | none => .stuck
def eDKeys (j : Nat) : Mo Hd := fun ρ => match dcOf ρ[j]? with
  | some m => .ok (.fresh (keysD m)) ρ
  | none => .stuck
def sDNew (j : Nat) : En → So := fun ρ => setV j (.dic []) ρ
noncomputable def sDPut (j : Nat) (fk fe : Mo Hd) : En → So := fun ρ => bndS (fe ρ) fun h ρ1 => bndS (esc h ρ1) fun d ρ2 => if (dcOf ρ2[j]?).isSome = true then bndS (fk ρ2) fun hk ρ3 => match dKey j hk ρ3 with
    | some (m, ks) => @ite _ (m.length < sizeLine ∧ (lkD m ks).isSome = false) (Classical.propDecidable _) (.nx (ρ3.set j (dSet ρ3[j]? (m ++ [(ks, d)])))) .stuck
    | none => .stuck
  else .stuck
section
variable {X : Cx} {W : WX} {e i : Expr} {fe fk : Mo Hd} {pos : Pos}
end
section
variable {X : Cx} {W : WX} {fa : Mo (List Hd)} {m : List Slot → So} {f : Addr} {fd : FuncData} {ps : List Str} {kk k n : Nat} {x : Str} {p pos : Pos} {e : Expr} {es : List Expr}
end
end Mir


namespace Mir
open PySem PySem.Spec PyProof.Rows L2
/-! ### working out dicts -/
section
variable {ρ ρ1 : En} {fk fe : Mo Hd} {fl : Mo (List Hd)} {j np : Nat} {d : PyData} {ds : List PyData} {ks : List Int} {c : Str} {h : Hd} {hs : List Hd} {m : List (List Int × PyData)} {f : Bool → Bool} {F : List Slot → So} {as : List Slot}
def dlK (o : Option Slot) (ρ : En) : Rs Hd := match dcOf o with
  | some m => .ok (.imm (.int (m.length : Nat))) ρ
  | none => .stuck
def dyK (o : Option Slot) (ρ : En) : Rs Hd := match dcOf o with
  | some m => .ok (.fresh (keysD m)) ρ
  | none => .stuck
def kyK (o : Option Slot) (q : Option PyData) : Option (List (List Int × PyData) × List Int) := match dcOf o, q with
  | some m, some (.tuple ds) => (intsOf ds).map fun ks => (m, ks)
  | _, _ => none
def dgL (o : Option PyData) (ρ : En) : Rs Hd := match o with
  | some d => .ok (.imm d) ρ
  | none => .stuck
def dgK (o : Option (List (List Int × PyData) × List Int)) (ρ : En) : Rs Hd := match o with
  | some (m, ks) => dgL (lkD m ks) ρ
  | none => .stuck
def dgA (j : Nat) (r : Rs Hd) : Rs Hd := bnd r fun h ρ1 => dgK (dKey j h ρ1) ρ1
def dcK (o : Option Slot) (r : Rs Hd) : Rs Hd := if (dcOf o).isSome = true then r else .stuck
def diK (f : Bool → Bool) (o : Option (List (List Int × PyData) × List Int)) (ρ : En) : Rs Hd := match o with
  | some (m, ks) => .ok (.imm (.bool (f (lkD m ks).isSome))) ρ
  | none => .stuck
def diA (f : Bool → Bool) (j : Nat) (r : Rs Hd) : Rs Hd := bnd r fun h ρ1 => diK f (dKey j h.hold ρ1) ρ1
noncomputable def dpL (j : Nat) (d : PyData) (ρ : En) (o : Option (List (List Int × PyData) × List Int)) : So := match o with
  | some (m, ks) => @ite _ (m.length < sizeLine ∧ (lkD m ks).isSome = false) (Classical.propDecidable _) (.nx (ρ.set j (dSet ρ[j]? (m ++ [(ks, d)])))) .stuck
  | none => .stuck
noncomputable def dpK (j : Nat) (d : PyData) (r : Rs Hd) : So := bndS r fun hk ρ3 => dpL j d ρ3 (dKey j hk ρ3)
noncomputable def dpC (o : Option Slot) (s : So) : So := if (dcOf o).isSome = true then s else .stuck
noncomputable def dpB (j : Nat) (fk : Mo Hd) (r : Rs PyData) : So := bndS r fun d ρ2 => dpC ρ2[j]? (dpK j d (fk ρ2))
noncomputable def dpA (j : Nat) (fk : Mo Hd) (r : Rs Hd) : So := bndS r fun h ρ1 => dpB j fk (esc h ρ1)
/-! a call with a dict -/
def cdK (o : Option Slot) (ow : Bool) (h : Hd) (e : Bool) (j : Nat) (ρ1 : En) : Rs Hd := match o with
  | some (.darg fs) => okIf (cleanH e h && noLists (fs.map (·.2))) h (ρ1.set j (if ow = true then .dic fs else .darg fs))
  | _ => .stuck
def cdE (o : Option Slot) (ow : Bool) (c : Str) (j : Nat) (ρ1 : En) : Rs Hd := match o with
  | some (.darg fs) => exIf (noLists (fs.map (·.2))) c (ρ1.set j (if ow = true then .dic fs else .darg fs))
  | _ => .stuck
def cdR (o : So) (ow : Bool) (e : Bool) (j : Nat) (ρ1 : En) : Rs Hd := match o with
  | .rt h as' => cdK as'[(0 : Nat)]? ow h e j ρ1
  | .exc c as' => cdE as'[(0 : Nat)]? ow c j ρ1
  | _ => .stuck
def cd2 (o : Option Slot) (F : List Slot → So) (e : Bool) (ds : List PyData) (j : Nat) (ρ1 : En) : Rs Hd := match o with
  | some (.dic es) => cdR (F (.darg es :: ds.map .val)) true e j ρ1
  | some (.darg es) => cdR (F (.darg es :: ds.map .val)) false e j ρ1
  | _ => .stuck
def cd1 (np : Nat) (F : List Slot → So) (hs : List Hd) (o : Option (List PyData)) (j : Nat) (ρ1 : En) : Rs Hd := match o with
  | some ds => if ds.length + 1 ≠ np then .stuck else cd2 ρ1[j]? F (lent ρ1 hs).isEmpty ds j ρ1
  | none => .stuck
def cdA (np : Nat) (F : List Slot → So) (r : Rs (List Hd)) : Rs Hd := bnd r fun hs ρ1 => match hs with
  | .slot j :: hs => cd1 np F hs (drs hs ρ1) j ρ1
  | _ => .stuck
end
end Mir


set_option maxHeartbeats 1000000
/-! ### a dict that a def tells -/
namespace Mir
open PySem PySem.Spec PyProof.Rows L2
def sRetD (j : Nat) : En → So := fun ρ => match ρ[j]? with
  | some (.dic _) => .rt (.slot j) ρ
  | _ => .stuck
section
variable {X : Cx} {W : WX} {pos : Pos}
end
/-! the end of such a def: its dict stands behind the arguments -/
def finFD (as : List Slot) : So → So
  | .rt (.slot j) ρ => match keepA as ρ, ρ[j]? with
    | some as', some (.dic m) => if as.length ≤ j then .rt (.slot as.length) (as' ++ [.dic m]) else .stuck
    | _, _ => .stuck
  | .exc c ρ => match keepA as ρ with
    | some as' => .exc c as'
    | none => .stuck
  | _ => .stuck
def fnMD (n : Nat) (m : En → So) : List Slot → So := fun as => finFD as (m (as ++ List.replicate (n - as.length) .unset))
section
variable {P : Program} {w : World} {K : PySem.W.Frag} {mg : Str → Option Value} {base : Heap}
end
/-! the call -/
def sSetD (i n : Nat) (m : List Slot → So) (fa : Mo (List Hd)) : En → So := fun ρ => bndS (fa ρ) fun hs ρ1 => bndS (escs hs ρ1) fun ds ρ2 => if ds.length ≠ n then .stuck else match m (ds.map .val) with
  | .rt (.slot k) as => (match as[k]? with
    | some (.dic d) => setV i (.dic d) ρ2
    | _ => .stuck)
  | .exc c _ => .exc c ρ2
  | _ => .stuck
section
variable {X : Cx} {W : WX} {k : Nat} {f : Addr} {fd : FuncData} {ps : List Str} {x y : Str} {p pos pos' px : Pos} {e : Expr} {es : List Expr} {fa : Mo (List Hd)} {m : List Slot → So} {kk : Nat}
end
end Mir


set_option maxHeartbeats 1000000
/-! ### d.get(k, c); d[k] = v under a key that is there -/
namespace Mir
open PySem PySem.Spec PyProof.Rows L2
section
variable {X : Cx} {pins : List (Addr × Obj)} {σ : L2.St} {H : Hp} {s : Shared} {p b : Addr} {m : List (List Int × V)} {k : List Int} {v : V} {A : Around} {E : Value → Shared → Prop}
/-- the entries behind d[k] = v, k there -/
def putL (k : List Int) (u : Value) : List (List Int × V) → List DictEntry → List DictEntry
  | e :: m, d :: es => (if e.1 = k then ⟨d.hash, d.key, u⟩ else d) :: putL k u m es
  | _, es => es
def OldE (H : Hp) (p : Addr) (m : List (List Int × V)) (k : List Int) (v : V) (H' : Hp) : Prop := ∃ es u, H p = some (rawT p es) ∧ RelV v u ∧ H' = upd H p (rawT p (putL k u m es))
end
section
variable {X : Cx} {o i e f value : Expr} {pos pos' apos cpos : Pos} {td ty tx tv : TE}
def tDGet2R (K : PySem.W.Frag) (td ty tx : TE) : TE := fun σ H Q => td σ H fun x H1 => ∃ a m, x = .ref a ∧ DRaw K H1 a m ∧ ty σ H1 fun y H2 => tx σ H2 fun z H3 => ∃ b m' k, y = .ref b ∧ DRaw K H3 a m' ∧ SqT K H3 b (k.map V.int) ∧ Q ((valV m' k).getD z) H3
def sDPut2R (K : PySem.W.Frag) (td ty tv : TE) : TS := fun D σ H => tv σ H fun v H1 => td σ H1 fun x H2 => ty σ H2 fun y H3 => ∃ a b m k, x = .ref a ∧ y = .ref b ∧ DRaw K H3 a m ∧ SqT K H3 b (k.map V.int) ∧
  ((valV m k = none ∧ m.length < sizeLine ∧ ∀ H4, NewE K H3 a k b v H4 → D.nx σ H4) ∨ ∃ v0, valV m k = some v0 ∧ ∀ H4, OldE H3 a m k v H4 → D.nx σ H4)
end
/-! ### in the mirror -/
def putM (k : List Int) (d : PyData) (m : List (List Int × PyData)) : List (List Int × PyData) := m.map fun e => if e.1 = k then (k, d) else e
section
variable {K : PySem.W.Frag} {Fm : Hp} {B : Nat → Addr} {G H : Hp} {σ : L2.St} {ρ : En} {p : Addr} {m : List (List Int × PyData)}
end
noncomputable def sDPut2 (j : Nat) (fk fe : Mo Hd) : En → So := fun ρ => bndS (fe ρ) fun h ρ1 => bndS (esc h ρ1) fun d ρ2 => if (dcOf ρ2[j]?).isSome = true then bndS (fk ρ2) fun hk ρ3 => match dKey j hk ρ3 with
    | some (m, ks) => if (lkD m ks).isSome = true then .nx (ρ3.set j (dSet ρ3[j]? (putM ks d m))) else @ite _ (m.length < sizeLine) (Classical.propDecidable _) (.nx (ρ3.set j (dSet ρ3[j]? (m ++ [(ks, d)])))) .stuck
    | none => .stuck
  else .stuck
def eDGetD (j : Nat) (fk : Mo Hd) (c : PyData) : Mo Hd := fun ρ => if (dcOf ρ[j]?).isSome = true then bnd (fk ρ) fun h ρ1 => match dKey j h.hold ρ1 with
    | some (m, ks) => .ok (.imm ((lkD m ks).getD c)) ρ1
    | none => .stuck
  else .stuck
section
variable {X : Cx} {W : WX} {e i f : Expr} {fe fk : Mo Hd} {pos : Pos}
end
end Mir


set_option maxHeartbeats 1000000
/-! ### evaluation of Mjr, Mjs -/
namespace Mir
open PySem PySem.Spec PyProof.Rows L2
section
variable {j i n k : Nat} {ρ : En} {fk fe : Mo Hd} {fa : Mo (List Hd)} {m : List (List Int × PyData)} {ks : List Int} {d c : PyData} {h : Hd} {C : Str} {f : List Slot → So} {hs : List Hd} {ds : List PyData} {as as' : List Slot}
noncomputable def d2L (j : Nat) (d : PyData) (ρ : En) (o : Option (List (List Int × PyData) × List Int)) : So := match o with
  | some (m, ks) => if (lkD m ks).isSome = true then .nx (ρ.set j (dSet ρ[j]? (putM ks d m))) else @ite _ (m.length < sizeLine) (Classical.propDecidable _) (.nx (ρ.set j (dSet ρ[j]? (m ++ [(ks, d)])))) .stuck
  | none => .stuck
noncomputable def d2K (j : Nat) (d : PyData) (r : Rs Hd) : So := bndS r fun hk ρ3 => d2L j d ρ3 (dKey j hk ρ3)
noncomputable def d2B (j : Nat) (fk : Mo Hd) (r : Rs PyData) : So := bndS r fun d ρ2 => dpC ρ2[j]? (d2K j d (fk ρ2))
noncomputable def d2A (j : Nat) (fk : Mo Hd) (r : Rs Hd) : So := bndS r fun h ρ1 => d2B j fk (Mir.esc h ρ1)
def dgdK (c : PyData) (o : Option (List (List Int × PyData) × List Int)) (ρ : En) : Rs Hd := match o with
  | some (m, ks) => .ok (.imm ((lkD m ks).getD c)) ρ
  | none => .stuck
def dgdA (j : Nat) (c : PyData) (r : Rs Hd) : Rs Hd := Mir.bnd r fun h ρ1 => dgdK c (dKey j h.hold ρ1) ρ1
def sdK (i : Nat) (o : So) (ρ2 : En) : So := match o with
  | .rt (.slot k) as => (match as[k]? with
    | some (.dic d) => setV i (.dic d) ρ2
    | _ => .stuck)
  | .exc c _ => .exc c ρ2
  | _ => .stuck
def sdB (i n : Nat) (f : List Slot → So) (r : Rs (List PyData)) : So := bndS r fun ds ρ2 => if ds.length ≠ n then .stuck else sdK i (f (ds.map .val)) ρ2
def sdA (i n : Nat) (f : List Slot → So) (r : Rs (List Hd)) : So := bndS r fun hs ρ1 => sdB i n f (escs hs ρ1)
end
end Mir


set_option maxHeartbeats 1000000
/-! ### a told dict that is locked for good -/
namespace Mir
open PySem PySem.Spec PyProof.Rows L2
section
variable {K : PySem.W.Frag} {Fm : Hp} {B : Nat → Addr} {G H : Hp} {σ : L2.St} {ρ : En} {p : Addr}
end
def tLockP (t : TE) : TE := fun σ H Q => t σ H fun v H1 => ∃ d u, H1 d = some u ∧ Mut (some u) ∧ ∀ od, Q v (upd H1 d (.frz od u))
def sSetL (i n : Nat) (m : List Slot → So) (fa : Mo (List Hd)) : En → So := fun ρ => bndS (fa ρ) fun hs ρ1 => bndS (escs hs ρ1) fun ds ρ2 => if ds.length ≠ n then .stuck else match m (ds.map .val) with
  | .rt (.slot k) as => (match as[k]? with
    | some (.dic d) => setV i (.lck d) ρ2
    | _ => .stuck)
  | .exc c _ => .exc c ρ2
  | _ => .stuck
section
variable {X : Cx} {W : WX} {k : Nat} {f : Addr} {fd : FuncData} {ps : List Str} {x y : Str} {p pos pos' px : Pos} {e : Expr} {es : List Expr} {fa : Mo (List Hd)} {m : List Slot → So} {kk : Nat}
end
end Mir


set_option maxHeartbeats 1000000
/-! ### for k in d, d[k], d locked for good -/
namespace Mir
open PySem PySem.Spec PyProof.Rows L2
def Itkr (d : Addr) (o : Obj) (es : List DictEntry) : It :=
  ⟨fun i H => H d = some (.frz o (rawT d es)) ∧ ∃ en q, es[i]? = some en ∧ en.key = .ref q, fun i H x H' => H' = H ∧ ∃ en q, es[i]? = some en ∧ en.key = .ref q ∧ x = .ref q, fun i H => H d = some (.frz o (rawT d es)) ∧ es.length ≤ i⟩
section
variable {P : Program} {w : World} {K : PySem.W.Frag} {tg : Expr} {d : Addr} {o : Obj} {es : List DictEntry} {ep : Nat}
end
def iKeysR (td : TE) : TI := fun σ H R => td σ H fun x H1 => ∃ d o es, x = .ref d ∧ (d == sysModules) = false ∧ H1 d = some (.frz o (rawT d es)) ∧ R (Itkr d o es) H1
def iKL (j : Nat) : Mo (List PyData) := fun ρ => match ρ[j]? with
  | some (.lck m) => .ok (keysD m) ρ
  | _ => .stuck
section
variable {X : Cx} {W : WX} {tg e : Expr} {td : TE}
end
/-! d[k] -/
section
variable {X : Cx} {pins : List (Addr × Obj)} {σ : L2.St} {H : Hp} {s : Shared} {p b : Addr} {m : List (List Int × V)} {k : List Int} {ob : Obj}
def LRaw (K : PySem.W.Frag) (H : Hp) (p : Addr) (m : List (List Int × V)) : Prop := m.length ≤ sizeLine ∧ (m.map (·.1)).Nodup ∧ ∃ o es, H p = some (.frz o (rawT p es)) ∧ Paired (EntV K H) m es
end
def tLGetR (K : PySem.W.Frag) (td ty : TE) : TE := fun σ H Q => td σ H fun x H1 => ty σ H1 fun y H2 => ∃ a b m k v, x = .ref a ∧ y = .ref b ∧ LRaw K H2 a m ∧ SqT K H2 b (k.map V.int) ∧ valV m k = some v ∧ Q v H2
def eLGet (j : Nat) (fk : Mo Hd) : Mo Hd := fun ρ => match ρ[j]? with
  | some (.lck m) => bnd (fk ρ) fun h ρ1 => match dr h ρ1 with
    | some (.tuple ds) => (match intsOf ds with
      | some ks => (match lkD m ks with
        | some d => .ok (.imm d) ρ1
        | none => .stuck)
      | none => .stuck)
    | _ => .stuck
  | _ => .stuck
section
variable {X : Cx} {W : WX} {o i e : Expr} {td ty : TE} {pos : Pos} {fk : Mo Hd}
end
end Mir


set_option maxHeartbeats 1000000
/-! ### evaluation of Mju, Mjv -/
namespace Mir
open PySem PySem.Spec PyProof.Rows L2
section
variable {j i n k : Nat} {ρ : En} {fk fe : Mo Hd} {fa : Mo (List Hd)} {m : List (List Int × PyData)} {ks : List Int} {d c : PyData} {h : Hd} {C : Str} {f : List Slot → So} {hs : List Hd} {ds : List PyData} {as as' : List Slot}
def klI (o : Option Slot) (ρ : En) : Rs (List PyData) := match o with
  | some (.lck m) => .ok (keysD m) ρ
  | _ => .stuck
def lgC (m : List (List Int × PyData)) (q : Option PyData) (ρ1 : En) : Rs Hd := match q with
    | some (.tuple ds) => (match intsOf ds with
      | some ks => (match lkD m ks with
        | some d => .ok (.imm d) ρ1
        | none => .stuck)
      | none => .stuck)
    | _ => .stuck
def lgB (m : List (List Int × PyData)) (r : Rs Hd) : Rs Hd := bnd r fun h ρ1 => lgC m (dr h ρ1) ρ1
def lgA (o : Option Slot) (r : Rs Hd) : Rs Hd := match o with
  | some (.lck m) => lgB m r
  | _ => .stuck
def lkE (i : Nat) (o : So) (ρ2 : En) : So := match o with
  | .rt (.slot k) as => (match as[k]? with
    | some (.dic d) => setV i (.lck d) ρ2
    | _ => .stuck)
  | .exc c _ => .exc c ρ2
  | _ => .stuck
def lkB (i n : Nat) (f : List Slot → So) (r : Rs (List PyData)) : So := bndS r fun ds ρ2 => if ds.length ≠ n then .stuck else lkE i (f (ds.map .val)) ρ2
def lkA (i n : Nat) (f : List Slot → So) (r : Rs (List Hd)) : So := bndS r fun hs ρ1 => lkB i n f (escs hs ρ1)
end
end Mir


set_option maxHeartbeats 1000000
/-! ### dicts of whole numbers: {}, d[k] = v, sorted(d) -/
namespace Mir
open PySem PySem.Spec PyProof.Rows L2
section
variable {K : PySem.W.Frag} {Fm : Hp} {B : Nat → Addr} {G H : Hp} {σ : L2.St} {ρ : En} {p : Addr}
end
def putI (k : Int) (d : PyData) (m : List (Int × PyData)) : List (Int × PyData) := if (m.any fun e => decide (e.1 = k)) = true then m.map (fun e => if e.1 = k then (e.1, d) else e) else m ++ [(k, d)]
def idOf : Option Slot → Option (List (Int × PyData))
  | some (.bx (.idc m)) => some m
  | _ => none
def sINew (j : Nat) : En → So := fun ρ => setV j (.bx (.idc [])) ρ
noncomputable def sIPut (j : Nat) (fk fe : Mo Hd) : En → So := fun ρ => bndS (fe ρ) fun h ρ1 => bndS (esc h ρ1) fun d ρ2 => if (idOf ρ2[j]?).isSome = true then bndS (fk ρ2) fun hk ρ3 => match idOf ρ3[j]?, dr hk ρ3 with
    | some m, some (.int k) => if m.length < 1000 then .nx (ρ3.set j (.bx (.idc (putI k d m)))) else .stuck
    | _, _ => .stuck
  else .stuck
def eISort (j : Nat) : Mo Hd := fun ρ => match idOf ρ[j]? with
  | some m => if m.length < 64 then .ok (.fresh ((isort (m.map (·.1))).map .int)) ρ else .stuck
  | none => .stuck
abbrev IR (K : PySem.W.Frag) (G : Hp) (e : Int × PyData) (f : Key × V) : Prop := f.1 = Sum.inl e.1 ∧ Dp K G f.2 e.2
section
variable {X : Cx} {W : WX} {e i : Expr} {fe fk : Mo Hd} {pos : Pos}
end
/-! evaluation -/
section
variable {j : Nat} {ρ : En} {fk fe : Mo Hd} {m : List (Int × PyData)} {k : Int} {d : PyData} {h : Hd} {C : Str}
noncomputable def ipD (j : Nat) (d : PyData) (ρ : En) (o : Option (List (Int × PyData))) (q : Option PyData) : So := match o, q with
    | some m, some (.int k) => if m.length < 1000 then .nx (ρ.set j (.bx (.idc (putI k d m)))) else .stuck
    | _, _ => .stuck
noncomputable def ipC (j : Nat) (d : PyData) (r : Rs Hd) : So := bndS r fun hk ρ3 => ipD j d ρ3 (idOf ρ3[j]?) (dr hk ρ3)
noncomputable def ipG (o : Option (List (Int × PyData))) (s : So) : So := if o.isSome = true then s else .stuck
noncomputable def ipB (j : Nat) (fk : Mo Hd) (r : Rs PyData) : So := bndS r fun d ρ2 => ipG (idOf ρ2[j]?) (ipC j d (fk ρ2))
noncomputable def ipA (j : Nat) (fk : Mo Hd) (r : Rs Hd) : So := bndS r fun h ρ1 => ipB j fk (Mir.esc h ρ1)
def isK (o : Option (List (Int × PyData))) (ρ : En) : Rs Hd := match o with
  | some m => if m.length < 64 then .ok (.fresh ((isort (m.map (·.1))).map .int)) ρ else .stuck
  | none => .stuck
end
end Mir


set_option maxHeartbeats 1000000
/-! ### calls with an object at the first place -/
namespace Mir
open PySem PySem.Spec PyProof.Rows L2
/-- no list within -/
def bxNL : Bx → Bool
  | .dsk t k past => noList t && (noList k && noLists past)
  | .idc m => noLists (m.map (·.2))
section
variable {K : PySem.W.Frag} {Fm : Hp} {B : Nat → Addr} {G H : Hp} {σ : L2.St} {ρ : En}
theorem dpAll_over {G' : Hp} (hd : ∀ v d, noList d = true → Dp K G v d → Dp K G' v d) : ∀ {ds : List PyData} {vs : List V}, noLists ds = true → DpAll K G vs ds → DpAll K G' vs ds
  | [], _, _, h => by cases h; exact .nil
  | d :: ds, _, n, h => by
    have n' : noList d = true ∧ noLists ds = true := by simpa [noLists] using n
    cases h with
    | cons h1 h2 => exact .cons (hd _ _ n'.1 h1) (dpAll_over hd n'.2 h2)
theorem BCell.over {Fm' G' H' : Hp} {p : Addr} {x : Bx} (c : BCell K Fm G H p x) (n : bxNL x = true) (h : ∀ r o, Prv H p r → G r = none → Fm r = none → H r = some o → KB o → H' r = some o ∧ G' r = none ∧ Fm' r = none) (hd : ∀ v d, noList d = true → Dp K G v d → Dp K G' v d) : BCell K Fm' G' H' p x := by
  cases x with
  | dsk t k past =>
    have n' : noList t = true ∧ noList k = true ∧ noLists past = true := by simpa [bxNL] using n
    obtain ⟨C, dx, l, vt, vk, vs, its, n, ⟨a1, a2⟩, ⟨b1, b2⟩, ⟨c1, c2⟩, e0, e1, e2, e3, e4, e5, e6, e7, e8⟩ := c
    obtain ⟨g1, g2, g3⟩ := h p _ (.inl rfl) a1 a2 e1 True.intro
    obtain ⟨h1, h2, h3⟩ := h dx _ (.inr ⟨C, dx, _, e1, .inl rfl⟩) b1 b2 e2 True.intro
    obtain ⟨k1, k2, k3⟩ := h l _ (.inr ⟨C, dx, _, e1, .inr lk_past'⟩) c1 c2 e3 ⟨_, _, _, rfl⟩
    exact ⟨C, dx, l, vt, vk, vs, its, n, ⟨g2, g3⟩, ⟨h2, h3⟩, ⟨k2, k3⟩, e0, g1, h1, k1, e4, e5, hd _ _ n'.1 e6, hd _ _ n'.2.1 e7, dpAll_over hd n'.2.2 e8⟩
  | idc m =>
    have n' : noLists (m.map (·.2)) = true := n
    obtain ⟨⟨a1, a2⟩, kvs, e1, q⟩ := c
    obtain ⟨g1, g2, g3⟩ := h p _ (.inl rfl) a1 a2 e1 True.intro
    refine ⟨⟨g2, g3⟩, kvs, g1, ?_⟩
    clear e1 g1 n
    induction q with
    | nil => exact .nil
    | @cons a b l1 l2 r t ih =>
      have n2 : noList a.2 = true ∧ noLists (l1.map (·.2)) = true := by simpa [noLists] using n'
      exact .cons ⟨r.1, hd _ _ n2.1 r.2⟩ (ih n2.2)
end
section
variable {X : Cx} {W : WX} {k : Nat} {f : Addr} {fd : FuncData} {ps : List Str} {x : Str} {p pos : Pos} {e : Expr} {es : List Expr} {fa : Mo (List Hd)} {m : List Slot → So}
def bxR (m : List Slot → So) (x : Bx) (wr : Bx → Slot) (e : Bool) (ds : List PyData) (j : Nat) (ρ1 : En) : Rs Hd := match m (.bxa x :: ds.map .val) with
  | .rt h as' => (match as'[(0 : Nat)]? with
    | some (.bxa y) => if (cleanH e h && bxNL y) = true then .ok h (ρ1.set j (wr y)) else .stuck
    | _ => .stuck)
  | .exc c as' => (match as'[(0 : Nat)]? with
    | some (.bxa y) => if bxNL y = true then .exc c (ρ1.set j (wr y)) else .stuck
    | _ => .stuck)
  | _ => .stuck
/-- f(object, e, ..) -/
def eCallX (np : Nat) (m : List Slot → So) (fa : Mo (List Hd)) : Mo Hd := fun ρ => bnd (fa ρ) fun hs ρ1 => match hs with
  | .slot j :: hs => match drs hs ρ1 with
    | some ds => if ds.length + 1 ≠ np then .stuck else match ρ1[j]? with
      | some (.bx x) => bxR m x .bx (lent ρ1 hs).isEmpty ds j ρ1
      | some (.bxa x) => bxR m x .bxa (lent ρ1 hs).isEmpty ds j ρ1
      | _ => .stuck
    | none => .stuck
  | _ => .stuck
end
end Mir


set_option maxHeartbeats 1000000
/-! ### the desk: attributes, stores, methods -/
namespace Mir
open PySem PySem.Spec PyProof.Rows L2
/-- what of the text the class Desk has -/
structure DeskF (K : PySem.W.Frag) (mg : Str → Option Value) (C : Addr) : Prop where
  cn : PySem.W.nsIn K mainGlobals "Desk" = some (some (.ref C))
  mg : mg "Desk" = some (.ref C)
  cl : Cls K C
  nT : NoAttr K C "tongue"
  nK : NoAttr K C "kept"
  nP : NoAttr K C "past"
def dkOf : Option Slot → Option (PyData × PyData × List PyData)
  | some (.bx (.dsk t k p)) => some (t, k, p)
  | some (.bxa (.dsk t k p)) => some (t, k, p)
  | _ => none
/-- the slot with another desk -/
def dkSet (o : Option Slot) (t k : PyData) (p : List PyData) : Slot := match o with
  | some (.bxa _) => .bxa (.dsk t k p)
  | _ => .bx (.dsk t k p)
abbrev F3 (vt vk : V) (l : Addr) : List (Str × V) := [("tongue", vt), ("kept", vk), ("past", .ref l)]
section
variable {K : PySem.W.Frag} {Fm : Hp} {B : Nat → Addr} {G H : Hp} {σ : L2.St} {ρ : En}
end
/-! attributes -/
def eFldT (j : Nat) : Mo Hd := fun ρ => match dkOf ρ[j]? with
  | some (t, _, _) => .ok (.imm t) ρ
  | none => .stuck
def eFldK (j : Nat) : Mo Hd := fun ρ => match dkOf ρ[j]? with
  | some (_, k, _) => .ok (.imm k) ρ
  | none => .stuck
def sFldT (j : Nat) (fe : Mo Hd) : En → So := fun ρ => bndS (fe ρ) fun h ρ1 => bndS (esc h ρ1) fun d ρ2 => match dkOf ρ2[j]? with
  | some (_, k, p) => .nx (ρ2.set j (dkSet ρ2[j]? d k p))
  | none => .stuck
def sFldK (j : Nat) (fe : Mo Hd) : En → So := fun ρ => bndS (fe ρ) fun h ρ1 => bndS (esc h ρ1) fun d ρ2 => match dkOf ρ2[j]? with
  | some (t, _, p) => .nx (ρ2.set j (dkSet ρ2[j]? t d p))
  | none => .stuck
section
variable {X : Cx} {W : WX} {C : Addr} {e : Expr} {fe : Mo Hd} {pos pos' : Pos}
end
/-! methods -/
/-- a method of the class at C that keeps its mirror -/
structure Mth (P : Program) (w : World) (K : PySem.W.Frag) (mg : Str → Option Value) (base : Heap) (k : Nat) (C : Addr) (x : Str) (ps : List Str) (m : List Slot → So) (f : Addr) (fd : FuncData) : Prop where
  ok : FnOk P w K mg base (L2.CX P w) k f fd ps (spF K mg ps.length m)
  me : Meth K C x f
  bd : Binds K fd ps []
def eMeth (j np : Nat) (m : List Slot → So) (fa : Mo (List Hd)) : Mo Hd := fun ρ => if (dkOf ρ[j]?).isSome = true then bnd (fa ρ) fun hs ρ1 => match drs hs ρ1 with
    | some ds => if ds.length + 1 ≠ np then .stuck else match ρ1[j]? with
      | some (.bx x) => bxR m x .bx (lent ρ1 hs).isEmpty ds j ρ1
      | some (.bxa x) => bxR m x .bxa (lent ρ1 hs).isEmpty ds j ρ1
      | _ => .stuck
    | none => .stuck
  else .stuck
section
variable {X : Cx} {W : WX} {CX : CXT} {k kk n : Nat} {f C : Addr} {fd : FuncData} {ps : List Str} {sp : Sp} {E : L2.St → XK} {x m : Str} {p pos apos : Pos} {e o : Expr} {es : List Expr} {ta : TE} {t : TA} {fa : Mo (List Hd)} {mm : List Slot → So}
def tMethS (C : Addr) (m : Str) (sp : Sp) (E : L2.St → XK) (ta : TE) (t : TA) : TE := fun σ H Q => ta σ H fun x H1 => ∃ a dx fs, x = .ref a ∧ H1 a = some (.ins C dx fs) ∧ fs.lookup m = none ∧ t σ H1 fun vs H2 => sp (x :: vs) H2 Q (E σ)
end
end Mir


set_option maxHeartbeats 1000000
/-! ### the desk's past: append, pop, == []; Desk(); text.split(sep) -/
namespace Mir
open PySem PySem.Spec PyProof.Rows L2
section
variable {X : Cx} {pins : List (Addr × Obj)} {σ : L2.St} {H : Hp} {s : Shared} {l : Addr} {its : List Value} {n : Nat} {vs : List V}
end
/-- e.f, a list that is known by its object: it becomes a list again -/
def tFldU (K : PySem.W.Frag) (ta : TE) (f : Str) : TE := fun σ H Q => ta σ H fun x H1 => ∃ a C dx fs l its n vs, x = .ref a ∧ H1 a = some (.ins C dx fs) ∧ Cls K C ∧ NoAttr K C f ∧ fs.lookup f = some (.ref l) ∧ H1 l = some (lstP l its n) ∧ Vals vs its ∧ vs.length ≤ sizeLine ∧ Q (.ref l) (upd H1 l (.lst vs))
/-- behind an expression a list is known by its object again -/
def tRL (l : Addr) (t : TE) : TE := fun σ H Q => t σ H fun v H1 => ∃ vs, H1 l = some (.lst vs) ∧ ∀ its n, Vals vs its → vs.length ≤ sizeLine → Q v (upd H1 l (lstP l its n))
def tRLt (l : Addr) (t : TT) : TT := fun σ H Q => t σ H fun v H1 => ∃ vs, H1 l = some (.lst vs) ∧ ∀ its n, Vals vs its → vs.length ≤ sizeLine → Q v (upd H1 l (lstP l its n))
/-- target o.f -/
def gFld (K : PySem.W.Frag) (ta : TE) (f : Str) : TG := fun v σ H Q => ta σ H fun x H1 => ∃ a C dx fs, x = .ref a ∧ H1 a = some (.ins C dx fs) ∧ Cls K C ∧ NoAttr K C f ∧ fs.length < 1000 ∧ Q σ (upd H1 a (.ins C dx (putF f v fs)))
/-! the statements -/
noncomputable def sPApp (j : Nat) : En → So := fun ρ => match dkOf ρ[j]? with
  | some (t, k, past) => @ite _ (past.length < sizeLine) (Classical.propDecidable _) (.nx (ρ.set j (dkSet ρ[j]? t k (past ++ [.tuple [t, k]])))) .stuck
  | none => .stuck
def tPE (j : Nat) : Mo Bool := fun ρ => match dkOf ρ[j]? with
  | some (_, _, past) => .ok past.isEmpty ρ
  | none => .stuck
def sPPop (j : Nat) : En → So := fun ρ => match dkOf ρ[j]? with
  | some (_, _, past) => (match past[past.length - 1]? with
    | some (.tuple [t, k]) => .nx (ρ.set j (dkSet ρ[j]? t k past.dropLast))
    | _ => .stuck)
  | none => .stuck
section
variable {X : Cx} {W : WX} {C : Addr} {pos pos' p1 p2 p3 p4 p5 p6 p7 p8 p9 : Pos}
end
end Mir


set_option maxHeartbeats 1000000
/-! ### the desk: past == [], pop, Desk(); text.split(sep) -/
namespace Mir
open PySem PySem.Spec PyProof.Rows L2
/-- is the desk's past the empty list? -/
def tPEq (j : Nat) : Mo Bool := fun ρ => match dkOf ρ[j]? with
  | some (_, _, past) => if SeqAt.shaped (.list past) = true then .ok (PyData.eqv (.list past) (.list [])) ρ else .stuck
  | none => .stuck
section
variable {X : Cx} {W : WX} {C : Addr} {pos pos' p1 p2 p3 p4 p5 p6 p7 p8 p9 : Pos}
end
/-! Desk() -/
/-- behind an expression a new list is known by its object -/
def tRN (t : TE) : TE := fun σ H Q => t σ H fun v H1 => ∃ l vs, H1 l = some (.lst vs) ∧ ∀ its n, Vals vs its → vs.length ≤ sizeLine → Q v (upd H1 l (lstP l its n))
/-- what Desk.__init__ does -/
def spDI (C : Addr) : Sp := fun vs H Q _ => ∃ (p dx : Addr), vs = [.ref p] ∧ H p = some (.ins C dx []) ∧ ∀ (b1 b2 l : Addr) (o1 o2 : Obj), H b1 = none → H b2 = none → H l = none → b1 ≠ b2 → b1 ≠ l → b2 ≠ l → Bare o1 → Bare o2 →
  Q .non (upd (upd (upd (upd H b1 (.frz o1 (.tup [.int 10, .int 0]))) b2 (.frz o2 (.tup []))) l (.lst [])) p (.ins C dx (F3 (.ref b1) (.ref b2) l)))
def tDI (K : PySem.W.Frag) : TS := tSeq (sFld K (tVar 0) (tTupF (tCons (tC (.int 10)) (tCons (tC (.int 0)) tNil))) "tongue") (tSeq (sFld K (tVar 0) (tTupF tNil) "kept") (sFld K (tVar 0) (tLst tNil) "past"))
/-- name = Desk() -/
def sNewO (j : Nat) : En → So := fun ρ => setV j (.bx (.dsk (.tuple [.int 10, .int 0]) (.tuple []) [])) ρ
/-! text.split(sep) -/
def splD (sep : Str) : PyData → Option Hd
  | .str a => if (sep.length == 0) = false ∧ a.length ≤ 1000000 then some (.fresh ((Txt.split a sep).map .str)) else none
  | _ => none
section
variable {X : Cx} {W : WX} {o e : Expr} {fo : Mo Hd} {apos pos cp : Pos} {j : Nat} {sep : Str}
end
end Mir


set_option maxHeartbeats 1000000
/-! ### a dict of the module with texts for keys; evaluation of Mjy to Mkb -/
namespace Mir
open PySem PySem.Spec PyProof.Rows L2
/-- an entry of such a dict -/
def EntS (e : DictEntry) (p : Str × Int) : Prop := ∃ (h : Int) (t u : Tok), e = ⟨h, .str p.1 t, .int p.2 u⟩
def KStr (K : PySem.W.Frag) (w : World) (a : Addr) (tbl : List (Str × Int)) : Prop := ∃ es n, KDict K w a es n ∧ Paired EntS es.toList tbl
/-- k not in table; table[k] -/
def snD (tbl : List (Str × Int)) : PyData → Option Hd
  | .str z => some (.imm (.bool (!(tbl.lookup z).isSome)))
  | _ => none
def sgD (tbl : List (Str × Int)) : PyData → Option Hd
  | .str z => (tbl.lookup z).map fun i => .imm (.int i)
  | _ => none
section
variable {X : Cx} {W : WX} {x : Str} {px pos : Pos} {e : Expr} {fe : Mo Hd} {a : Addr} {tbl : List (Str × Int)}
end
/-- in a tuple -/
def inTD (a b : PyData) : Option Hd := match b with
  | .tuple ds => if SeqAt.shaped a = true ∧ SeqAt.shaped (.tuple ds) = true then iBool (ds.any fun z => PyData.eqv z a) else none
  | _ => none
/-- a def that is never reached -/
def f_stuck : List Slot → So := fun _ => .stuck
/-! ### evaluation -/
section
variable {ρ ρ1 : En} {i j np : Nat} {t k d t' k' : PyData} {past past' ds : List PyData} {fe : Mo Hd} {fa : Mo (List Hd)} {h : Hd} {hs : List Hd} {c : Str} {m : List Slot → So} {x y : Bx} {e : Bool} {as' : List Slot} {tbl : List (Str × Int)} {z sep : Str}
def flT (o : Option (PyData × PyData × List PyData)) (ρ : En) : Rs Hd := match o with
  | some (t, _, _) => .ok (.imm t) ρ
  | none => .stuck
def flK (o : Option (PyData × PyData × List PyData)) (ρ : En) : Rs Hd := match o with
  | some (_, k, _) => .ok (.imm k) ρ
  | none => .stuck
def ftC (j : Nat) (d : PyData) (o : Option (PyData × PyData × List PyData)) (ρ2 : En) : So := match o with
  | some (_, k, p) => .nx (ρ2.set j (dkSet ρ2[j]? d k p))
  | none => .stuck
def ftB (j : Nat) (r : Rs PyData) : So := bndS r fun d ρ2 => ftC j d (dkOf ρ2[j]?) ρ2
def ftA (j : Nat) (r : Rs Hd) : So := bndS r fun h ρ1 => ftB j (esc h ρ1)
def fkC (j : Nat) (d : PyData) (o : Option (PyData × PyData × List PyData)) (ρ2 : En) : So := match o with
  | some (t, _, p) => .nx (ρ2.set j (dkSet ρ2[j]? t d p))
  | none => .stuck
def fkB (j : Nat) (r : Rs PyData) : So := bndS r fun d ρ2 => fkC j d (dkOf ρ2[j]?) ρ2
def fkA (j : Nat) (r : Rs Hd) : So := bndS r fun h ρ1 => fkB j (esc h ρ1)
noncomputable def paK (j : Nat) (o : Option (PyData × PyData × List PyData)) (ρ : En) : So := match o with
  | some (t, k, past) => @ite _ (past.length < sizeLine) (Classical.propDecidable _) (.nx (ρ.set j (dkSet ρ[j]? t k (past ++ [.tuple [t, k]])))) .stuck
  | none => .stuck
def peK (o : Option (PyData × PyData × List PyData)) (ρ : En) : Rs Bool := match o with
  | some (_, _, past) => if SeqAt.shaped (.list past) = true then .ok (PyData.eqv (.list past) (.list [])) ρ else .stuck
  | none => .stuck
def ppK (j : Nat) (o : Option (PyData × PyData × List PyData)) (ρ : En) : So := match o with
  | some (_, _, past) => (match past[past.length - 1]? with
    | some (.tuple [t, k]) => .nx (ρ.set j (dkSet ρ[j]? t k past.dropLast))
    | _ => .stuck)
  | none => .stuck
/-! calls with an object -/
def bxE (o : Option Slot) (wr : Bx → Slot) (e : Bool) (h : Hd) (j : Nat) (ρ1 : En) : Rs Hd := match o with
  | some (.bxa y) => okIf (cleanH e h && bxNL y) h (ρ1.set j (wr y))
  | _ => .stuck
def bxF (o : Option Slot) (wr : Bx → Slot) (c : Str) (j : Nat) (ρ1 : En) : Rs Hd := match o with
  | some (.bxa y) => exIf (bxNL y) c (ρ1.set j (wr y))
  | _ => .stuck
def bxM (o : So) (wr : Bx → Slot) (e : Bool) (j : Nat) (ρ1 : En) : Rs Hd := match o with
  | .rt h as' => bxE as'[(0 : Nat)]? wr e h j ρ1
  | .exc c as' => bxF as'[(0 : Nat)]? wr c j ρ1
  | _ => .stuck
def cxB (o : Option Slot) (np : Nat) (m : List Slot → So) (e : Bool) (ds : List PyData) (j : Nat) (ρ1 : En) : Rs Hd := match o with
  | some (.bx x) => bxR m x .bx e ds j ρ1
  | some (.bxa x) => bxR m x .bxa e ds j ρ1
  | _ => .stuck
def cxA (np : Nat) (m : List Slot → So) (hs : List Hd) (o : Option (List PyData)) (j : Nat) (ρ1 : En) : Rs Hd := match o with
  | some ds => if ds.length + 1 ≠ np then .stuck else cxB ρ1[j]? np m (lent ρ1 hs).isEmpty ds j ρ1
  | none => .stuck
def meA (j np : Nat) (m : List Slot → So) (b : Bool) (r : Rs (List Hd)) : Rs Hd := if b = true then bnd r fun hs ρ1 => cxA np m hs (drs hs ρ1) j ρ1 else .stuck
def cyA (np : Nat) (m : List Slot → So) (r : Rs (List Hd)) : Rs Hd := bnd r fun hs ρ1 => match hs with
  | .slot j :: hs => cxA np m hs (drs hs ρ1) j ρ1
  | _ => .stuck
/-! split, tables of texts -/
end
end Mir


namespace Lb
open PySem PySem.Spec PyProof.Rows L2 Mir
noncomputable def m_first_runs : En → So :=
  (sRet (eSl slD (eN 0) pNo (pSome (eCl sumD (aCons (eComp (iK (iL (eSl slD (eCall 1 f_runs_of (aCons (eN 0) aNil)) pNo (pSome (eN 1))))) (gT (gCons' (gN 2) (gCons' (gN 3) gNil'))) tYes' (eN 2) [2, 3]) aNil)))))
noncomputable def f_first_runs : List Slot → So := fnM 4 m_first_runs
noncomputable def m_known_of : En → So :=
  (sSeq (sKl [0] (sSet 2 (eCall 1 f_front_of (aCons (eN 0) aNil))))
  (sSeq (sKl [1] (sSet 3 (eCall 2 f_first_runs (aCons (eN 2) (aCons (eN 1) aNil)))))
  (sRet (eTup (aCons (eN 3) (aCons (e2 eqD (eN 3) (eN 2)) aNil))))))
noncomputable def f_known_of : List Slot → So := fnM 4 m_known_of
noncomputable def m_known_behind : En → So :=
  (sSeq (sKl [1] (sAsg (gT (gCons' (gN 3) (gCons' (gN 4) gNil'))) (eN 1)))
  (sSeq (sKl [4] (sIf (t1 (eN 4)) (sRet (eCall 2 f_known_of (aCons (eCall 2 f_said (aCons (eTup (aCons (eN 0) (aCons (eC (.int 0)) aNil))) (aCons (eN 3) aNil))) (aCons (eN 2) aNil)))) sNil))
  (sSeq (sKl [0, 3] (sSet 5 (eCall 2 f_sure_of (aCons (eN 0) (aCons (eN 3) aNil)))))
  (sSeq (sSet 6 (eCall 1 f_front_of (aCons (eN 5) aNil)))
  (sSeq (sKl [2] (sSet 3 (eCall 2 f_first_runs (aCons (eN 6) (aCons (eN 2) aNil)))))
  (sRet (eTup (aCons (eN 3) (aCons (eAnd (e2 neD (eN 6) (eN 5)) (e2 eqD (eN 3) (eN 6))) aNil)))))))))
noncomputable def f_known_behind : List Slot → So := fnM 7 m_known_behind
noncomputable def m_shared_by_b0 : En → So :=
  (sSet 2 (e2 addD (eN 2) (eC (.int 1))))
noncomputable def m_shared_by_c1 : Mo Bool :=
  (t1 (eCh eqD neD (eSl slD (eN 0) (pSome (eN 2)) (pSome (e2 addD (eN 2) (eC (.int 1))))) (eSl slD (eN 1) (pSome (eN 2)) (pSome (e2 addD (eN 2) (eC (.int 1))))) (eTup aNil)))
noncomputable def m_shared_by : En → So :=
  (sSeq (sSet 2 (eC (.int 0)))
  (sSeq (sKl [1] (sWhile m_shared_by_c1 m_shared_by_b0))
  (sRet (eSl slD (eN 0) pNo (pSome (eN 2))))))
noncomputable def f_shared_by : List Slot → So := fnM 3 m_shared_by
noncomputable def m_comes_again_b0 : En → So :=
  (sKl [4] (sSeq (sSet 3 (eCall 2 f_sure_of (aCons (eN 0) (aCons (eN 3) aNil))))
  (sIf (tOr' (t1 (e2 eqD (eN 3) (eTup aNil))) (t1 (e2 gtD (eCl lenD (aCons (eN 3) aNil)) (eC (.int 3000))))) (sRet (eC (.bool false))) sNil)))
noncomputable def m_comes_again : En → So :=
  (sSeq (sSet 3 (eN 1))
  (sSeq (sKl [0, 2, 4] (sFor (iR1 (aCons (eN 2) aNil)) (gN 4) m_comes_again_b0))
  (sRet (e2 eqD (eSl slD (eN 3) pNo (pSome (eCl lenD (aCons (eN 1) aNil)))) (eN 1)))))
noncomputable def f_comes_again : List Slot → So := fnM 5 m_comes_again
noncomputable def m_by_whole : En → So :=
  (sSeq (sAsg (gT (gCons' (gN 1) (gCons' (gN 2) gNil'))) (e2 ixD (eN 0) (e1 negD (eC (.int 1)))))
  (sSeq (sKl [0, 1, 2, 3] (sIf (tAnd' (t1 (eN 2)) (tAnd' (t1 (e2 leD (eCl lenD (aCons (eN 1) aNil)) (eC (.int 300)))) (t1 (e2 inD (eTup (aCons (eN 1) (aCons (eC (.bool true)) aNil))) (eSl slD (eN 0) pNo (pSome (e1 negD (eC (.int 1))))))))) (sSeq (sSet 3 (eMt tgL idxD (eN 0) (aCons (eTup (aCons (eN 1) (aCons (eC (.bool true)) aNil))) aNil)))
  (sRet (eTup (aCons (eN 3) (aCons (e2 subD (e2 subD (eCl lenD (aCons (eN 0) aNil)) (eC (.int 1))) (eN 3)) (aCons (eN 1) (aCons (eC (.bool true)) aNil))))))) sNil))
  (sRet (eC .none))))
noncomputable def f_by_whole : List Slot → So := fnM 4 m_by_whole
noncomputable def m_by_sure_b0 : En → So :=
  (sSeq (sSet 4 (e2 subD (e2 subD (eCl lenD (aCons (eN 1) aNil)) (eC (.int 1))) (eN 3)))
  (sKl [3, 4, 5] (sIf (t1 (e2 geD (eN 4) (eC (.int 0)))) (sSeq (sSet 5 (eSl slD (eCall 2 f_shared_by (aCons (e2 ixD (e2 ixD (eN 1) (eN 4)) (eC (.int 0))) (aCons (e2 ixD (e2 ixD (eN 1) (e1 negD (eC (.int 1)))) (eC (.int 0))) aNil))) pNo (pSome (eN 2))))
  (sKl [3, 4, 5] (sIf (tAnd' (t1 (e2 neD (eN 5) (eTup aNil))) (t1 (eCall 3 f_comes_again (aCons (eN 0) (aCons (eN 5) (aCons (eN 3) aNil)))))) (sRet (eTup (aCons (eN 4) (aCons (eN 3) (aCons (eN 5) (aCons (eC (.bool false)) aNil)))))) sNil))) sNil)))
noncomputable def m_by_sure : En → So :=
  (sSeq (sKl [0, 1, 2, 3, 4, 5] (sFor (iL (eKGet [(2, .tuple [.int 1]), (3, .tuple [.int 2, .int 1])] (eN 0) (eTup (aCons (eC (.int 3)) (aCons (eC (.int 1)) aNil))))) (gN 3) m_by_sure_b0))
  (sRet (eC .none)))
noncomputable def f_by_sure : List Slot → So := fnM 6 m_by_sure
noncomputable def m_searched_t0 : En → So :=
  (sSeq (sIf (t1 (e2 isD (eN 6) (eC .none))) (sSet 6 (eCall 3 f_by_sure (aCons (eN 0) (aCons (eN 5) (aCons (eN 3) aNil))))) sNil)
  (sIf (t1 (e2 isD (eN 6) (eC .none))) (sApp 5 (eCall 3 f_known_behind (aCons (eN 0) (aCons (e2 ixD (eN 5) (e1 negD (eC (.int 1)))) (aCons (eN 2) aNil))))) sNil))
noncomputable def m_searched_b1 : En → So :=
  (sKl [7] (sSeq (sIf (t1 (e2 isD (eN 6) (eC .none))) (sSet 6 (eCall 1 f_by_whole (aCons (eN 5) aNil))) sNil)
  m_searched_t0))
noncomputable def m_searched : En → So :=
  (sSeq (sKl [1] (sSet 5 (eLst (aCons (eCall 2 f_known_of (aCons (eN 1) (aCons (eN 2) aNil))) aNil))))
  (sSeq (sSet 6 (eC .none))
  (sSeq (sKl [0, 2, 3, 4, 5, 7] (sFor (iR1 (aCons (eN 4) aNil)) (gN 7) m_searched_b1))
  (sRet (eN 6)))))
noncomputable def f_searched : List Slot → So := fnM 8 m_searched
noncomputable def m_beginning_of_b0 : En → So :=
  (sKl [3, 4, 5] (sIf (t1 (e2 isD (eN 2) (eC .none))) (sKl [3, 4, 5] (sSet 2 (eCall 5 f_searched (aCons (eN 0) (aCons (eN 1) (aCons (eN 3) (aCons (eN 4) (aCons (eN 5) aNil)))))))) sNil))
noncomputable def m_beginning_of : En → So :=
  (sSeq (sSet 2 (eC .none))
  (sSeq (sKl [0, 1, 3, 4, 5] (sFor (iL (eC (.tuple [.tuple [.int 40, .int 24, .int 16], .tuple [.int 340, .int 300, .int 60]]))) (gT (gCons' (gN 3) (gCons' (gN 4) (gCons' (gN 5) gNil')))) m_beginning_of_b0))
  (sRet (eN 2))))
noncomputable def f_beginning_of : List Slot → So := fnM 6 m_beginning_of
noncomputable def m_first_signs_b0 : En → So :=
  (sKl [6] (sSeq (sApp 5 (e2 ixD (e2 ixD (eN 4) (eC (.int 0))) (eC (.int 0))))
  (sSet 4 (eCall 3 f_known_behind (aCons (eN 0) (aCons (eN 4) (aCons (eN 3) aNil)))))))
noncomputable def m_first_signs : En → So :=
  (sSeq (sKl [1] (sSet 4 (eCall 2 f_known_of (aCons (eN 1) (aCons (eN 3) aNil)))))
  (sSeq (sSet 5 (eLst aNil))
  (sSeq (sKl [0, 2, 3, 4, 6] (sFor (iR1 (aCons (eN 2) aNil)) (gN 6) m_first_signs_b0))
  (sRet (eN 5)))))
noncomputable def f_first_signs : List Slot → So := fnM 7 m_first_signs
noncomputable def m_firsts_of : En → So :=
  (sRet (eCall 4 f_first_signs (aCons (eN 0) (aCons (eN 1) (aCons (e2 addD (e2 ixD (eN 2) (eC (.int 0))) (e2 ixD (eN 2) (eC (.int 1)))) (aCons (eC (.int 80)) aNil))))))
noncomputable def f_firsts_of : List Slot → So := fnM 3 m_firsts_of
noncomputable def m_sign_and_side : En → So :=
  (sSeq (sIf (tNot' (t1 (eCh leD ltD (eC (.int 1)) (eN 2) (eCl lenD (aCons (eN 1) aNil))))) (sExc "NoPlace") sNil)
  (sSeq (sKl [0] (sIf (t1 (e2 eqD (e2 ixD (eN 0) (eC (.int 1))) (eC (.int 0)))) (sRet (eTup (aCons (e2 ixD (eN 1) (e2 subD (eN 2) (eC (.int 1)))) (aCons (eSl slD (eN 1) (pSome (eN 2)) pNo) aNil)))) sNil))
  (sRet (eTup (aCons (e2 ixD (eN 1) (eN 2)) (aCons (eCall 1 f_turned_about (aCons (eSl slD (eN 1) pNo (pSome (eN 2))) aNil)) aNil))))))
noncomputable def f_sign_and_side : List Slot → So := fnM 3 m_sign_and_side
noncomputable def m_met_early_b0 : En → So :=
  (sSeq (sSet 3 (eCall 3 f_known_behind (aCons (eN 0) (aCons (eN 3) (aCons (eC (.int 24)) aNil)))))
  (sKl [4] (sIf (t1 (e2 eqD (e2 ixD (e2 ixD (eN 3) (eC (.int 0))) (eC (.int 0))) (eN 1))) (sRet (eN 4)) sNil)))
noncomputable def m_met_early : En → So :=
  (sSeq (sIf (t1 (e2 eqD (e2 ixD (eN 2) (eC (.int 0))) (eN 1))) (sRet (eC (.int 0))) sNil)
  (sSeq (sKl [2] (sSet 3 (eCall 2 f_known_of (aCons (eN 2) (aCons (eC (.int 24)) aNil)))))
  (sSeq (sKl [0, 1, 3, 4] (sFor (iR2 (aCons (eC (.int 1)) (aCons (eC (.int 6)) aNil))) (gN 4) m_met_early_b0))
  (sRet (eC .none)))))
noncomputable def f_met_early : List Slot → So := fnM 5 m_met_early
noncomputable def m_sides_of : En → So :=
  (sSeq (sKl [1, 2] (sAsg (gT (gCons' (gN 3) (gCons' (gN 4) gNil'))) (eCall 3 f_sign_and_side (aCons (eN 0) (aCons (eN 1) (aCons (eN 2) aNil))))))
  (sSeq (sSet 5 (eCall 3 f_met_early (aCons (e2 ixD (eN 0) (eC (.int 0))) (aCons (eN 3) (aCons (eN 4) aNil)))))
  (sSeq (sKl [5] (sIf (t1 (e2 isNotD (eN 5) (eC .none))) (sRet (eTup (aCons (eC (.str "meet")) (aCons (eN 5) aNil)))) sNil))
  (sSeq (sSet 6 (eCall 2 f_beginning_of (aCons (e2 ixD (eN 0) (eC (.int 0))) (aCons (eN 4) aNil))))
  (sSeq (sKl [0, 4] (sSet 7 (eCall 3 f_firsts_of (aCons (e2 ixD (eN 0) (eC (.int 0))) (aCons (eN 4) (aCons (eN 6) aNil))))))
  (sSeq (sKl [3, 7] (sIf (t1 (e2 inD (eN 3) (eN 7))) (sRet (eTup (aCons (eC (.str "meet")) (aCons (eMt tgL idxD (eN 7) (aCons (eN 3) aNil)) aNil)))) sNil))
  (sRet (eTup (aCons (eC (.str "apart")) (aCons (eN 6) aNil))))))))))
noncomputable def f_sides_of : List Slot → So := fnM 8 m_sides_of
end Lb


namespace Lb
open PySem PySem.Spec PyProof.Rows L2 Mir
noncomputable def m_never_meddle : En → So :=
  (sSeq (sAsg (gT (gCons' (gN 3) (gCons' (gN 4) gNil'))) (eCall 3 f_sign_and_side (aCons (eN 0) (aCons (eN 1) (aCons (eN 2) aNil)))))
  (sSeq (sKl [3, 4] (sIf (tAnd' (t1 (e2 eqD (eN 3) (eC (.int 0)))) (t1 (e2 neD (e2 ixD (eN 4) (eC (.int 0))) (eC (.int 0))))) (sRet (eC (.bool true))) sNil))
  (sRet (e2 eqD (e2 ixD (eCall 3 f_sides_of (aCons (eN 0) (aCons (eN 1) (aCons (eN 2) aNil)))) (eC (.int 0))) (eC (.str "apart"))))))
noncomputable def f_never_meddle : List Slot → So := fnM 5 m_never_meddle
noncomputable def m_cuts_of : En → So :=
  (sRet (eComp (iK (iR2 (aCons (eC (.int 1)) (aCons (eCl lenD (aCons (eN 1) aNil)) aNil)))) (gN 2) (t1 (eCall 3 f_never_meddle (aCons (eN 0) (aCons (eN 1) (aCons (eN 2) aNil))))) (eN 2) [2]))
noncomputable def f_cuts_of : List Slot → So := fnM 3 m_cuts_of
noncomputable def m_pieces_of_b0 : En → So :=
  (sSeq (sKl [3] (sApp 2 (eSl slD (eN 1) (pSome (eN 3)) (pSome (eN 4)))))
  (sKl [4] (sSet 3 (eN 4))))
noncomputable def m_pieces_of : En → So :=
  (sSeq (sSet 2 (eLst aNil))
  (sSeq (sSet 3 (eC (.int 0)))
  (sSeq (sKl [0, 1, 3, 4] (sFor (iL (e2 addD (eCall 2 f_cuts_of (aCons (eN 0) (aCons (eN 1) aNil))) (eLst (aCons (eCl lenD (aCons (eN 1) aNil)) aNil)))) (gN 4) m_pieces_of_b0))
  (sRet (eComp (iN 2) (gN 5) (t1 (e2 neD (eN 5) (eTup aNil))) (eN 5) [5])))))
noncomputable def f_pieces_of : List Slot → So := fnM 6 m_pieces_of
noncomputable def m_is_piece : En → So :=
  (sRet (eAnd (e2 neD (eN 1) (eTup aNil)) (e2 eqD (eCall 2 f_cuts_of (aCons (eN 0) (aCons (eN 1) aNil))) (eLst aNil))))
noncomputable def f_is_piece : List Slot → So := fnM 2 m_is_piece
end Lb


namespace Lb
open PySem PySem.Spec PyProof.Rows L2 Mir
noncomputable def m_word_at : En → So :=
  (sSeq (sIf (tOr' (t1 (e2 ltD (e2 subD (eN 3) (eN 2)) (eC (.int 2)))) (t1 (e2 eqD (e2 ixD (eN 1) (eN 2)) (eC (.int 0))))) (sRet (eC .none)) sNil)
  (sSeq (sKl [0, 2] (sSet 4 (eCall 2 f_number_of (aCons (eN 0) (aCons (eCl tupleD (aCons (eSl slD (eN 1) (pSome (eN 2)) (pSome (e2 subD (eN 3) (eC (.int 1))))) aNil)) aNil)))))
  (sSeq (sIf (t1 (e2 gtD (eN 4) (eC (.int 30)))) (sRet (eC .none)) sNil)
  (sRet (eTup (aCons (eN 4) (aCons (e2 ixD (eN 1) (e2 subD (eN 3) (eC (.int 1)))) aNil)))))))
noncomputable def f_word_at : List Slot → So := fnM 5 m_word_at
noncomputable def m_heaps_behind_b0 (gr : List Slot → So) : En → So :=
  (sSeq (sSet 6 (eCall 4 f_word_at (aCons (eN 0) (aCons (eN 1) (aCons (eN 2) (aCons (eN 5) aNil))))))
  (sKl [5, 6, 7] (sIf (tAnd' (t1 (e2 isNotD (eN 6) (eC .none))) (t1 (e2 leD (e2 addD (eCl sumD (aCons (eN 3) aNil)) (e2 ixD (eN 6) (eC (.int 0)))) (eC (.int 30))))) (sKl [5, 6, 7] (sIf (t1 (e2 eqD (eCl sumD (aCons (eSl slD (eN 3) (pSome (e2 ixD (eN 6) (eC (.int 1)))) pNo) aNil)) (eC (.int 0)))) (sSeq (sSet 7 (eCl listD (aCons (eN 3) aNil)))
  (sSeq (sKl [6] (sSub 7 (e2 ixD (eN 6) (eC (.int 1))) (e2 ixD (eN 6) (eC (.int 0)))))
  (sKl [5, 7] (sExt 4 (eCallF 4 gr (aCons (eN 0) (aCons (eN 1) (aCons (eN 5) (aCons (eN 7) aNil))))))))) sNil)) sNil)))
noncomputable def m_heaps_behind (gr : List Slot → So) : En → So :=
  (sSeq (sIf (t1 (e2 eqD (eN 2) (eCl lenD (aCons (eN 1) aNil)))) (sRet (eLst (aCons (eCl listD (aCons (eN 3) aNil)) aNil))) sNil)
  (sSeq (sSet 4 (eLst aNil))
  (sSeq (sKl [0, 1, 2, 3, 5, 6, 7] (sFor (iR2 (aCons (e2 addD (eN 2) (eC (.int 2))) (aCons (e2 addD (eCl lenD (aCons (eN 1) aNil)) (eC (.int 1))) aNil))) (gN 5) (m_heaps_behind_b0 gr)))
  (sRet (eN 4)))))
noncomputable def f_heaps_behind_n : Nat → List Slot → So
  | 0 => fun _ => .stuck
  | d + 1 => fnM 8 (m_heaps_behind (f_heaps_behind_n d))
noncomputable def f_heaps_behind : List Slot → So := f_heaps_behind_n 24

noncomputable def m_heaps_of : En → So :=
  (sRet (eCallF 4 f_heaps_behind (aCons (eN 0) (aCons (eCl tupleD (aCons (eN 1) aNil)) (aCons (eC (.int 0)) (aCons (e2 mulD (eLst (aCons (eC (.int 0)) aNil)) (eN 0)) aNil))))))
noncomputable def f_heaps_of : List Slot → So := fnM 2 m_heaps_of
noncomputable def m_orders_of_b0 : En → So :=
  (sSeq (sSet 2 (e2 addD (eN 2) (eC (.int 1))))
  (sKl [4] (sSet 1 (e2 fdivD (e2 mulD (eN 1) (eN 2)) (eN 4)))))
noncomputable def m_orders_of_b1 : En → So :=
  (sKl [3, 4] (sFor (iR2 (aCons (eC (.int 1)) (aCons (e2 addD (eN 3) (eC (.int 1))) aNil))) (gN 4) m_orders_of_b0))
noncomputable def m_orders_of : En → So :=
  (sSeq (sSet 1 (eC (.int 1)))
  (sSeq (sSet 2 (eC (.int 0)))
  (sSeq (sKl [0, 2, 3, 4] (sFor (iL (eN 0)) (gN 3) m_orders_of_b1))
  (sRet (eN 1)))))
noncomputable def f_orders_of : List Slot → So := fnM 5 m_orders_of
noncomputable def m_orders_all : En → So :=
  (sRet (eCl sumD (aCons (eComp (iN 0) (gN 1) tYes' (eCall 1 f_orders_of (aCons (eN 1) aNil)) [1]) aNil)))
noncomputable def f_orders_all : List Slot → So := fnM 2 m_orders_all
noncomputable def m_heaps_less_b0 : En → So :=
  (sKl [3] (sIf (t1 (e2 gtD (e2 ixD (eN 3) (eN 1)) (eC (.int 0)))) (sKl [3] (sApp 2 (e2 addD (e2 addD (eSl slD (eN 3) pNo (pSome (eN 1))) (eLst (aCons (e2 subD (e2 ixD (eN 3) (eN 1)) (eC (.int 1))) aNil))) (eSl slD (eN 3) (pSome (e2 addD (eN 1) (eC (.int 1)))) pNo)))) sNil))
noncomputable def m_heaps_less : En → So :=
  (sSeq (sSet 2 (eLst aNil))
  (sSeq (sKl [0, 1, 3] (sFor (iL (eN 0)) (gN 3) m_heaps_less_b0))
  (sRet (eN 2))))
noncomputable def f_heaps_less : List Slot → So := fnM 4 m_heaps_less
noncomputable def m_heap_many : En → So :=
  (sRet (eCallF 1 f_orders_all (aCons (eCall 2 f_heaps_of (aCons (eN 0) (aCons (eN 1) aNil))) aNil)))
noncomputable def f_heap_many : List Slot → So := fnM 2 m_heap_many
noncomputable def m_heap_elder_b0 : En → So :=
  (sSeq (sSet 8 (eCallF 2 f_heaps_less (aCons (eN 3) (aCons (eN 7) aNil))))
  (sSeq (sIf (t1 (e2 ltD (eN 5) (eCallF 1 f_orders_all (aCons (eN 8) aNil)))) (sKl [3] sBrk) sNil)
  (sSet 5 (e2 subD (eN 5) (eCallF 1 f_orders_all (aCons (eN 8) aNil))))))
noncomputable def m_heap_elder_b1 : En → So :=
  (sSeq (sSet 6 (eCl intD (aCons (e2 inD (e2 mulD (eLst (aCons (eC (.int 0)) aNil)) (eN 0)) (eN 3)) aNil)))
  (sSeq (sIf (t1 (e2 ltD (eN 5) (eN 6))) (sRet (eN 4)) sNil)
  (sSeq (sKl [6] (sSet 5 (e2 subD (eN 5) (eN 6))))
  (sSeq (sKl [3] (sFor (iR1 (aCons (eN 0) aNil)) (gN 7) m_heap_elder_b0))
  (sSeq (sSet 4 (e2 addD (eN 4) (eTup (aCons (eN 7) aNil))))
  (sSet 3 (eN 8)))))))
noncomputable def m_heap_elder_c2 : Mo Bool :=
  (t1 (eC (.bool true)))
noncomputable def m_heap_elder : En → So :=
  (sSeq (sKl [1] (sSet 3 (eCall 2 f_heaps_of (aCons (eN 0) (aCons (eN 1) aNil)))))
  (sSeq (sIf (tNot' (t1 (eCh leD ltD (eC (.int 0)) (eN 2) (eCallF 1 f_orders_all (aCons (eN 3) aNil))))) (sExc "NoElder") sNil)
  (sSeq (sSet 4 (eTup aNil))
  (sSeq (sKl [2] (sSet 5 (eN 2)))
  (sKl [0, 3, 4, 5, 6, 7, 8] (sWhile m_heap_elder_c2 m_heap_elder_b1))))))
noncomputable def f_heap_elder : List Slot → So := fnM 9 m_heap_elder
noncomputable def m_heap_number_b0 : En → So :=
  (sSeq (sSet 5 (e2 addD (eN 5) (eCl intD (aCons (e2 inD (e2 mulD (eLst (aCons (eC (.int 0)) aNil)) (eN 0)) (eN 3)) aNil))))
  (sSeq (sSet 5 (e2 addD (eN 5) (eCl sumD (aCons (eComp (iK (iR1 (aCons (eN 4) aNil))) (gN 6) tYes' (eCallF 1 f_orders_all (aCons (eCallF 2 f_heaps_less (aCons (eN 3) (aCons (eN 6) aNil))) aNil)) [6]) aNil))))
  (sKl [4] (sSet 3 (eCallF 2 f_heaps_less (aCons (eN 3) (aCons (eN 4) aNil)))))))
noncomputable def m_heap_number : En → So :=
  (sSeq (sKl [1] (sSet 3 (eCall 2 f_heaps_of (aCons (eN 0) (aCons (eN 1) aNil)))))
  (sSeq (sIf (t1 (e2 notInD (eComp (iK (iR1 (aCons (eN 0) aNil))) (gN 4) tYes' (eMt tgL cntD (eCl listD (aCons (eN 2) aNil)) (aCons (eN 4) aNil)) [4]) (eN 3))) (sExc "NoElder") sNil)
  (sSeq (sSet 5 (eC (.int 0)))
  (sSeq (sKl [0, 2, 3, 4] (sFor (iL (eN 2)) (gN 4) m_heap_number_b0))
  (sRet (eN 5))))))
noncomputable def f_heap_number : List Slot → So := fnM 7 m_heap_number
noncomputable def m_heaped_b0 : En → So :=
  (sSeq (sSet 4 (eMt tgL cntD (eCl listD (aCons (eN 1) aNil)) (aCons (eN 3) aNil)))
  (sKl [3, 4] (sIf (t1 (e2 gtD (eN 4) (eC (.int 0)))) (sKl [3, 4] (sSet 2 (e2 addD (e2 addD (eN 2) (eCall 2 f_figures_of (aCons (eN 0) (aCons (eN 4) aNil)))) (eTup (aCons (eN 3) aNil))))) sNil)))
noncomputable def m_heaped : En → So :=
  (sSeq (sSet 2 (eTup aNil))
  (sSeq (sKl [0, 1, 3, 4] (sFor (iR1 (aCons (eN 0) aNil)) (gN 3) m_heaped_b0))
  (sRet (eN 2))))
noncomputable def f_heaped : List Slot → So := fnM 5 m_heaped
noncomputable def m__law_own_b0 : En → So :=
  (sKl [3] (sSet 2 (e2 addD (e2 mulD (eN 2) (eC (.int 2147483647))) (eCall 2 f__law_mixed (aCons (e2 addD (eN 0) (e2 mulD (eC (.int 1009)) (eN 1))) (aCons (eN 3) aNil))))))
noncomputable def m__law_own : En → So :=
  (sSeq (sSet 0 (e2 modD (eN 0) (e2 mulD (e2 powD (eC (.int 10)) (eC (.int 60))) (e2 powD (eC (.int 10)) (eC (.int 60))))))
  (sSeq (sIf (t1 (e2 geD (eN 0) (e2 powD (eC (.int 10)) (eC (.int 18))))) (sRet (eLst (aCons (eN 0) aNil))) sNil)
  (sSeq (sSet 2 (eC (.int 0)))
  (sSeq (sKl [0, 1, 3] (sFor (iR1 (aCons (eC (.int 12)) aNil)) (gN 3) m__law_own_b0))
  (sRet (eLst (aCons (eN 2) aNil)))))))
noncomputable def f__law_own : List Slot → So := fnM 4 m__law_own
noncomputable def m__law_row_h_b0 : En → So :=
  (sKl [4] (sIf (tOr' (t1 (e2 eqD (eN 5) (eLst aNil))) (t1 (e2 eqD (eCallR 2 0 f__law_take (aCons (eN 0) (aCons (eC (.int 2)) aNil))) (eC (.int 0))))) (sApp 5 (e2 ixD (eN 3) (eCallR 2 0 f__law_take (aCons (eN 0) (aCons (eCl lenD (aCons (eN 3) aNil)) aNil))))) (sApp 5 (e2 ixD (eN 5) (e1 negD (eC (.int 1)))))))
noncomputable def m__law_row_h : En → So :=
  (sSeq (sKl [1] (sSet 3 (eComp (iK (iR1 (aCons (e2 addD (eC (.int 1)) (eCallR 2 0 f__law_take (aCons (eN 0) (aCons (eC (.int 3)) aNil)))) aNil))) (gN 4) tYes' (eCallR 2 0 f__law_take (aCons (eN 0) (aCons (eN 1) aNil))) [4])))
  (sSeq (sSet 5 (eLst aNil))
  (sSeq (sKl [2, 3, 4] (sFor (iR1 (aCons (eCallR 2 0 f__law_take (aCons (eN 0) (aCons (e2 addD (eN 2) (eC (.int 1))) aNil))) aNil)) (gN 4) m__law_row_h_b0))
  (sRet (eCl tupleD (aCons (eN 5) aNil))))))
noncomputable def f__law_row_h : List Slot → So := fnM 6 m__law_row_h
noncomputable def m__law_figures_h_b0 : En → So :=
  (sSeq (sSet 2 (e2 addD (eTup (aCons (e2 modD (eN 1) (eN 0)) aNil)) (eN 2)))
  (sSet 1 (e2 fdivD (eN 1) (eN 0))))
noncomputable def m__law_figures_h_c1 : Mo Bool :=
  (t1 (e2 gtD (eN 1) (eC (.int 0))))
noncomputable def m__law_figures_h : En → So :=
  (sSeq (sSet 2 (eTup aNil))
  (sSeq (sKl [0, 1] (sWhile m__law_figures_h_c1 m__law_figures_h_b0))
  (sRet (eN 2))))
noncomputable def f__law_figures_h : List Slot → So := fnM 3 m__law_figures_h
noncomputable def m__law_heaped_b0 : En → So :=
  (sSeq (sSet 4 (eCl lenD (aCons (eComp (iN 1) (gN 5) (t1 (e2 eqD (eN 5) (eN 3))) (eN 5) [5]) aNil)))
  (sKl [3, 4] (sSet 2 (e2 addD (e2 addD (eN 2) (eCall 2 f__law_figures_h (aCons (eN 0) (aCons (eN 4) aNil)))) (eTup (aCons (eN 3) aNil))))))
noncomputable def m__law_heaped : En → So :=
  (sSeq (sSet 2 (eTup aNil))
  (sSeq (sKl [0, 1, 3, 4] (sFor (iL (e1 usetTD (eN 1))) (gN 3) m__law_heaped_b0))
  (sRet (eN 2))))
noncomputable def f__law_heaped : List Slot → So := fnM 6 m__law_heaped
noncomputable def m__law_signs : En → So :=
  (sSeq (sIf (tNot' (t1 (eIsi "tuple" (eN 0)))) (sRet (eC (.bool false))) sNil)
  (sRet (eCl allD (aCons (eComp (iN 0) (gN 2) tYes' (eAnd (eIsi "int" (eN 2)) (eAnd (eNot (eIsi "bool" (eN 2))) (eCh leD ltD (eC (.int 0)) (eN 2) (eN 1)))) [2]) aNil))))
noncomputable def f__law_signs : List Slot → So := fnM 3 m__law_signs
end Lb


namespace Lb
open PySem PySem.Spec PyProof.Rows L2 Mir
noncomputable def m_ring_of_b0 : En → So :=
  (sSeq (sApp 2 (eN 3))
  (sSet 3 (eCall 2 f_heaped (aCons (eN 0) (aCons (eN 3) aNil)))))
noncomputable def m_ring_of_c1 : Mo Bool :=
  (t1 (e2 notInD (eN 3) (eN 2)))
noncomputable def m_ring_of : En → So :=
  (sSeq (sSet 2 (eLst aNil))
  (sSeq (sKl [1] (sSet 3 (eCl tupleD (aCons (eN 1) aNil))))
  (sSeq (sKl [0] (sWhile m_ring_of_c1 m_ring_of_b0))
  (sSeq (sKl [3] (sSet 4 (eMt tgL idxD (eN 2) (aCons (eN 3) aNil))))
  (sRet (eTup (aCons (eSl slD (eN 2) pNo (pSome (eN 4))) (aCons (eSl slD (eN 2) (pSome (eN 4)) pNo) aNil))))))))
noncomputable def f_ring_of : List Slot → So := fnM 5 m_ring_of
noncomputable def m_row_text : En → So :=
  (sSeq (sIf (t1 (e2 eqD (eN 0) (eTup aNil))) (sRet (eC (.str "-"))) sNil)
  (sRet (e1 (joinD "") (eComp (iN 0) (gN 1) tYes' (eCl strD (aCons (eN 1) aNil)) [1]))))
noncomputable def f_row_text : List Slot → So := fnM 2 m_row_text
noncomputable def m_runs_text : En → So :=
  (sSeq (sIf (t1 (e2 eqD (eCl lenD (aCons (eN 0) aNil)) (eC (.int 0)))) (sRet (eC (.str "-"))) sNil)
  (sRet (e1 (joinD " ") (eComp (iN 0) (gT (gCons' (gN 1) (gCons' (gN 2) gNil'))) tYes' (e2 addD (e2 addD (eCl strD (aCons (eN 1) aNil)) (eC (.str "x"))) (eCl strD (aCons (eN 2) aNil))) [1, 2]))))
noncomputable def f_runs_text : List Slot → So := fnM 3 m_runs_text
noncomputable def m_read_row : En → So :=
  (sSeq (sIf (t1 (e2 eqD (eN 1) (eC (.str "-")))) (sRet (eTup aNil)) sNil)
  (sSeq (sKl [0] (sIf (tOr' (t1 (e2 eqD (eN 1) (eC (.str "")))) (tOr' (t1 (e2 gtD (eCl lenD (aCons (eN 1) aNil)) (eC (.int 40)))) (tNot' (t1 (eCl allD (aCons (eComp (iN 1) (gN 2) tYes' (e2 inD (eN 2) (eSl slD (eC (.str "0123456789")) pNo (pSome (eN 0)))) [2]) aNil)))))) (sExc "NoText") sNil))
  (sRet (eCl tupleD (aCons (eComp (iN 1) (gN 2) tYes' (eCl intD (aCons (eN 2) aNil)) [2]) aNil)))))
noncomputable def f_read_row : List Slot → So := fnM 3 m_read_row
noncomputable def m_number_in : En → So :=
  (sSeq (sIf (tOr' (t1 (e2 eqD (eN 0) (eC (.str "")))) (tOr' (t1 (e2 gtD (eCl lenD (aCons (eN 0) aNil)) (eC (.int 9)))) (tNot' (t1 (eCl allD (aCons (eComp (iN 0) (gN 2) tYes' (e2 inD (eN 2) (eC (.str "0123456789"))) [2]) aNil)))))) (sExc "NoLine") sNil)
  (sSeq (sKl [1] (sIf (tOr' (tAnd' (t1 (e2 eqD (e2 ixD (eN 0) (eC (.int 0))) (eC (.str "0")))) (t1 (e2 neD (eN 0) (eC (.str "0"))))) (t1 (e2 gtD (eCl intD (aCons (eN 0) aNil)) (eN 1)))) (sExc "NoLine") sNil))
  (sRet (eCl intD (aCons (eN 0) aNil)))))
noncomputable def f_number_in : List Slot → So := fnM 3 m_number_in
noncomputable def m_numbers_text : En → So :=
  (sRet (e1 (joinD " ") (eComp (iN 0) (gN 1) tYes' (eCl strD (aCons (eN 1) aNil)) [1])))
noncomputable def f_numbers_text : List Slot → So := fnM 2 m_numbers_text
noncomputable def m_line_in_t0 : En → So :=
  (sSeq (sKl [3] (sSet 4 (eComp (iK (iL (eSl slD (eN 1) (pSome (eC (.int 1))) (pSome (eC (.int 2)))))) (gN 5) tYes' (eCall 2 f_number_in (aCons (eN 5) (aCons (eN 3) aNil))) [5])))
  (sSeq (sKl [1] (sSet 4 (e2 addD (eN 4) (eComp (iK (iL (eSl slD (eN 1) (pSome (eC (.int 2))) pNo))) (gN 5) tYes' (eCall 2 f_number_in (aCons (eN 5) (aCons (e2 ixD (eLst (aCons (eC (.int 999999999)) (aCons (eC (.int 1)) aNil))) (eCl intD (aCons (e2 eqD (eN 2) (eC (.str "tongue"))) aNil))) aNil))) [5]))))
  (sSeq (sIf (tAnd' (t1 (e2 eqD (eN 2) (eC (.str "tongue")))) (t1 (e2 ltD (e2 ixD (eN 4) (eC (.int 0))) (eC (.int 2))))) (sExc "NoLine") sNil)
  (sRet (eTup (aCons (eN 2) (aCons (eN 4) aNil)))))))
noncomputable def m_line_in : En → So :=
  (sSeq (sKl [0] (sSet 1 (e1 (splD " ") (eN 0))))
  (sSeq (sSet 2 (e2 ixD (eN 1) (eC (.int 0))))
  (sSeq (sIf (tAnd' (t1 (e2 eqD (eCl lenD (aCons (eN 1) aNil)) (eC (.int 3)))) (t1 (e2 eqD (eSl slD (eN 1) pNo (pSome (eC (.int 2)))) (eLst (aCons (eC (.str "elder")) (aCons (eC (.str "of")) aNil)))))) (sRet (eTup (aCons (eC (.str "elder of")) (aCons (eLst (aCons (eCall 2 f_number_in (aCons (e2 ixD (eN 1) (eC (.int 2))) (aCons (eC (.int 999999999)) aNil))) aNil)) aNil)))) sNil)
  (sSeq (sIf (tOr' (t1 (e1 (snD [("tongue", 3), ("say", 1), ("turn", 1), ("elder", 2), ("back", 1), ("show", 1), ("runs", 1), ("elders", 1), ("sides", 2), ("pieces", 1), ("long", 2), ("signs", 2), ("sign", 3), ("grow", 2), ("rule", 1), ("ring", 1)]) (eN 2))) (t1 (e2 neD (eCl lenD (aCons (eN 1) aNil)) (e1 (sgD [("tongue", 3), ("say", 1), ("turn", 1), ("elder", 2), ("back", 1), ("show", 1), ("runs", 1), ("elders", 1), ("sides", 2), ("pieces", 1), ("long", 2), ("signs", 2), ("sign", 3), ("grow", 2), ("rule", 1), ("ring", 1)]) (eN 2))))) (sExc "NoLine") sNil)
  (sSeq (sSet 3 (eC (.int 999999999)))
  (sSeq (sIf (t1 (e2 inTD (eN 2) (eTup (aCons (eC (.str "long")) (aCons (eC (.str "signs")) (aCons (eC (.str "sign")) aNil)))))) (sSet 3 (eC (.int 300))) (sIf (t1 (e2 eqD (eN 2) (eC (.str "grow")))) (sSet 3 (eC (.int 40))) (sIf (t1 (e2 eqD (eN 2) (eC (.str "tongue")))) (sSet 3 (eC (.int 10))) sNil)))
  m_line_in_t0))))))
noncomputable def f_line_in : List Slot → So := fnM 6 m_line_in
noncomputable def m__law_text_b0 : En → So :=
  (sKl [2] (sSet 1 (e2 addD (eN 1) (e2 ixD (eC (.str "0123456789")) (eN 2)))))
noncomputable def m__law_text : En → So :=
  (sSeq (sIf (t1 (e2 eqD (eCl lenD (aCons (eN 0) aNil)) (eC (.int 0)))) (sRet (eC (.str "-"))) sNil)
  (sSeq (sSet 1 (eC (.str "")))
  (sSeq (sKl [0, 2] (sFor (iL (eN 0)) (gN 2) m__law_text_b0))
  (sRet (eN 1)))))
noncomputable def f__law_text : List Slot → So := fnM 3 m__law_text
noncomputable def m_Desk_tell_of : En → So :=
  (sSeq (sSet 3 (eFldT 0))
  (sSeq (sSet 4 (eFldK 0))
  (sSeq (sKl [5] (sIf (t1 (e2 eqD (eN 1) (eC (.str "sides")))) (sSeq (sKl [2, 3, 4] (sSet 5 (eCall 3 f_sides_of (aCons (eN 3) (aCons (eN 4) (aCons (e2 ixD (eN 2) (eC (.int 0))) aNil))))))
  (sSeq (sKl [5] (sIf (t1 (e2 eqD (e2 ixD (eN 5) (eC (.int 0))) (eC (.str "meet")))) (sRet (e2 addD (eC (.str "meet ")) (eCl strD (aCons (e2 ixD (eN 5) (eC (.int 1))) aNil)))) sNil))
  (sRet (eC (.str "never"))))) sNil))
  (sSeq (sIf (t1 (e2 eqD (eN 1) (eC (.str "long")))) (sRet (eCl strD (aCons (eCall 3 f_stuck (aCons (eN 3) (aCons (eN 4) (aCons (e2 ixD (eN 2) (eC (.int 0))) aNil)))) aNil))) sNil)
  (sSeq (sIf (t1 (e2 eqD (eN 1) (eC (.str "signs")))) (sRet (eCall 1 f_numbers_text (aCons (eCall 3 f_stuck (aCons (eN 3) (aCons (eN 4) (aCons (e2 ixD (eN 2) (eC (.int 0))) aNil)))) aNil))) sNil)
  (sSeq (sKl [1] (sIf (t1 (e2 eqD (eN 1) (eC (.str "sign")))) (sRet (eCl strD (aCons (eCall 4 f_stuck (aCons (eN 3) (aCons (eN 4) (aCons (e2 ixD (eN 2) (eC (.int 0))) (aCons (e2 ixD (eN 2) (eC (.int 1))) aNil))))) aNil))) sNil))
  (sSeq (sKl [2, 3, 4] (sAsg (gT (gCons' (gN 6) (gCons' (gN 7) gNil'))) (eCall 3 f_stuck (aCons (eN 3) (aCons (eN 4) (aCons (e2 ixD (eN 2) (eC (.int 0))) aNil))))))
  (sRet (e2 addD (e2 addD (eCall 1 f_stuck (aCons (eN 6) aNil)) (eC (.str " "))) (eCall 1 f_stuck (aCons (eN 7) aNil)))))))))))
noncomputable def f_Desk_tell_of : List Slot → So := fnM 8 m_Desk_tell_of
noncomputable def m_Desk_put : En → So :=
  (sSeq (sPApp 0)
  (sSeq (sKl [1] (sFldT 0 (eN 1)))
  (sSeq (sKl [2] (sFldK 0 (eN 2)))
  (sRet (eC (.str "ok"))))))
noncomputable def f_Desk_put : List Slot → So := fnM 3 m_Desk_put
noncomputable def m_Desk_deed_t0 : En → So :=
  (sSeq (sIf (t1 (e2 gtD (eCl lenD (aCons (eN 3) aNil)) (eC (.int 40)))) (sExc "TooLong") sNil)
  (sRet (eMeth 0 3 f_Desk_put (aCons (eFldT 0) (aCons (eN 3) aNil)))))
noncomputable def m_Desk_deed : En → So :=
  (sSeq (sSet 3 (eFldK 0))
  (sSeq (sIf (t1 (e2 eqD (eN 1) (eC (.str "back")))) (sSeq (sIf (tPEq 0) (sExc "NoPast") sNil)
  (sSeq (sPPop 0)
  (sRet (eC (.str "ok"))))) sNil)
  (sSeq (sIf (t1 (e2 eqD (eN 1) (eC (.str "tongue")))) (sSeq (sIf (tNot' (t1 (eCl allD (aCons (eComp (iN 3) (gN 4) tYes' (e2 ltD (eN 4) (e2 ixD (eN 2) (eC (.int 0)))) [4]) aNil)))) (sExc "NoSign") sNil)
  (sRet (eMeth 0 3 f_Desk_put (aCons (eTup (aCons (e2 ixD (eN 2) (eC (.int 0))) (aCons (e2 ixD (eN 2) (eC (.int 1))) aNil))) (aCons (eN 3) aNil))))) sNil)
  (sSeq (sIf (t1 (e2 eqD (eN 1) (eC (.str "turn")))) (sRet (eMeth 0 3 f_Desk_put (aCons (eFldT 0) (aCons (eCall 1 f_turned_about (aCons (eN 3) aNil)) aNil)))) sNil)
  (sSeq (sKl [1, 2, 5] (sIf (t1 (e2 eqD (eN 1) (eC (.str "say")))) (sSet 3 (eCall 2 f_said (aCons (eFldT 0) (aCons (eN 3) aNil)))) (sSeq (sKl [2, 3] (sSet 5 (eCall 3 f_elder_by (aCons (eFldT 0) (aCons (eN 3) (aCons (e2 ixD (eN 2) (eC (.int 0))) aNil))))))
  (sSeq (sIf (t1 (e2 gtD (eCl sumD (aCons (eComp (iN 5) (gT (gCons' (gN 6) (gCons' (gN 4) gNil'))) tYes' (eN 6) [6, 4]) aNil)) (eC (.int 40)))) (sExc "TooLong") sNil)
  (sKl [5] (sSet 3 (eCall 1 f_row_of (aCons (eN 5) aNil))))))))
  m_Desk_deed_t0)))))
noncomputable def f_Desk_deed : List Slot → So := fnM 7 m_Desk_deed
noncomputable def m_Desk_tell : En → So :=
  (sSeq (sSet 3 (eFldT 0))
  (sSeq (sSet 4 (eFldK 0))
  (sSeq (sIf (t1 (e2 eqD (eN 1) (eC (.str "show")))) (sRet (eCall 1 f_row_text (aCons (eN 4) aNil))) sNil)
  (sSeq (sIf (t1 (e2 eqD (eN 1) (eC (.str "runs")))) (sRet (eCall 1 f_runs_text (aCons (eCall 1 f_runs_of (aCons (eN 4) aNil)) aNil))) sNil)
  (sSeq (sIf (t1 (e2 eqD (eN 1) (eC (.str "elders")))) (sRet (eCl strD (aCons (eCall 2 f_elders_many (aCons (eN 3) (aCons (eN 4) aNil))) aNil))) sNil)
  (sSeq (sKl [2] (sIf (t1 (e2 eqD (eN 1) (eC (.str "elder of")))) (sRet (eCall 1 f_runs_text (aCons (eCall 3 f_elder_by (aCons (eN 3) (aCons (eN 4) (aCons (e2 ixD (eN 2) (eC (.int 0))) aNil)))) aNil))) sNil))
  (sSeq (sIf (t1 (e2 eqD (eN 1) (eC (.str "pieces")))) (sRet (eOrS (e1 (joinD " ") (eComp (iK (iL (eCall 2 f_pieces_of (aCons (eN 3) (aCons (eN 4) aNil))))) (gN 5) tYes' (eCall 1 f_row_text (aCons (eN 5) aNil)) [5])) (eC (.str "-")))) sNil)
  (sSeq (sKl [1] (sIf (t1 (e2 eqD (eN 1) (eC (.str "rule")))) (sRet (eCall 1 f_numbers_text (aCons (eCall 2 f_stuck (aCons (eN 3) (aCons (eN 4) aNil))) aNil))) sNil))
  (sSeq (sKl [3, 4] (sAsg (gT (gCons' (gN 6) (gCons' (gN 7) gNil'))) (eCall 2 f_ring_of (aCons (e2 ixD (eN 3) (eC (.int 0))) (aCons (eN 4) aNil)))))
  (sRet (eCall 1 f_numbers_text (aCons (eLst (aCons (eCl lenD (aCons (eN 6) aNil)) (aCons (eCl lenD (aCons (eN 7) aNil)) aNil))) aNil))))))))))))
noncomputable def f_Desk_tell : List Slot → So := fnM 8 m_Desk_tell
noncomputable def m_Desk_say : En → So :=
  (sSeq (sIf (tNot' (t1 (eIsi "str" (eN 1)))) (sExc "NoLine") sNil)
  (sSeq (sIf (t1 (e2 eqD (eSl slD (eN 1) pNo (pSome (eC (.int 4)))) (eC (.str "row ")))) (sRet (eMeth 0 3 f_Desk_put (aCons (eFldT 0) (aCons (eCall 2 f_read_row (aCons (e2 ixD (eFldT 0) (eC (.int 0))) (aCons (eSl slD (eN 1) (pSome (eC (.int 4))) pNo) aNil))) aNil)))) sNil)
  (sSeq (sKl [1] (sAsg (gT (gCons' (gN 2) (gCons' (gN 3) gNil'))) (eCall 1 f_line_in (aCons (eN 1) aNil))))
  (sSeq (sIf (t1 (e2 inTD (eN 2) (eTup (aCons (eC (.str "tongue")) (aCons (eC (.str "say")) (aCons (eC (.str "turn")) (aCons (eC (.str "elder")) (aCons (eC (.str "back")) aNil)))))))) (sRet (eMeth 0 3 f_Desk_deed (aCons (eN 2) (aCons (eN 3) aNil)))) sNil)
  (sSeq (sIf (tOr' (t1 (e2 eqD (eN 3) (eLst aNil))) (t1 (e2 eqD (eN 2) (eC (.str "elder of"))))) (sRet (eMeth 0 3 f_Desk_tell (aCons (eN 2) (aCons (eN 3) aNil)))) sNil)
  (sRet (eMeth 0 3 f_Desk_tell_of (aCons (eN 2) (aCons (eN 3) aNil)))))))))
noncomputable def f_Desk_say : List Slot → So := fnM 4 m_Desk_say
noncomputable def m__law_said : En → So :=
  (sSeq (sSet 2 (eC .none))
  (sSeq (sSet 3 (eC .none))
  (sSeq (sKl [1, 4] (sTry ["TongueError", "TooLong", "TooMany", "NoElder", "NoPlace", "NoSign", "NoText", "NoLine", "NoPast", "Empty"] "TongueError" 4 2 (sKl [1] (sSet 3 (eMeth 0 2 f_Desk_say (aCons (eN 1) aNil))))))
  (sSeq (sKl [3] (sIf (tIsN 2) (sRet (eN 3)) sNil))
  (sSeq (sSet 5 (eLst (aCons (eIsx ["TongueError", "TooLong", "TooMany", "NoElder", "NoPlace", "NoSign", "NoText", "NoLine", "NoPast", "Empty"] "NoLine" 2) (aCons (eIsx ["TongueError", "TooLong", "TooMany", "NoElder", "NoPlace", "NoSign", "NoText", "NoLine", "NoPast", "Empty"] "NoText" 2) (aCons (eIsx ["TongueError", "TooLong", "TooMany", "NoElder", "NoPlace", "NoSign", "NoText", "NoLine", "NoPast", "Empty"] "NoSign" 2) aNil)))))
  (sSeq (sSet 5 (e2 addD (eN 5) (eLst (aCons (eIsx ["TongueError", "TooLong", "TooMany", "NoElder", "NoPlace", "NoSign", "NoText", "NoLine", "NoPast", "Empty"] "NoElder" 2) (aCons (eIsx ["TongueError", "TooLong", "TooMany", "NoElder", "NoPlace", "NoSign", "NoText", "NoLine", "NoPast", "Empty"] "TooLong" 2) (aCons (eIsx ["TongueError", "TooLong", "TooMany", "NoElder", "NoPlace", "NoSign", "NoText", "NoLine", "NoPast", "Empty"] "NoPast" 2) aNil))))))
  (sSeq (sKl [2] (sSet 5 (e2 addD (eN 5) (eLst (aCons (eIsx ["TongueError", "TooLong", "TooMany", "NoElder", "NoPlace", "NoSign", "NoText", "NoLine", "NoPast", "Empty"] "NoPlace" 2) (aCons (eIsx ["TongueError", "TooLong", "TooMany", "NoElder", "NoPlace", "NoSign", "NoText", "NoLine", "NoPast", "Empty"] "TooMany" 2) (aCons (eIsx ["TongueError", "TooLong", "TooMany", "NoElder", "NoPlace", "NoSign", "NoText", "NoLine", "NoPast", "Empty"] "Empty" 2) (aCons (eC (.bool true)) aNil))))))))
  (sSeq (sSet 6 (eLst (aCons (eC (.str "line")) (aCons (eC (.str "text")) (aCons (eC (.str "sign")) (aCons (eC (.str "elder")) (aCons (eC (.str "long")) (aCons (eC (.str "past")) (aCons (eC (.str "place")) (aCons (eC (.str "many")) (aCons (eC (.str "empty")) (aCons (eC (.str "odd")) aNil))))))))))))
  (sRet (e2 addD (eC (.str "!")) (e2 ixD (eN 6) (eMt tgL idxD (eN 5) (aCons (eC (.bool true)) aNil)))))))))))))
noncomputable def f__law_said : List Slot → So := fnM 7 m__law_said
end Lb


set_option maxHeartbeats 1000000
namespace Lb
open PySem PySem.Spec PyProof.Rows L2 Mir
theorem lt_e : (Str.ofString "" : Str) = codeT [] := by decide +kernel
def rowC (xs : List Int) : List Nat := if xs = [] then [45] else xs.map fun x => 48 + x.toNat
/-! runs -/
def rtC (r : Int × Int) : List Nat := TL.numL r.1.toNat ++ [120] ++ TL.numL r.2.toNat
def RokT (L : List (Int × Int)) : Prop := ∀ r ∈ L, (0 ≤ r.1 ∧ r.1 < 2 ^ 200) ∧ 0 ≤ r.2 ∧ r.2 < 10
theorem p2 {n : Int} (h0 : 0 ≤ n) (h : n < 2 ^ 200) : n.toNat < 2 ^ 1000 := by
  have h1 : n.toNat < 2 ^ 200 := by omega
  exact Nat.lt_of_lt_of_le h1 (Nat.pow_le_pow_right (by decide) (by decide))
/-! single signs among the figures -/
def dg (g c : Nat) : Bool := decide (c ∈ (List.range g).map (48 + ·))
def chD (c : Nat) : PyData := .str (codeT [c])
def valL (l : List Nat) : List Int := l.map fun c : Nat => (c : Int) - 48
def dueO (g : Nat) (l : List Nat) : Option (List Int) := if l = [45] then some [] else if l ≠ [] ∧ l.length ≤ 40 ∧ l.all (dg g) = true then some (valL l) else none
def ot : Option (List Int) → PyData
  | none => .none
  | some v => .tuple (dints v)
theorem ix_code {a : List Nat} (h : a.length ≤ 16777216) {k : Nat} (hk : k < a.length) : ixD (.str (codeT a)) (.int (k : Int)) = some (.imm (.str (codeT [a[k]]))) := by
  have hc : (codeT a).length ≤ sizeLine := by rw [codeT_len, sizeLine_eq]; exact h
  show @ite _ ((codeT a).length ≤ sizeLine) (Classical.propDecidable _) ((atI (codeT a).cps.toList (k : Int)).map fun c => Hd.imm (.str ⟨#[c]⟩)) none = _
  rw [if_pos hc]
  have e : (codeT a).cps.toList = a := rfl
  rw [e, atI_nn hk, List.getElem?_eq_getElem hk]
  rfl
end Lb


set_option maxHeartbeats 1000000
namespace Lb
open PySem PySem.Spec PyProof.Rows L2 Mir
/-! rows as data -/
abbrev tupI (r : List Int) : PyData := .tuple (dints r)
theorem Gbool : Good PyData.bool 2 := ⟨fun _ => rfl, fun _ => by simp [PyData.depth], fun a b => by cases a <;> cases b <;> decide⟩
abbrev knD (k : List Int × Bool) : PyData := .tuple [.tuple (dints k.1), .bool k.2]
end Lb


set_option maxHeartbeats 1000000
namespace L_k06
open PySem PySem.Spec PyProof.Rows L2 Mir Lb
/-! k06: errors raised and caught -/
abbrev LX : List Str := ["TongueError", "TooLong", "TooMany", "NoElder", "NoPlace", "NoSign", "NoText", "NoLine", "NoPast", "Empty"]
def isvK (L : List Str) (o : Option Slot) (ρ : En) : Rs Hd := match o with
  | some (.exn c) => if c ∈ L then .ok (.imm (.bool true)) ρ else .stuck
  | _ => .stuck
theorem isv_a {L : List Str} {j : Nat} {ρ : En} : eIsxV L j ρ = isvK L ρ[j]? ρ := id rfl
theorem isvK_x {L : List Str} {c : Str} {ρ : En} (h : c ∈ L) : isvK L (some (.exn c)) ρ = .ok (.imm (.bool true)) ρ := if_pos h
/-- what _law_kinds tells -/
def KB (c : Str) : List Bool := [excSub c "TooLong", excSub c "TooMany", excSub c "NoElder", excSub c "NoPlace", excSub c "NoSign", excSub c "NoText", excSub c "NoLine", excSub c "NoPast", excSub c "Empty", excSub c "TongueError", true]
theorem keepA_exn {c : Str} {s : Slot} {as : List Slot} {ρ : En} : keepA (.exn c :: as) (s :: ρ) = (keepA as ρ).map (.unset :: ·) := id rfl
theorem kinds_eq {c : Str} (hc : c ∈ LX) : f__law_kinds [.exn c] = .rt (.fresh ((KB c).map .bool)) [.unset] := by
  have ix : ∀ T ρ, isxK LX T (some (.exn c)) ρ = .ok (.imm (.bool (excSub c T))) ρ := fun T ρ => isxK_x hc
  have iv : ∀ ρ, isvK LX (some (.exn c)) ρ = .ok (.imm (.bool true)) ρ := fun ρ => isvK_x hc
  unfold KB
  simp! [f__law_kinds_a, m__law_kinds_a, ix, isv_a, iv, keepA_exn]
def eCallEK (m : List Slot → So) (o : Option Slot) (ρ : En) : Rs Hd := match o with
  | some (.exn c) => (match m [.exn c] with
    | .rt h _ => if cleanH ([] : List Nat).isEmpty h = true then .ok h ρ else .stuck
    | .exc c _ => .exc c ρ
    | _ => .stuck)
  | _ => .stuck
theorem eCallE_a {m : List Slot → So} {j : Nat} {ρ : En} : eCallE m j ρ = eCallEK m ρ[j]? ρ := id rfl
theorem kindsK {c : Str} (hc : c ∈ LX) (ρ : En) : eCallEK f__law_kinds (some (.exn c)) ρ = .ok (.fresh ((KB c).map .bool)) ρ := by
  have e := kinds_eq hc
  change (match f__law_kinds [.exn c] with
    | .rt h _ => if cleanH ([] : List Nat).isEmpty h = true then Rs.ok h ρ else .stuck
    | .exc c _ => .exc c ρ
    | _ => .stuck) = _
  rw [e]
  rfl
def nm : Nat → Str
  | 0 => "TooLong"
  | 1 => "TooMany"
  | 2 => "NoElder"
  | 3 => "NoPlace"
  | 4 => "NoSign"
  | 5 => "NoText"
  | 6 => "NoLine"
  | 7 => "NoPast"
  | _ => "Empty"
theorem nm_ok : ∀ n, n < 9 → nm n ∈ LX ∧ excSub (nm n) "TongueError" = true ∧ KB (nm n) = (List.range 9).map (fun j : Nat => decide ((j : Int) = (n : Int))) ++ [true, true] := by decide +kernel
theorem raised_eq (t : PyData) {n : Nat} (hn : n < 9) : f__law_raised [.val (.int (n : Nat)), .val t] = .rt (.fresh ((KB (nm n)).map .bool)) [.unset, .unset] := by
  obtain ⟨h1, h2, _⟩ := nm_ok n hn
  have ck := kindsK h1
  have tg := fun i g ρ => tryG_ex (i := i) (g := g) (ρ := ρ) h1 h2
  have tc : ∀ (f g : En → So) (ρ ρ1 : En), f ρ = .exc (nm n) ρ1 → 3 < ρ1.length → sTryS LX "TongueError" 3 f g ρ = tryE 3 (g (ρ1.set 3 (.exn (nm n)))) := fun f g ρ ρ1 hf hl => by
    rw [sTryS_a, hf, tryG_ex h1 h2, if_pos hl]
  generalize hK : (KB (nm n)).map PyData.bool = KK at *
  have : n = 0 ∨ n = 1 ∨ n = 2 ∨ n = 3 ∨ n = 4 ∨ n = 5 ∨ n = 6 ∨ n = 7 ∨ n = 8 := by omega
  rcases this with rfl | rfl | rfl | rfl | rfl | rfl | rfl | rfl | rfl <;> (simp only [nm] at h1 h2 ck; simp! [f__law_raised_a, m__law_raised_a, sTryS_a, tryG_ex h1 h2, tryE_nx, sExcT_a, rsT_o, eCallE_a, ck])
theorem base_eq (t : PyData) : f__law_base [.val t] = .rt (.fresh ((KB "TongueError").map .bool)) [.unset] := by
  have h1 : ("TongueError" : Str) ∈ LX := by decide
  have h2 : excSub "TongueError" "TongueError" = true := by decide +kernel
  have ck := kindsK h1
  generalize hK : (KB "TongueError").map PyData.bool = KK at *
  simp! [f__law_base_a, m__law_base_a, sTryS_a, tryG_ex h1 h2, tryE_nx, sExcT_a, rsT_o, eCallE_a, ck]
theorem long_eq {c : Int} (hc : 3000 ≤ c) (hc2 : c < 10 ^ 19) : f__law_long [.val (.int c)] = .rt (.fresh ((KB "TooLong").map .bool)) [.unset] := by
  have h1 : ("TooLong" : Str) ∈ LX := by decide
  have h2 : excSub "TooLong" "TongueError" = true := by decide +kernel
  have ck := kindsK h1
  obtain ⟨n, rfl⟩ : ∃ n : Nat, c = (n : Int) := ⟨c.toNat, by omega⟩
  have ro := row_eq (R := [(1, 0), (n, 1)]) (by simp) (.list [.tuple [.int 1, .int 0], .tuple [.int (n : Nat), .int 1]]) cs (.inl fun _ => rfl) rfl
  rw [if_pos (by show 3000 < 1 + (n + 0); omega)] at ro
  generalize hK : (KB "TooLong").map PyData.bool = KK at *
  simp! [f__law_long_a, m__law_long_a, sTryS_a, tryG_ex h1 h2, tryE_nx, eCallE_a, ck, ro]
theorem neB (a c : List Bool) (h : a = c) (ha : a.length ≤ 60) : neD (.list (a.map .bool)) (.list (c.map .bool)) = some (.imm (.bool false)) := by
  have := Gbool.lst.neD (by decide) a c
  rw [decide_eq_true h] at this
  exact this
theorem b0_eq (S : Slot) (st : Slot) (t : PyData) {n : Nat} (hn : n < 9) : m_law_b0 [S, .unset, .unset, st, .val t, .unset, .val (.int (n : Nat))] = .nx [S, .unset, .unset, st, .val t, .unset, .unset] := by
  have ra := raised_eq t hn
  obtain ⟨_, _, e⟩ := nm_ok n hn
  have ne := neB _ _ e (show 11 ≤ 60 by decide)
  have cm := comp1 (src := none) (all := (List.range 9).map fun j : Nat => PyData.int (j : Int)) (e := e2 eqD (eN 5) (eN 6)) (v := 5) (fun j : Nat => PyData.int (j : Int)) (fun j : Nat => .bool (decide ((j : Int) = (n : Int)))) (fun z => [S, .unset, .unset, st, .val t, z, .val (.int (n : Nat))]) trivial (fun _ => rfl) (fun _ => rfl) (List.range 9) (by decide) (fun j hj => by
    have q := eqD_int (j : Int) (n : Int)
    generalize (j : Int) = jj at *
    generalize (n : Int) = nn at *
    simp! [q])
  have er : rng 0 9 = (List.range 9).map fun j : Nat => PyData.int (j : Int) := by
    unfold rng
    exact List.map_congr_left fun i _ => by rw [Int.zero_add]
  rw [List.map_append, List.map_map] at ne
  change neD _ (.list ((List.range 9).map (fun j : Nat => PyData.bool (decide ((j : Int) = (n : Int)))) ++ [.bool true, .bool true])) = _ at ne
  rw [← er] at cm
  have hl : ((List.range 9).map (fun j : Nat => PyData.bool (decide ((j : Int) = (n : Int))))).length = 9 := by simp
  generalize (List.range 9).map (fun j : Nat => PyData.bool (decide ((j : Int) = (n : Int)))) = BB at *
  generalize (KB (nm n)).map PyData.bool = KK at *
  generalize (n : Int) = nn at *
  simp! [m_law_b0_a, ra, cm, ne]
theorem text_ex (S : Slot) (s : Int) (n : Nat) (hn : n ≤ 8) : ∃ (l : List Nat) (s' : Int), compL none (rng 0 n) (gN 5) tYes' (e2 ixD (eC (.str (Str.ofString "az -09"))) (eCallR 2 0 f__law_take (aCons (eN 3) (aCons (eC (.int 6)) aNil)))) [5] (rng 0 n) [] [S, .unset, .unset, .own [.int s], .unset, .unset, .unset] = .ok (l.map fun c => .str (codeT [c])) [S, .unset, .unset, .own [.int s'], .unset, .unset, .unset] ∧ l.length = n := by
  obtain ⟨acc, ρ', q, l, s', rfl, rfl, hl⟩ := compL_inv (src := none) (all := rng 0 n) (tf := gN 5) (e := e2 ixD (eC (.str (Str.ofString "az -09"))) (eCallR 2 0 f__law_take (aCons (eN 3) (aCons (eC (.int 6)) aNil)))) (vs := [5]) (fun i acc ρ => ∃ (l : List Nat) (s' : Int), acc = l.map (fun c => .str (codeT [c])) ∧ ρ = [S, .unset, .unset, .own [.int s'], .unset, .unset, .unset] ∧ l.length = i) (fun _ _ _ _ => trivial) (rng 0 n) [] 0 [S, .unset, .unset, .own [.int s], .unset, .unset, .unset] ⟨[], s, rfl, rfl, rfl⟩ (by
    rintro i d acc ρ hd ⟨l, s', rfl, rfl, hl⟩
    have tk := take_eq s' 6 (by decide) (by decide)
    obtain ⟨j, hj, ej⟩ : ∃ j : Nat, j < 6 ∧ s' % 6 = (j : Int) := ⟨(s' % 6).toNat, by omega, by omega⟩
    rw [ej] at tk
    have ix := ix_code (a := [97, 122, 32, 45, 48, 57]) (by decide) (k := j) (by simpa using hj)
    have lt : (Str.ofString "az -09" : Str) = codeT [97, 122, 32, 45, 48, 57] := by decide +kernel
    rw [← lt] at ix
    refine ⟨_, [S, .unset, .unset, .own [.int (s' / 6)], .unset, .val d, .unset], .imm (.str (codeT [([97, 122, 32, 45, 48, 57] : List Nat)[j]'(by simpa using hj)])), .str (codeT [([97, 122, 32, 45, 48, 57] : List Nat)[j]'(by simpa using hj)]), [S, .unset, .unset, .own [.int (s' / 6)], .unset, .val d, .unset], rfl, ?_, rfl, l ++ [_], s' / 6, by rw [List.map_append]; rfl, rfl, by rw [List.length_append, hl]; rfl⟩
    generalize ([97, 122, 32, 45, 48, 57] : List Nat)[j]'(by simpa using hj) = ch at *
    generalize (j : Int) = jj at *
    simp! [tk, ix]) (by simp [rng]; omega)
  rw [rng_length] at hl
  exact ⟨l, s', q, by omega⟩
theorem b1_eq (S : Slot) (c k : Int) (hk : 0 ≤ k) (hk' : k < 1000) : m_law_b1 [S, .val (.int k), .val (.int c), .unset, .unset, .unset, .unset] = .nx [S, .unset, .unset, .unset, .unset, .unset, .unset] := by
  obtain ⟨s, e0⟩ := stream_eq c k hk hk'
  have t1 := take_eq s 9 (by decide) (by decide)
  obtain ⟨n, hn, en⟩ : ∃ n : Nat, n ≤ 8 ∧ s % 9 = (n : Int) := ⟨(s % 9).toNat, by omega, by omega⟩
  rw [en] at t1
  generalize s / 9 = s1 at *
  obtain ⟨l, s2, cm, hl⟩ := text_ex S s1 n hn
  have jd := joinD_st [] (l.map fun c => [c]) (by
    have : ∀ l : List Nat, (((l.map fun c => [c]).map List.length).sum) = l.length := by
      intro l
      induction l with
      | nil => rfl
      | cons a l ih => rw [List.map_cons, List.map_cons, List.sum_cons, ih]; simp; omega
    rw [this]
    simp
    omega)
  rw [List.map_map] at jd
  change joinD (codeT []) (.list (l.map fun c => .str (codeT [c]))) = some (.imm (.str (codeT (TL.joinL [] (l.map fun c => [c]))))) at jd
  generalize (l.map fun c => PyData.str (codeT [c])) = TT at *
  generalize codeT (TL.joinL [] (l.map fun c => [c])) = tx at *
  have lp := fun st => forL_rng (tf := gN 6) (b := m_law_b0) 0 9 (fun _ => [S, .unset, .unset, st, .val (.str tx), .unset, .unset]) (fun i hi => ⟨_, rfl, .inl (by
    have := b0_eq S st (.str tx) hi
    rw [Int.zero_add]
    exact this)⟩)
  have ba := base_eq (.str tx)
  have k0 : KB "TongueError" = List.replicate 9 false ++ [true, true] := by decide +kernel
  have n0 := neB _ _ k0 (show 11 ≤ 60 by decide)
  have t2 := take_eq s2 (10 ^ 18) (by decide) (by decide)
  have lg := long_eq (c := 3000 + s2 % 10 ^ 18) (by omega) (by omega)
  have k1 : KB "TooLong" = [true] ++ List.replicate 8 false ++ [true, true] := by decide +kernel
  have n1 := neB _ _ k1 (show 11 ≤ 60 by decide)
  have pw : powD (.int 10) (.int 18) = some (.imm (.int (10 ^ 18))) := powD_10 18 (by decide)
  have m9 : mulD (.list [.bool false]) (.int 9) = some (.fresh ((List.replicate 9 false).map .bool)) := by
    show (@ite _ _ (Classical.propDecidable _) _ _) = _
    rw [if_pos (by decide)]
    rfl
  have m8 : mulD (.list [.bool false]) (.int 8) = some (.fresh ((List.replicate 8 false).map .bool)) := by
    show (@ite _ _ (Classical.propDecidable _) _ _) = _
    rw [if_pos (by decide)]
    rfl
  rw [List.map_append] at n0 n1
  rw [List.map_append] at n1
  change neD _ (.list (_ ++ [.bool true, .bool true])) = _ at n0
  change neD _ (.list (.bool true :: ((List.replicate 8 false).map PyData.bool ++ [.bool true, .bool true]))) = _ at n1
  have l9 : ((List.replicate 9 false).map PyData.bool).length = 9 := by simp
  have l8 : ((List.replicate 8 false).map PyData.bool).length = 8 := by simp
  generalize (List.replicate 9 false).map PyData.bool = R9 at *
  generalize (List.replicate 8 false).map PyData.bool = R8 at *
  generalize (KB "TongueError").map PyData.bool = K0 at *
  generalize (KB "TooLong").map PyData.bool = K1 at *
  generalize (10 : Int) ^ 18 = TE at *
  have nb : ((n : Nat) : Int) ≤ 8 := by omega
  have na : (0 : Int) ≤ ((n : Nat) : Int) := by omega
  have tn : ((n : Nat) : Int).toNat = n := Int.toNat_natCast n
  generalize ((n : Nat) : Int) = nn at *
  simp! [m_law_b1_a, e0, t1, tn, cm, lt_e, jd, lp, ba, m9, n0, pw, t2, lg, m8, n1]
theorem law_true (ns : List Int) (hn : ns.length ≤ 63) : ∃ as, f_law [.val (.list (ns.map .int))] = .rt (.imm (.bool true)) as := by
  obtain ⟨ρ', lp, rfl⟩ := for_inv (tf := gT (gCons' (gN 1) (gCons' (gN 2) gNil'))) (b := m_law_b1) (ds := enumD (dints (ns ++ [(ns.length : Int)]))) (ρ := [.val (.list (ns.map .int)), .unset, .unset, .unset, .unset, .unset, .unset])
    (fun i ρ => ρ = [.val (.list (ns.map .int)), .unset, .unset, .unset, .unset, .unset, .unset]) rfl (by
      rintro i d ρ hd rfl
      obtain ⟨y, hy, rfl⟩ := enum_get hd
      obtain ⟨z, hz, rfl⟩ := map_get hy
      have hi := (List.getElem?_eq_some_iff.mp hz).1
      have hi2 : i < 64 := by
        simp only [List.length_append, List.length_cons, List.length_nil] at hi
        omega
      exact ⟨_, _, rfl, .inl (b1_eq (.val (.list (ns.map .int))) z (i : Int) (by omega) (by omega)), rfl⟩)
  refine ⟨[.unset], ?_⟩
  have el : dints (ns ++ [(ns.length : Int)]) = ns.map PyData.int ++ [.int ns.length] := by simp [dints]
  rw [el] at lp
  have hl : (ns.map PyData.int).length ≤ 63 := by rw [List.length_map]; exact hn
  simp! [f_law_a, m_law_a, lp]
end L_k06


set_option maxHeartbeats 8000000
namespace L_k06
open PySem PySem.Spec PyProof.Rows L2 Mir Lb
theorem all_mk {l : PySem.W.OpenLaw} {w : World} {K : PySem.W.Frag} {h : Heap} {mg : Str → Option Value} {fa : Addr} (X : K.In h) (G : h.Ns mainGlobals mg) (hfa : mg "law" = some (.ref fa)) {f0 : Addr} {od0 an0 : Option Addr} {sl0 : Array (Option Value)} {oc0 kV0 dc0 pm0 cd0 ct0 : Value} {f1 : Addr} {od1 an1 : Option Addr} {sl1 : Array (Option Value)} {oc1 kV1 dc1 pm1 cd1 ct1 : Value} {f2 : Addr} {od2 an2 : Option Addr} {sl2 : Array (Option Value)} {oc2 kV2 dc2 pm2 cd2 ct2 : Value} {f3 : Addr} {od3 an3 : Option Addr} {sl3 : Array (Option Value)} {oc3 kV3 dc3 pm3 cd3 ct3 : Value} {f4 : Addr} {od4 an4 : Option Addr} {sl4 : Array (Option Value)} {oc4 kV4 dc4 pm4 cd4 ct4 : Value} {f5 : Addr} {od5 an5 : Option Addr} {sl5 : Array (Option Value)} {oc5 kV5 dc5 pm5 cd5 ct5 : Value} {f6 : Addr} {od6 an6 : Option Addr} {sl6 : Array (Option Value)} {oc6 kV6 dc6 pm6 cd6 ct6 : Value} {f7 : Addr} {od7 an7 : Option Addr} {sl7 : Array (Option Value)} {oc7 kV7 dc7 pm7 cd7 ct7 : Value} {f8 : Addr} {od8 an8 : Option Addr} {sl8 : Array (Option Value)} {oc8 kV8 dc8 pm8 cd8 ct8 : Value} {t_MOST_SIGNS : Tok} {C_TooLong : Addr} {C_TooMany : Addr} {C_NoElder : Addr} {C_NoPlace : Addr} {C_NoSign : Addr} {C_NoText : Addr} {C_NoLine : Addr} {C_NoPast : Addr} {C_Empty : Addr} {C_TongueError : Addr}
    (a0 : PySem.W.nsIn K mainGlobals "row_of" = some (some (.ref f0))) (l0 : K.lookup f0 = some ⟨oc0, od0, .func (PySem.W.fnOf "row_of" "row_of" (defArgs (topS 13)) (defBody (topS 13)) (defScope (topS 13)) .none kV0 dc0 pm0 an0 cd0 ct0), sl0⟩) (c0 : PySem.W.codeIn K cd0 "row_of" = true) (k0 : PySem.W.keepIn K (.ref f0) = true)
    (a1 : PySem.W.nsIn K mainGlobals "_law_mixed" = some (some (.ref f1))) (l1 : K.lookup f1 = some ⟨oc1, od1, .func (PySem.W.fnOf "_law_mixed" "_law_mixed" (defArgs (topS 15)) (defBody (topS 15)) (defScope (topS 15)) .none kV1 dc1 pm1 an1 cd1 ct1), sl1⟩) (c1 : PySem.W.codeIn K cd1 "_law_mixed" = true) (k1 : PySem.W.keepIn K (.ref f1) = true)
    (a2 : PySem.W.nsIn K mainGlobals "_law_stream" = some (some (.ref f2))) (l2 : K.lookup f2 = some ⟨oc2, od2, .func (PySem.W.fnOf "_law_stream" "_law_stream" (defArgs (topS 16)) (defBody (topS 16)) (defScope (topS 16)) .none kV2 dc2 pm2 an2 cd2 ct2), sl2⟩) (c2 : PySem.W.codeIn K cd2 "_law_stream" = true) (k2 : PySem.W.keepIn K (.ref f2) = true)
    (a3 : PySem.W.nsIn K mainGlobals "_law_take" = some (some (.ref f3))) (l3 : K.lookup f3 = some ⟨oc3, od3, .func (PySem.W.fnOf "_law_take" "_law_take" (defArgs (topS 17)) (defBody (topS 17)) (defScope (topS 17)) .none kV3 dc3 pm3 an3 cd3 ct3), sl3⟩) (c3 : PySem.W.codeIn K cd3 "_law_take" = true) (k3 : PySem.W.keepIn K (.ref f3) = true)
    (a4 : PySem.W.nsIn K mainGlobals "_law_kinds" = some (some (.ref f4))) (l4 : K.lookup f4 = some ⟨oc4, od4, .func (PySem.W.fnOf "_law_kinds" "_law_kinds" (defArgs (topS 18)) (defBody (topS 18)) (defScope (topS 18)) .none kV4 dc4 pm4 an4 cd4 ct4), sl4⟩) (c4 : PySem.W.codeIn K cd4 "_law_kinds" = true) (k4 : PySem.W.keepIn K (.ref f4) = true)
    (a5 : PySem.W.nsIn K mainGlobals "_law_raised" = some (some (.ref f5))) (l5 : K.lookup f5 = some ⟨oc5, od5, .func (PySem.W.fnOf "_law_raised" "_law_raised" (defArgs (topS 19)) (defBody (topS 19)) (defScope (topS 19)) .none kV5 dc5 pm5 an5 cd5 ct5), sl5⟩) (c5 : PySem.W.codeIn K cd5 "_law_raised" = true) (k5 : PySem.W.keepIn K (.ref f5) = true)
    (a6 : PySem.W.nsIn K mainGlobals "_law_base" = some (some (.ref f6))) (l6 : K.lookup f6 = some ⟨oc6, od6, .func (PySem.W.fnOf "_law_base" "_law_base" (defArgs (topS 20)) (defBody (topS 20)) (defScope (topS 20)) .none kV6 dc6 pm6 an6 cd6 ct6), sl6⟩) (c6 : PySem.W.codeIn K cd6 "_law_base" = true) (k6 : PySem.W.keepIn K (.ref f6) = true)
    (a7 : PySem.W.nsIn K mainGlobals "_law_long" = some (some (.ref f7))) (l7 : K.lookup f7 = some ⟨oc7, od7, .func (PySem.W.fnOf "_law_long" "_law_long" (defArgs (topS 21)) (defBody (topS 21)) (defScope (topS 21)) .none kV7 dc7 pm7 an7 cd7 ct7), sl7⟩) (c7 : PySem.W.codeIn K cd7 "_law_long" = true) (k7 : PySem.W.keepIn K (.ref f7) = true)
    (a8 : PySem.W.nsIn K mainGlobals "law" = some (some (.ref f8))) (l8 : K.lookup f8 = some ⟨oc8, od8, .func (PySem.W.fnOf "law" "law" (defArgs (topS 22)) (defBody (topS 22)) (defScope (topS 22)) .none kV8 dc8 pm8 an8 cd8 ct8), sl8⟩) (c8 : PySem.W.codeIn K cd8 "law" = true) (k8 : PySem.W.keepIn K (.ref f8) = true)
    (z_sum : PySem.W.nsIn K mainGlobals "sum" = some none)
    (z_tuple : PySem.W.nsIn K mainGlobals "tuple" = some none)
    (z_range : PySem.W.nsIn K mainGlobals "range" = some none)
    (z_isinstance : PySem.W.nsIn K mainGlobals "isinstance" = some none)
    (z_ValueError : PySem.W.nsIn K mainGlobals "ValueError" = some none)
    (z_len : PySem.W.nsIn K mainGlobals "len" = some none)
    (z_enumerate : PySem.W.nsIn K mainGlobals "enumerate" = some none)
    (y_MOST_SIGNS : PySem.W.nsIn K mainGlobals "MOST_SIGNS" = some (some (.int 3000 t_MOST_SIGNS)))
    (xa_TooLong : PySem.W.nsIn K mainGlobals "TooLong" = some (some (.ref C_TooLong))) (xe_TooLong : PySem.W.excIn K C_TooLong [.type "ValueError", .type "Exception", .type "BaseException", .type "object"] "ValueError.__new__" = true) (xk_TooLong : PySem.W.keepIn K (.ref C_TooLong) = true) (xb_TooLong : PySem.W.subIn K (.ref C_TooLong) (.type "BaseException") = some true) (xt_TooLong : PySem.W.typeIn K (.ref C_TooLong) = some (.type "type"))
    (xa_TooMany : PySem.W.nsIn K mainGlobals "TooMany" = some (some (.ref C_TooMany))) (xe_TooMany : PySem.W.excIn K C_TooMany [.type "ValueError", .type "Exception", .type "BaseException", .type "object"] "ValueError.__new__" = true) (xk_TooMany : PySem.W.keepIn K (.ref C_TooMany) = true) (xb_TooMany : PySem.W.subIn K (.ref C_TooMany) (.type "BaseException") = some true) (xt_TooMany : PySem.W.typeIn K (.ref C_TooMany) = some (.type "type"))
    (xa_NoElder : PySem.W.nsIn K mainGlobals "NoElder" = some (some (.ref C_NoElder))) (xe_NoElder : PySem.W.excIn K C_NoElder [.type "ValueError", .type "Exception", .type "BaseException", .type "object"] "ValueError.__new__" = true) (xk_NoElder : PySem.W.keepIn K (.ref C_NoElder) = true) (xb_NoElder : PySem.W.subIn K (.ref C_NoElder) (.type "BaseException") = some true) (xt_NoElder : PySem.W.typeIn K (.ref C_NoElder) = some (.type "type"))
    (xa_NoPlace : PySem.W.nsIn K mainGlobals "NoPlace" = some (some (.ref C_NoPlace))) (xe_NoPlace : PySem.W.excIn K C_NoPlace [.type "ValueError", .type "Exception", .type "BaseException", .type "object"] "ValueError.__new__" = true) (xk_NoPlace : PySem.W.keepIn K (.ref C_NoPlace) = true) (xb_NoPlace : PySem.W.subIn K (.ref C_NoPlace) (.type "BaseException") = some true) (xt_NoPlace : PySem.W.typeIn K (.ref C_NoPlace) = some (.type "type"))
    (xa_NoSign : PySem.W.nsIn K mainGlobals "NoSign" = some (some (.ref C_NoSign))) (xe_NoSign : PySem.W.excIn K C_NoSign [.type "ValueError", .type "Exception", .type "BaseException", .type "object"] "ValueError.__new__" = true) (xk_NoSign : PySem.W.keepIn K (.ref C_NoSign) = true) (xb_NoSign : PySem.W.subIn K (.ref C_NoSign) (.type "BaseException") = some true) (xt_NoSign : PySem.W.typeIn K (.ref C_NoSign) = some (.type "type"))
    (xa_NoText : PySem.W.nsIn K mainGlobals "NoText" = some (some (.ref C_NoText))) (xe_NoText : PySem.W.excIn K C_NoText [.type "ValueError", .type "Exception", .type "BaseException", .type "object"] "ValueError.__new__" = true) (xk_NoText : PySem.W.keepIn K (.ref C_NoText) = true) (xb_NoText : PySem.W.subIn K (.ref C_NoText) (.type "BaseException") = some true) (xt_NoText : PySem.W.typeIn K (.ref C_NoText) = some (.type "type"))
    (xa_NoLine : PySem.W.nsIn K mainGlobals "NoLine" = some (some (.ref C_NoLine))) (xe_NoLine : PySem.W.excIn K C_NoLine [.type "ValueError", .type "Exception", .type "BaseException", .type "object"] "ValueError.__new__" = true) (xk_NoLine : PySem.W.keepIn K (.ref C_NoLine) = true) (xb_NoLine : PySem.W.subIn K (.ref C_NoLine) (.type "BaseException") = some true) (xt_NoLine : PySem.W.typeIn K (.ref C_NoLine) = some (.type "type"))
    (xa_NoPast : PySem.W.nsIn K mainGlobals "NoPast" = some (some (.ref C_NoPast))) (xe_NoPast : PySem.W.excIn K C_NoPast [.type "ValueError", .type "Exception", .type "BaseException", .type "object"] "ValueError.__new__" = true) (xk_NoPast : PySem.W.keepIn K (.ref C_NoPast) = true) (xb_NoPast : PySem.W.subIn K (.ref C_NoPast) (.type "BaseException") = some true) (xt_NoPast : PySem.W.typeIn K (.ref C_NoPast) = some (.type "type"))
    (xa_Empty : PySem.W.nsIn K mainGlobals "Empty" = some (some (.ref C_Empty))) (xe_Empty : PySem.W.excIn K C_Empty [.type "ValueError", .type "Exception", .type "BaseException", .type "object"] "ValueError.__new__" = true) (xk_Empty : PySem.W.keepIn K (.ref C_Empty) = true) (xb_Empty : PySem.W.subIn K (.ref C_Empty) (.type "BaseException") = some true) (xt_Empty : PySem.W.typeIn K (.ref C_Empty) = some (.type "type"))
    (xa_TongueError : PySem.W.nsIn K mainGlobals "TongueError" = some (some (.ref C_TongueError))) (xe_TongueError : PySem.W.excIn K C_TongueError [.type "ValueError", .type "Exception", .type "BaseException", .type "object"] "ValueError.__new__" = true) (xk_TongueError : PySem.W.keepIn K (.ref C_TongueError) = true) (xb_TongueError : PySem.W.subIn K (.ref C_TongueError) (.type "BaseException") = some true) (xt_TongueError : PySem.W.typeIn K (.ref C_TongueError) = some (.type "type"))
    (tn_ : PySem.W.specialIn K (.builtin "object.__class__") "__get__" = some (some (.builtin "getset_descriptor.__get__"))) (tt_ : PySem.W.takesIn K (.builtin "object.__class__") = some true)
    (tg_TongueError : PySem.W.findIn K (.ref C_TongueError) "__getattribute__" = some (some (.builtin "BaseException.__getattribute__")))
    (tk_TongueError : PySem.W.findIn K (.ref C_TongueError) "__getattr__" = some none)
    (ts_TongueError : PySem.W.subIn K (.ref C_TongueError) (.type "BaseException") = some true)
    (td_TongueError : PySem.W.hasDictIn K C_TongueError = true)
    (ta_TongueError : PySem.W.findIn K (.ref C_TongueError) "__class__" = some (some (.builtin "object.__class__")))
    (tm_TongueError : PySem.W.mroIn K C_TongueError (.type "object") = some true)
    (ty_TongueError : PySem.W.typeIn K (.ref C_TongueError) = some (.type "type"))
    (to_TongueError : PySem.W.subIn K (.type "NoneType") (.ref C_TongueError) = some false)
    (tg_TooLong : PySem.W.findIn K (.ref C_TooLong) "__getattribute__" = some (some (.builtin "BaseException.__getattribute__")))
    (tk_TooLong : PySem.W.findIn K (.ref C_TooLong) "__getattr__" = some none)
    (ts_TooLong : PySem.W.subIn K (.ref C_TooLong) (.type "BaseException") = some true)
    (td_TooLong : PySem.W.hasDictIn K C_TooLong = true)
    (ta_TooLong : PySem.W.findIn K (.ref C_TooLong) "__class__" = some (some (.builtin "object.__class__")))
    (tm_TooLong : PySem.W.mroIn K C_TooLong (.type "object") = some true)
    (ty_TooLong : PySem.W.typeIn K (.ref C_TooLong) = some (.type "type"))
    (to_TooLong : PySem.W.subIn K (.type "NoneType") (.ref C_TooLong) = some false)
    (tg_TooMany : PySem.W.findIn K (.ref C_TooMany) "__getattribute__" = some (some (.builtin "BaseException.__getattribute__")))
    (tk_TooMany : PySem.W.findIn K (.ref C_TooMany) "__getattr__" = some none)
    (ts_TooMany : PySem.W.subIn K (.ref C_TooMany) (.type "BaseException") = some true)
    (td_TooMany : PySem.W.hasDictIn K C_TooMany = true)
    (ta_TooMany : PySem.W.findIn K (.ref C_TooMany) "__class__" = some (some (.builtin "object.__class__")))
    (tm_TooMany : PySem.W.mroIn K C_TooMany (.type "object") = some true)
    (ty_TooMany : PySem.W.typeIn K (.ref C_TooMany) = some (.type "type"))
    (to_TooMany : PySem.W.subIn K (.type "NoneType") (.ref C_TooMany) = some false)
    (tg_NoElder : PySem.W.findIn K (.ref C_NoElder) "__getattribute__" = some (some (.builtin "BaseException.__getattribute__")))
    (tk_NoElder : PySem.W.findIn K (.ref C_NoElder) "__getattr__" = some none)
    (ts_NoElder : PySem.W.subIn K (.ref C_NoElder) (.type "BaseException") = some true)
    (td_NoElder : PySem.W.hasDictIn K C_NoElder = true)
    (ta_NoElder : PySem.W.findIn K (.ref C_NoElder) "__class__" = some (some (.builtin "object.__class__")))
    (tm_NoElder : PySem.W.mroIn K C_NoElder (.type "object") = some true)
    (ty_NoElder : PySem.W.typeIn K (.ref C_NoElder) = some (.type "type"))
    (to_NoElder : PySem.W.subIn K (.type "NoneType") (.ref C_NoElder) = some false)
    (tg_NoPlace : PySem.W.findIn K (.ref C_NoPlace) "__getattribute__" = some (some (.builtin "BaseException.__getattribute__")))
    (tk_NoPlace : PySem.W.findIn K (.ref C_NoPlace) "__getattr__" = some none)
    (ts_NoPlace : PySem.W.subIn K (.ref C_NoPlace) (.type "BaseException") = some true)
    (td_NoPlace : PySem.W.hasDictIn K C_NoPlace = true)
    (ta_NoPlace : PySem.W.findIn K (.ref C_NoPlace) "__class__" = some (some (.builtin "object.__class__")))
    (tm_NoPlace : PySem.W.mroIn K C_NoPlace (.type "object") = some true)
    (ty_NoPlace : PySem.W.typeIn K (.ref C_NoPlace) = some (.type "type"))
    (to_NoPlace : PySem.W.subIn K (.type "NoneType") (.ref C_NoPlace) = some false)
    (tg_NoSign : PySem.W.findIn K (.ref C_NoSign) "__getattribute__" = some (some (.builtin "BaseException.__getattribute__")))
    (tk_NoSign : PySem.W.findIn K (.ref C_NoSign) "__getattr__" = some none)
    (ts_NoSign : PySem.W.subIn K (.ref C_NoSign) (.type "BaseException") = some true)
    (td_NoSign : PySem.W.hasDictIn K C_NoSign = true)
    (ta_NoSign : PySem.W.findIn K (.ref C_NoSign) "__class__" = some (some (.builtin "object.__class__")))
    (tm_NoSign : PySem.W.mroIn K C_NoSign (.type "object") = some true)
    (ty_NoSign : PySem.W.typeIn K (.ref C_NoSign) = some (.type "type"))
    (to_NoSign : PySem.W.subIn K (.type "NoneType") (.ref C_NoSign) = some false)
    (tg_NoText : PySem.W.findIn K (.ref C_NoText) "__getattribute__" = some (some (.builtin "BaseException.__getattribute__")))
    (tk_NoText : PySem.W.findIn K (.ref C_NoText) "__getattr__" = some none)
    (ts_NoText : PySem.W.subIn K (.ref C_NoText) (.type "BaseException") = some true)
    (td_NoText : PySem.W.hasDictIn K C_NoText = true)
    (ta_NoText : PySem.W.findIn K (.ref C_NoText) "__class__" = some (some (.builtin "object.__class__")))
    (tm_NoText : PySem.W.mroIn K C_NoText (.type "object") = some true)
    (ty_NoText : PySem.W.typeIn K (.ref C_NoText) = some (.type "type"))
    (to_NoText : PySem.W.subIn K (.type "NoneType") (.ref C_NoText) = some false)
    (tg_NoLine : PySem.W.findIn K (.ref C_NoLine) "__getattribute__" = some (some (.builtin "BaseException.__getattribute__")))
    (tk_NoLine : PySem.W.findIn K (.ref C_NoLine) "__getattr__" = some none)
    (ts_NoLine : PySem.W.subIn K (.ref C_NoLine) (.type "BaseException") = some true)
    (td_NoLine : PySem.W.hasDictIn K C_NoLine = true)
    (ta_NoLine : PySem.W.findIn K (.ref C_NoLine) "__class__" = some (some (.builtin "object.__class__")))
    (tm_NoLine : PySem.W.mroIn K C_NoLine (.type "object") = some true)
    (ty_NoLine : PySem.W.typeIn K (.ref C_NoLine) = some (.type "type"))
    (to_NoLine : PySem.W.subIn K (.type "NoneType") (.ref C_NoLine) = some false)
    (tg_NoPast : PySem.W.findIn K (.ref C_NoPast) "__getattribute__" = some (some (.builtin "BaseException.__getattribute__")))
    (tk_NoPast : PySem.W.findIn K (.ref C_NoPast) "__getattr__" = some none)
    (ts_NoPast : PySem.W.subIn K (.ref C_NoPast) (.type "BaseException") = some true)
    (td_NoPast : PySem.W.hasDictIn K C_NoPast = true)
    (ta_NoPast : PySem.W.findIn K (.ref C_NoPast) "__class__" = some (some (.builtin "object.__class__")))
    (tm_NoPast : PySem.W.mroIn K C_NoPast (.type "object") = some true)
    (ty_NoPast : PySem.W.typeIn K (.ref C_NoPast) = some (.type "type"))
    (to_NoPast : PySem.W.subIn K (.type "NoneType") (.ref C_NoPast) = some false)
    (tg_Empty : PySem.W.findIn K (.ref C_Empty) "__getattribute__" = some (some (.builtin "BaseException.__getattribute__")))
    (tk_Empty : PySem.W.findIn K (.ref C_Empty) "__getattr__" = some none)
    (ts_Empty : PySem.W.subIn K (.ref C_Empty) (.type "BaseException") = some true)
    (td_Empty : PySem.W.hasDictIn K C_Empty = true)
    (ta_Empty : PySem.W.findIn K (.ref C_Empty) "__class__" = some (some (.builtin "object.__class__")))
    (tm_Empty : PySem.W.mroIn K C_Empty (.type "object") = some true)
    (ty_Empty : PySem.W.typeIn K (.ref C_Empty) = some (.type "type"))
    (to_Empty : PySem.W.subIn K (.type "NoneType") (.ref C_Empty) = some false)
    (te_TongueError_TongueError : PySem.W.subIn K (.ref C_TongueError) (.ref C_TongueError) = some true)
    (te_TongueError_TooLong : PySem.W.subIn K (.ref C_TongueError) (.ref C_TooLong) = some false)
    (te_TongueError_TooMany : PySem.W.subIn K (.ref C_TongueError) (.ref C_TooMany) = some false)
    (te_TongueError_NoElder : PySem.W.subIn K (.ref C_TongueError) (.ref C_NoElder) = some false)
    (te_TongueError_NoPlace : PySem.W.subIn K (.ref C_TongueError) (.ref C_NoPlace) = some false)
    (te_TongueError_NoSign : PySem.W.subIn K (.ref C_TongueError) (.ref C_NoSign) = some false)
    (te_TongueError_NoText : PySem.W.subIn K (.ref C_TongueError) (.ref C_NoText) = some false)
    (te_TongueError_NoLine : PySem.W.subIn K (.ref C_TongueError) (.ref C_NoLine) = some false)
    (te_TongueError_NoPast : PySem.W.subIn K (.ref C_TongueError) (.ref C_NoPast) = some false)
    (te_TongueError_Empty : PySem.W.subIn K (.ref C_TongueError) (.ref C_Empty) = some false)
    (te_TooLong_TongueError : PySem.W.subIn K (.ref C_TooLong) (.ref C_TongueError) = some true)
    (te_TooLong_TooLong : PySem.W.subIn K (.ref C_TooLong) (.ref C_TooLong) = some true)
    (te_TooLong_TooMany : PySem.W.subIn K (.ref C_TooLong) (.ref C_TooMany) = some false)
    (te_TooLong_NoElder : PySem.W.subIn K (.ref C_TooLong) (.ref C_NoElder) = some false)
    (te_TooLong_NoPlace : PySem.W.subIn K (.ref C_TooLong) (.ref C_NoPlace) = some false)
    (te_TooLong_NoSign : PySem.W.subIn K (.ref C_TooLong) (.ref C_NoSign) = some false)
    (te_TooLong_NoText : PySem.W.subIn K (.ref C_TooLong) (.ref C_NoText) = some false)
    (te_TooLong_NoLine : PySem.W.subIn K (.ref C_TooLong) (.ref C_NoLine) = some false)
    (te_TooLong_NoPast : PySem.W.subIn K (.ref C_TooLong) (.ref C_NoPast) = some false)
    (te_TooLong_Empty : PySem.W.subIn K (.ref C_TooLong) (.ref C_Empty) = some false)
    (te_TooMany_TongueError : PySem.W.subIn K (.ref C_TooMany) (.ref C_TongueError) = some true)
    (te_TooMany_TooLong : PySem.W.subIn K (.ref C_TooMany) (.ref C_TooLong) = some false)
    (te_TooMany_TooMany : PySem.W.subIn K (.ref C_TooMany) (.ref C_TooMany) = some true)
    (te_TooMany_NoElder : PySem.W.subIn K (.ref C_TooMany) (.ref C_NoElder) = some false)
    (te_TooMany_NoPlace : PySem.W.subIn K (.ref C_TooMany) (.ref C_NoPlace) = some false)
    (te_TooMany_NoSign : PySem.W.subIn K (.ref C_TooMany) (.ref C_NoSign) = some false)
    (te_TooMany_NoText : PySem.W.subIn K (.ref C_TooMany) (.ref C_NoText) = some false)
    (te_TooMany_NoLine : PySem.W.subIn K (.ref C_TooMany) (.ref C_NoLine) = some false)
    (te_TooMany_NoPast : PySem.W.subIn K (.ref C_TooMany) (.ref C_NoPast) = some false)
    (te_TooMany_Empty : PySem.W.subIn K (.ref C_TooMany) (.ref C_Empty) = some false)
    (te_NoElder_TongueError : PySem.W.subIn K (.ref C_NoElder) (.ref C_TongueError) = some true)
    (te_NoElder_TooLong : PySem.W.subIn K (.ref C_NoElder) (.ref C_TooLong) = some false)
    (te_NoElder_TooMany : PySem.W.subIn K (.ref C_NoElder) (.ref C_TooMany) = some false)
    (te_NoElder_NoElder : PySem.W.subIn K (.ref C_NoElder) (.ref C_NoElder) = some true)
    (te_NoElder_NoPlace : PySem.W.subIn K (.ref C_NoElder) (.ref C_NoPlace) = some false)
    (te_NoElder_NoSign : PySem.W.subIn K (.ref C_NoElder) (.ref C_NoSign) = some false)
    (te_NoElder_NoText : PySem.W.subIn K (.ref C_NoElder) (.ref C_NoText) = some false)
    (te_NoElder_NoLine : PySem.W.subIn K (.ref C_NoElder) (.ref C_NoLine) = some false)
    (te_NoElder_NoPast : PySem.W.subIn K (.ref C_NoElder) (.ref C_NoPast) = some false)
    (te_NoElder_Empty : PySem.W.subIn K (.ref C_NoElder) (.ref C_Empty) = some false)
    (te_NoPlace_TongueError : PySem.W.subIn K (.ref C_NoPlace) (.ref C_TongueError) = some true)
    (te_NoPlace_TooLong : PySem.W.subIn K (.ref C_NoPlace) (.ref C_TooLong) = some false)
    (te_NoPlace_TooMany : PySem.W.subIn K (.ref C_NoPlace) (.ref C_TooMany) = some false)
    (te_NoPlace_NoElder : PySem.W.subIn K (.ref C_NoPlace) (.ref C_NoElder) = some false)
    (te_NoPlace_NoPlace : PySem.W.subIn K (.ref C_NoPlace) (.ref C_NoPlace) = some true)
    (te_NoPlace_NoSign : PySem.W.subIn K (.ref C_NoPlace) (.ref C_NoSign) = some false)
    (te_NoPlace_NoText : PySem.W.subIn K (.ref C_NoPlace) (.ref C_NoText) = some false)
    (te_NoPlace_NoLine : PySem.W.subIn K (.ref C_NoPlace) (.ref C_NoLine) = some false)
    (te_NoPlace_NoPast : PySem.W.subIn K (.ref C_NoPlace) (.ref C_NoPast) = some false)
    (te_NoPlace_Empty : PySem.W.subIn K (.ref C_NoPlace) (.ref C_Empty) = some false)
    (te_NoSign_TongueError : PySem.W.subIn K (.ref C_NoSign) (.ref C_TongueError) = some true)
    (te_NoSign_TooLong : PySem.W.subIn K (.ref C_NoSign) (.ref C_TooLong) = some false)
    (te_NoSign_TooMany : PySem.W.subIn K (.ref C_NoSign) (.ref C_TooMany) = some false)
    (te_NoSign_NoElder : PySem.W.subIn K (.ref C_NoSign) (.ref C_NoElder) = some false)
    (te_NoSign_NoPlace : PySem.W.subIn K (.ref C_NoSign) (.ref C_NoPlace) = some false)
    (te_NoSign_NoSign : PySem.W.subIn K (.ref C_NoSign) (.ref C_NoSign) = some true)
    (te_NoSign_NoText : PySem.W.subIn K (.ref C_NoSign) (.ref C_NoText) = some false)
    (te_NoSign_NoLine : PySem.W.subIn K (.ref C_NoSign) (.ref C_NoLine) = some false)
    (te_NoSign_NoPast : PySem.W.subIn K (.ref C_NoSign) (.ref C_NoPast) = some false)
    (te_NoSign_Empty : PySem.W.subIn K (.ref C_NoSign) (.ref C_Empty) = some false)
    (te_NoText_TongueError : PySem.W.subIn K (.ref C_NoText) (.ref C_TongueError) = some true)
    (te_NoText_TooLong : PySem.W.subIn K (.ref C_NoText) (.ref C_TooLong) = some false)
    (te_NoText_TooMany : PySem.W.subIn K (.ref C_NoText) (.ref C_TooMany) = some false)
    (te_NoText_NoElder : PySem.W.subIn K (.ref C_NoText) (.ref C_NoElder) = some false)
    (te_NoText_NoPlace : PySem.W.subIn K (.ref C_NoText) (.ref C_NoPlace) = some false)
    (te_NoText_NoSign : PySem.W.subIn K (.ref C_NoText) (.ref C_NoSign) = some false)
    (te_NoText_NoText : PySem.W.subIn K (.ref C_NoText) (.ref C_NoText) = some true)
    (te_NoText_NoLine : PySem.W.subIn K (.ref C_NoText) (.ref C_NoLine) = some false)
    (te_NoText_NoPast : PySem.W.subIn K (.ref C_NoText) (.ref C_NoPast) = some false)
    (te_NoText_Empty : PySem.W.subIn K (.ref C_NoText) (.ref C_Empty) = some false)
    (te_NoLine_TongueError : PySem.W.subIn K (.ref C_NoLine) (.ref C_TongueError) = some true)
    (te_NoLine_TooLong : PySem.W.subIn K (.ref C_NoLine) (.ref C_TooLong) = some false)
    (te_NoLine_TooMany : PySem.W.subIn K (.ref C_NoLine) (.ref C_TooMany) = some false)
    (te_NoLine_NoElder : PySem.W.subIn K (.ref C_NoLine) (.ref C_NoElder) = some false)
    (te_NoLine_NoPlace : PySem.W.subIn K (.ref C_NoLine) (.ref C_NoPlace) = some false)
    (te_NoLine_NoSign : PySem.W.subIn K (.ref C_NoLine) (.ref C_NoSign) = some false)
    (te_NoLine_NoText : PySem.W.subIn K (.ref C_NoLine) (.ref C_NoText) = some false)
    (te_NoLine_NoLine : PySem.W.subIn K (.ref C_NoLine) (.ref C_NoLine) = some true)
    (te_NoLine_NoPast : PySem.W.subIn K (.ref C_NoLine) (.ref C_NoPast) = some false)
    (te_NoLine_Empty : PySem.W.subIn K (.ref C_NoLine) (.ref C_Empty) = some false)
    (te_NoPast_TongueError : PySem.W.subIn K (.ref C_NoPast) (.ref C_TongueError) = some true)
    (te_NoPast_TooLong : PySem.W.subIn K (.ref C_NoPast) (.ref C_TooLong) = some false)
    (te_NoPast_TooMany : PySem.W.subIn K (.ref C_NoPast) (.ref C_TooMany) = some false)
    (te_NoPast_NoElder : PySem.W.subIn K (.ref C_NoPast) (.ref C_NoElder) = some false)
    (te_NoPast_NoPlace : PySem.W.subIn K (.ref C_NoPast) (.ref C_NoPlace) = some false)
    (te_NoPast_NoSign : PySem.W.subIn K (.ref C_NoPast) (.ref C_NoSign) = some false)
    (te_NoPast_NoText : PySem.W.subIn K (.ref C_NoPast) (.ref C_NoText) = some false)
    (te_NoPast_NoLine : PySem.W.subIn K (.ref C_NoPast) (.ref C_NoLine) = some false)
    (te_NoPast_NoPast : PySem.W.subIn K (.ref C_NoPast) (.ref C_NoPast) = some true)
    (te_NoPast_Empty : PySem.W.subIn K (.ref C_NoPast) (.ref C_Empty) = some false)
    (te_Empty_TongueError : PySem.W.subIn K (.ref C_Empty) (.ref C_TongueError) = some true)
    (te_Empty_TooLong : PySem.W.subIn K (.ref C_Empty) (.ref C_TooLong) = some false)
    (te_Empty_TooMany : PySem.W.subIn K (.ref C_Empty) (.ref C_TooMany) = some false)
    (te_Empty_NoElder : PySem.W.subIn K (.ref C_Empty) (.ref C_NoElder) = some false)
    (te_Empty_NoPlace : PySem.W.subIn K (.ref C_Empty) (.ref C_NoPlace) = some false)
    (te_Empty_NoSign : PySem.W.subIn K (.ref C_Empty) (.ref C_NoSign) = some false)
    (te_Empty_NoText : PySem.W.subIn K (.ref C_Empty) (.ref C_NoText) = some false)
    (te_Empty_NoLine : PySem.W.subIn K (.ref C_Empty) (.ref C_NoLine) = some false)
    (te_Empty_NoPast : PySem.W.subIn K (.ref C_Empty) (.ref C_NoPast) = some false)
    (te_Empty_Empty : PySem.W.subIn K (.ref C_Empty) (.ref C_Empty) = some true)
    (tv_TongueError : PySem.W.subIn K (.ref C_TongueError) (.type "ValueError") = some true)
    (tv_TooLong : PySem.W.subIn K (.ref C_TooLong) (.type "ValueError") = some true)
    (tv_TooMany : PySem.W.subIn K (.ref C_TooMany) (.type "ValueError") = some true)
    (tv_NoElder : PySem.W.subIn K (.ref C_NoElder) (.type "ValueError") = some true)
    (tv_NoPlace : PySem.W.subIn K (.ref C_NoPlace) (.type "ValueError") = some true)
    (tv_NoSign : PySem.W.subIn K (.ref C_NoSign) (.type "ValueError") = some true)
    (tv_NoText : PySem.W.subIn K (.ref C_NoText) (.type "ValueError") = some true)
    (tv_NoLine : PySem.W.subIn K (.ref C_NoLine) (.type "ValueError") = some true)
    (tv_NoPast : PySem.W.subIn K (.ref C_NoPast) (.type "ValueError") = some true)
    (tv_Empty : PySem.W.subIn K (.ref C_Empty) (.type "ValueError") = some true) :
    ∃ fd : FuncData, (∀ (s : Shared) (v : Value), BindsTo s fd ⟨[v], []⟩ [("script", v)]) ∧ ∀ base : Heap, K.In base → base.Ns mainGlobals mg → FnOk l.prog w K mg base (L2.CX l.prog w) 3 fa fd ["script"] (spLaw K) := by
  have e := hfa.symm.trans (PySem.W.mg_of X G a8)
  cases e
  have F0 := fun_mk (st := (topS 13)) l0 c0 k0
  have B0 := F0.binds (ps := ["runs"]) fun _ _ _ _ _ _ us hl => match us, hl with | [_], _ => rfl
  have F1 := fun_mk (st := (topS 15)) l1 c1 k1
  have B1 := F1.binds (ps := ["cell", "k"]) fun _ _ _ _ _ _ us hl => match us, hl with | [_, _], _ => rfl
  have F2 := fun_mk (st := (topS 16)) l2 c2 k2
  have B2 := F2.binds (ps := ["cell", "k"]) fun _ _ _ _ _ _ us hl => match us, hl with | [_, _], _ => rfl
  have F3 := fun_mk (st := (topS 17)) l3 c3 k3
  have B3 := F3.binds (ps := ["stream", "many"]) fun _ _ _ _ _ _ us hl => match us, hl with | [_, _], _ => rfl
  have F4 := fun_mk (st := (topS 18)) l4 c4 k4
  have B4 := F4.binds (ps := ["caught"]) fun _ _ _ _ _ _ us hl => match us, hl with | [_], _ => rfl
  have F5 := fun_mk (st := (topS 19)) l5 c5 k5
  have B5 := F5.binds (ps := ["kind", "text"]) fun _ _ _ _ _ _ us hl => match us, hl with | [_, _], _ => rfl
  have F6 := fun_mk (st := (topS 20)) l6 c6 k6
  have B6 := F6.binds (ps := ["text"]) fun _ _ _ _ _ _ us hl => match us, hl with | [_], _ => rfl
  have F7 := fun_mk (st := (topS 21)) l7 c7 k7
  have B7 := F7.binds (ps := ["count"]) fun _ _ _ _ _ _ us hl => match us, hl with | [_], _ => rfl
  have F8 := fun_mk (st := (topS 22)) l8 c8 k8
  have B8 := F8.binds (ps := ["script"]) fun _ _ _ _ _ _ us hl => match us, hl with | [_], _ => rfl
  refine ⟨PySem.W.fnOf "law" "law" (defArgs (topS 22)) (defBody (topS 22)) (defScope (topS 22)) .none kV8 dc8 pm8 an8 cd8 ct8, fun s v => .of_eq rfl, fun base _ _ => ?_⟩
  have b_sum : mg "sum" = none := PySem.W.mg_none_of X G z_sum
  have b_tuple : mg "tuple" = none := PySem.W.mg_none_of X G z_tuple
  have b_range : mg "range" = none := PySem.W.mg_none_of X G z_range
  have b_isinstance : mg "isinstance" = none := PySem.W.mg_none_of X G z_isinstance
  have b_ValueError : mg "ValueError" = none := PySem.W.mg_none_of X G z_ValueError
  have b_len : mg "len" = none := PySem.W.mg_none_of X G z_len
  have b_enumerate : mg "enumerate" = none := PySem.W.mg_none_of X G z_enumerate
  have q_MOST_SIGNS : ∃ t, mg "MOST_SIGNS" = some (.int 3000 t) := ⟨_, PySem.W.mg_of X G y_MOST_SIGNS⟩
  have x_TooLong : ExcF K mg "TooLong" C_TooLong := ⟨PySem.W.mg_of X G xa_TooLong, xe_TooLong, xk_TooLong, xb_TooLong, xt_TooLong⟩
  have x_TooMany : ExcF K mg "TooMany" C_TooMany := ⟨PySem.W.mg_of X G xa_TooMany, xe_TooMany, xk_TooMany, xb_TooMany, xt_TooMany⟩
  have x_NoElder : ExcF K mg "NoElder" C_NoElder := ⟨PySem.W.mg_of X G xa_NoElder, xe_NoElder, xk_NoElder, xb_NoElder, xt_NoElder⟩
  have x_NoPlace : ExcF K mg "NoPlace" C_NoPlace := ⟨PySem.W.mg_of X G xa_NoPlace, xe_NoPlace, xk_NoPlace, xb_NoPlace, xt_NoPlace⟩
  have x_NoSign : ExcF K mg "NoSign" C_NoSign := ⟨PySem.W.mg_of X G xa_NoSign, xe_NoSign, xk_NoSign, xb_NoSign, xt_NoSign⟩
  have x_NoText : ExcF K mg "NoText" C_NoText := ⟨PySem.W.mg_of X G xa_NoText, xe_NoText, xk_NoText, xb_NoText, xt_NoText⟩
  have x_NoLine : ExcF K mg "NoLine" C_NoLine := ⟨PySem.W.mg_of X G xa_NoLine, xe_NoLine, xk_NoLine, xb_NoLine, xt_NoLine⟩
  have x_NoPast : ExcF K mg "NoPast" C_NoPast := ⟨PySem.W.mg_of X G xa_NoPast, xe_NoPast, xk_NoPast, xb_NoPast, xt_NoPast⟩
  have x_Empty : ExcF K mg "Empty" C_Empty := ⟨PySem.W.mg_of X G xa_Empty, xe_Empty, xk_Empty, xb_Empty, xt_Empty⟩
  have x_TongueError : ExcF K mg "TongueError" C_TongueError := ⟨PySem.W.mg_of X G xa_TongueError, xe_TongueError, xk_TongueError, xb_TongueError, xt_TongueError⟩
  have tab : ExcTab K mg ["TongueError", "TooLong", "TooMany", "NoElder", "NoPlace", "NoSign", "NoText", "NoLine", "NoPast", "Empty"] := tab_mk [("TongueError", C_TongueError), ("TooLong", C_TooLong), ("TooMany", C_TooMany), ("NoElder", C_NoElder), ("NoPlace", C_NoPlace), ("NoSign", C_NoSign), ("NoText", C_NoText), ("NoLine", C_NoLine), ("NoPast", C_NoPast), ("Empty", C_Empty)] (all_c ⟨PySem.W.mg_of X G xa_TongueError, xa_TongueError, ⟨tg_TongueError, tk_TongueError, ts_TongueError, td_TongueError, ta_TongueError, tn_, tt_, tm_TongueError⟩, ty_TongueError, to_TongueError⟩ (all_c ⟨PySem.W.mg_of X G xa_TooLong, xa_TooLong, ⟨tg_TooLong, tk_TooLong, ts_TooLong, td_TooLong, ta_TooLong, tn_, tt_, tm_TooLong⟩, ty_TooLong, to_TooLong⟩ (all_c ⟨PySem.W.mg_of X G xa_TooMany, xa_TooMany, ⟨tg_TooMany, tk_TooMany, ts_TooMany, td_TooMany, ta_TooMany, tn_, tt_, tm_TooMany⟩, ty_TooMany, to_TooMany⟩ (all_c ⟨PySem.W.mg_of X G xa_NoElder, xa_NoElder, ⟨tg_NoElder, tk_NoElder, ts_NoElder, td_NoElder, ta_NoElder, tn_, tt_, tm_NoElder⟩, ty_NoElder, to_NoElder⟩ (all_c ⟨PySem.W.mg_of X G xa_NoPlace, xa_NoPlace, ⟨tg_NoPlace, tk_NoPlace, ts_NoPlace, td_NoPlace, ta_NoPlace, tn_, tt_, tm_NoPlace⟩, ty_NoPlace, to_NoPlace⟩ (all_c ⟨PySem.W.mg_of X G xa_NoSign, xa_NoSign, ⟨tg_NoSign, tk_NoSign, ts_NoSign, td_NoSign, ta_NoSign, tn_, tt_, tm_NoSign⟩, ty_NoSign, to_NoSign⟩ (all_c ⟨PySem.W.mg_of X G xa_NoText, xa_NoText, ⟨tg_NoText, tk_NoText, ts_NoText, td_NoText, ta_NoText, tn_, tt_, tm_NoText⟩, ty_NoText, to_NoText⟩ (all_c ⟨PySem.W.mg_of X G xa_NoLine, xa_NoLine, ⟨tg_NoLine, tk_NoLine, ts_NoLine, td_NoLine, ta_NoLine, tn_, tt_, tm_NoLine⟩, ty_NoLine, to_NoLine⟩ (all_c ⟨PySem.W.mg_of X G xa_NoPast, xa_NoPast, ⟨tg_NoPast, tk_NoPast, ts_NoPast, td_NoPast, ta_NoPast, tn_, tt_, tm_NoPast⟩, ty_NoPast, to_NoPast⟩ (all_c ⟨PySem.W.mg_of X G xa_Empty, xa_Empty, ⟨tg_Empty, tk_Empty, ts_Empty, td_Empty, ta_Empty, tn_, tt_, tm_Empty⟩, ty_Empty, to_Empty⟩ all_n)))))))))) (all_c (all_c te_TongueError_TongueError (all_c te_TongueError_TooLong (all_c te_TongueError_TooMany (all_c te_TongueError_NoElder (all_c te_TongueError_NoPlace (all_c te_TongueError_NoSign (all_c te_TongueError_NoText (all_c te_TongueError_NoLine (all_c te_TongueError_NoPast (all_c te_TongueError_Empty all_n)))))))))) (all_c (all_c te_TooLong_TongueError (all_c te_TooLong_TooLong (all_c te_TooLong_TooMany (all_c te_TooLong_NoElder (all_c te_TooLong_NoPlace (all_c te_TooLong_NoSign (all_c te_TooLong_NoText (all_c te_TooLong_NoLine (all_c te_TooLong_NoPast (all_c te_TooLong_Empty all_n)))))))))) (all_c (all_c te_TooMany_TongueError (all_c te_TooMany_TooLong (all_c te_TooMany_TooMany (all_c te_TooMany_NoElder (all_c te_TooMany_NoPlace (all_c te_TooMany_NoSign (all_c te_TooMany_NoText (all_c te_TooMany_NoLine (all_c te_TooMany_NoPast (all_c te_TooMany_Empty all_n)))))))))) (all_c (all_c te_NoElder_TongueError (all_c te_NoElder_TooLong (all_c te_NoElder_TooMany (all_c te_NoElder_NoElder (all_c te_NoElder_NoPlace (all_c te_NoElder_NoSign (all_c te_NoElder_NoText (all_c te_NoElder_NoLine (all_c te_NoElder_NoPast (all_c te_NoElder_Empty all_n)))))))))) (all_c (all_c te_NoPlace_TongueError (all_c te_NoPlace_TooLong (all_c te_NoPlace_TooMany (all_c te_NoPlace_NoElder (all_c te_NoPlace_NoPlace (all_c te_NoPlace_NoSign (all_c te_NoPlace_NoText (all_c te_NoPlace_NoLine (all_c te_NoPlace_NoPast (all_c te_NoPlace_Empty all_n)))))))))) (all_c (all_c te_NoSign_TongueError (all_c te_NoSign_TooLong (all_c te_NoSign_TooMany (all_c te_NoSign_NoElder (all_c te_NoSign_NoPlace (all_c te_NoSign_NoSign (all_c te_NoSign_NoText (all_c te_NoSign_NoLine (all_c te_NoSign_NoPast (all_c te_NoSign_Empty all_n)))))))))) (all_c (all_c te_NoText_TongueError (all_c te_NoText_TooLong (all_c te_NoText_TooMany (all_c te_NoText_NoElder (all_c te_NoText_NoPlace (all_c te_NoText_NoSign (all_c te_NoText_NoText (all_c te_NoText_NoLine (all_c te_NoText_NoPast (all_c te_NoText_Empty all_n)))))))))) (all_c (all_c te_NoLine_TongueError (all_c te_NoLine_TooLong (all_c te_NoLine_TooMany (all_c te_NoLine_NoElder (all_c te_NoLine_NoPlace (all_c te_NoLine_NoSign (all_c te_NoLine_NoText (all_c te_NoLine_NoLine (all_c te_NoLine_NoPast (all_c te_NoLine_Empty all_n)))))))))) (all_c (all_c te_NoPast_TongueError (all_c te_NoPast_TooLong (all_c te_NoPast_TooMany (all_c te_NoPast_NoElder (all_c te_NoPast_NoPlace (all_c te_NoPast_NoSign (all_c te_NoPast_NoText (all_c te_NoPast_NoLine (all_c te_NoPast_NoPast (all_c te_NoPast_Empty all_n)))))))))) (all_c (all_c te_Empty_TongueError (all_c te_Empty_TooLong (all_c te_Empty_TooMany (all_c te_Empty_NoElder (all_c te_Empty_NoPlace (all_c te_Empty_NoSign (all_c te_Empty_NoText (all_c te_Empty_NoLine (all_c te_Empty_NoPast (all_c te_Empty_Empty all_n)))))))))) all_n))))))))))
  have tv : ExcV K ["TongueError", "TooLong", "TooMany", "NoElder", "NoPlace", "NoSign", "NoText", "NoLine", "NoPast", "Empty"] := excV_mk [("TongueError", C_TongueError), ("TooLong", C_TooLong), ("TooMany", C_TooMany), ("NoElder", C_NoElder), ("NoPlace", C_NoPlace), ("NoSign", C_NoSign), ("NoText", C_NoText), ("NoLine", C_NoLine), ("NoPast", C_NoPast), ("Empty", C_Empty)] (all_c ⟨xa_TongueError, tv_TongueError⟩ (all_c ⟨xa_TooLong, tv_TooLong⟩ (all_c ⟨xa_TooMany, tv_TooMany⟩ (all_c ⟨xa_NoElder, tv_NoElder⟩ (all_c ⟨xa_NoPlace, tv_NoPlace⟩ (all_c ⟨xa_NoSign, tv_NoSign⟩ (all_c ⟨xa_NoText, tv_NoText⟩ (all_c ⟨xa_NoLine, tv_NoLine⟩ (all_c ⟨xa_NoPast, tv_NoPast⟩ (all_c ⟨xa_Empty, tv_Empty⟩ all_n))))))))))
  have c_row_of : Fn l.prog w K mg base 1 "row_of" ["runs"] f_row_of _ _ := ⟨ok_row_of F0 b_sum b_tuple q_MOST_SIGNS x_TooLong, PySem.W.mg_of X G a0, F0.kp, B0⟩
  have c__law_mixed : Fn l.prog w K mg base 1 "_law_mixed" ["cell", "k"] f__law_mixed _ _ := ⟨ok__law_mixed F1 , PySem.W.mg_of X G a1, F1.kp, B1⟩
  have c__law_stream : Fn l.prog w K mg base 2 "_law_stream" ["cell", "k"] f__law_stream _ _ := ⟨ok__law_stream F2 c__law_mixed b_range, PySem.W.mg_of X G a2, F2.kp, B2⟩
  have c__law_take : Fn l.prog w K mg base 1 "_law_take" ["stream", "many"] f__law_take _ _ := ⟨ok__law_take F3 , PySem.W.mg_of X G a3, F3.kp, B3⟩
  have c__law_kinds : FnE l.prog w K mg base 1 "_law_kinds" ["caught"] f__law_kinds _ _ := ⟨ok__law_kinds F4 b_isinstance b_ValueError tab tv, PySem.W.mg_of X G a4, F4.kp, B4⟩
  have c__law_raised : Fn l.prog w K mg base 2 "_law_raised" ["kind", "text"] f__law_raised _ _ := ⟨ok__law_raised F5 c__law_kinds x_TooLong x_TooMany x_NoElder x_NoPlace x_NoSign x_NoText x_NoLine x_NoPast x_Empty tab, PySem.W.mg_of X G a5, F5.kp, B5⟩
  have c__law_base : Fn l.prog w K mg base 2 "_law_base" ["text"] f__law_base _ _ := ⟨ok__law_base F6 c__law_kinds x_TongueError tab, PySem.W.mg_of X G a6, F6.kp, B6⟩
  have c__law_long : Fn l.prog w K mg base 2 "_law_long" ["count"] f__law_long _ _ := ⟨ok__law_long F7 c_row_of c__law_kinds tab, PySem.W.mg_of X G a7, F7.kp, B7⟩
  have c_law : Fn l.prog w K mg base 3 "law" ["script"] f_law _ _ := ⟨ok_law F8 c__law_stream c__law_take c__law_raised c__law_base c__law_long b_len b_enumerate b_range, PySem.W.mg_of X G a8, F8.kp, B8⟩
  exact law_end c_law.ok law_true
end L_k06
open PySem PySem.W PyProof.Rows
set_option maxHeartbeats 0 in
theorem PySem.Challenge.cw_rowtongue_k06_refusals_stand_alone_holds : PySem.Challenge.rw_rowtongue_k06_refusals_stand_alone.Holds := by
  w_on; o_law; k_head; (case hw => w_witness2)
  k_fill
  refine L2.walk_of (l := PySem.Challenge.rw_rowtongue_k06_refusals_stand_alone) (n := 63) (k := 3) (x := "script") (CX := fun w => L2.CX PySem.Challenge.rw_rowtongue_k06_refusals_stand_alone.prog w) (sp := fun w => Mir.spLaw _) rfl (by decide) rfl ⟨rfl, by decide, by decide⟩ (fun w h Y => PySem.W.kIn_of Y) ?F (fun _ _ a ns hl _ hS => ⟨a, ns, rfl, hS, hl, fun _ => rfl⟩) (fun _ _ _ _ _ h => Mir.noCX h)
  case F =>
    intro w mg fa h KX G hmg
    refine' L_k06.all_mk KX G hmg ?a0 ?l0 ?c0 ?k0 ?a1 ?l1 ?c1 ?k1 ?a2 ?l2 ?c2 ?k2 ?a3 ?l3 ?c3 ?k3 ?a4 ?l4 ?c4 ?k4 ?a5 ?l5 ?c5 ?k5 ?a6 ?l6 ?c6 ?k6 ?a7 ?l7 ?c7 ?k7 ?a8 ?l8 ?c8 ?k8 ?z_sum ?z_tuple ?z_range ?z_isinstance ?z_ValueError ?z_len ?z_enumerate ?y_MOST_SIGNS ?xa_TooLong ?xe_TooLong ?xk_TooLong ?xb_TooLong ?xt_TooLong ?xa_TooMany ?xe_TooMany ?xk_TooMany ?xb_TooMany ?xt_TooMany ?xa_NoElder ?xe_NoElder ?xk_NoElder ?xb_NoElder ?xt_NoElder ?xa_NoPlace ?xe_NoPlace ?xk_NoPlace ?xb_NoPlace ?xt_NoPlace ?xa_NoSign ?xe_NoSign ?xk_NoSign ?xb_NoSign ?xt_NoSign ?xa_NoText ?xe_NoText ?xk_NoText ?xb_NoText ?xt_NoText ?xa_NoLine ?xe_NoLine ?xk_NoLine ?xb_NoLine ?xt_NoLine ?xa_NoPast ?xe_NoPast ?xk_NoPast ?xb_NoPast ?xt_NoPast ?xa_Empty ?xe_Empty ?xk_Empty ?xb_Empty ?xt_Empty ?xa_TongueError ?xe_TongueError ?xk_TongueError ?xb_TongueError ?xt_TongueError ?tn_ ?tt_ ?tg_TongueError ?tk_TongueError ?ts_TongueError ?td_TongueError ?ta_TongueError ?tm_TongueError ?ty_TongueError ?to_TongueError ?tg_TooLong ?tk_TooLong ?ts_TooLong ?td_TooLong ?ta_TooLong ?tm_TooLong ?ty_TooLong ?to_TooLong ?tg_TooMany ?tk_TooMany ?ts_TooMany ?td_TooMany ?ta_TooMany ?tm_TooMany ?ty_TooMany ?to_TooMany ?tg_NoElder ?tk_NoElder ?ts_NoElder ?td_NoElder ?ta_NoElder ?tm_NoElder ?ty_NoElder ?to_NoElder ?tg_NoPlace ?tk_NoPlace ?ts_NoPlace ?td_NoPlace ?ta_NoPlace ?tm_NoPlace ?ty_NoPlace ?to_NoPlace ?tg_NoSign ?tk_NoSign ?ts_NoSign ?td_NoSign ?ta_NoSign ?tm_NoSign ?ty_NoSign ?to_NoSign ?tg_NoText ?tk_NoText ?ts_NoText ?td_NoText ?ta_NoText ?tm_NoText ?ty_NoText ?to_NoText ?tg_NoLine ?tk_NoLine ?ts_NoLine ?td_NoLine ?ta_NoLine ?tm_NoLine ?ty_NoLine ?to_NoLine ?tg_NoPast ?tk_NoPast ?ts_NoPast ?td_NoPast ?ta_NoPast ?tm_NoPast ?ty_NoPast ?to_NoPast ?tg_Empty ?tk_Empty ?ts_Empty ?td_Empty ?ta_Empty ?tm_Empty ?ty_Empty ?to_Empty ?te_TongueError_TongueError ?te_TongueError_TooLong ?te_TongueError_TooMany ?te_TongueError_NoElder ?te_TongueError_NoPlace ?te_TongueError_NoSign ?te_TongueError_NoText ?te_TongueError_NoLine ?te_TongueError_NoPast ?te_TongueError_Empty ?te_TooLong_TongueError ?te_TooLong_TooLong ?te_TooLong_TooMany ?te_TooLong_NoElder ?te_TooLong_NoPlace ?te_TooLong_NoSign ?te_TooLong_NoText ?te_TooLong_NoLine ?te_TooLong_NoPast ?te_TooLong_Empty ?te_TooMany_TongueError ?te_TooMany_TooLong ?te_TooMany_TooMany ?te_TooMany_NoElder ?te_TooMany_NoPlace ?te_TooMany_NoSign ?te_TooMany_NoText ?te_TooMany_NoLine ?te_TooMany_NoPast ?te_TooMany_Empty ?te_NoElder_TongueError ?te_NoElder_TooLong ?te_NoElder_TooMany ?te_NoElder_NoElder ?te_NoElder_NoPlace ?te_NoElder_NoSign ?te_NoElder_NoText ?te_NoElder_NoLine ?te_NoElder_NoPast ?te_NoElder_Empty ?te_NoPlace_TongueError ?te_NoPlace_TooLong ?te_NoPlace_TooMany ?te_NoPlace_NoElder ?te_NoPlace_NoPlace ?te_NoPlace_NoSign ?te_NoPlace_NoText ?te_NoPlace_NoLine ?te_NoPlace_NoPast ?te_NoPlace_Empty ?te_NoSign_TongueError ?te_NoSign_TooLong ?te_NoSign_TooMany ?te_NoSign_NoElder ?te_NoSign_NoPlace ?te_NoSign_NoSign ?te_NoSign_NoText ?te_NoSign_NoLine ?te_NoSign_NoPast ?te_NoSign_Empty ?te_NoText_TongueError ?te_NoText_TooLong ?te_NoText_TooMany ?te_NoText_NoElder ?te_NoText_NoPlace ?te_NoText_NoSign ?te_NoText_NoText ?te_NoText_NoLine ?te_NoText_NoPast ?te_NoText_Empty ?te_NoLine_TongueError ?te_NoLine_TooLong ?te_NoLine_TooMany ?te_NoLine_NoElder ?te_NoLine_NoPlace ?te_NoLine_NoSign ?te_NoLine_NoText ?te_NoLine_NoLine ?te_NoLine_NoPast ?te_NoLine_Empty ?te_NoPast_TongueError ?te_NoPast_TooLong ?te_NoPast_TooMany ?te_NoPast_NoElder ?te_NoPast_NoPlace ?te_NoPast_NoSign ?te_NoPast_NoText ?te_NoPast_NoLine ?te_NoPast_NoPast ?te_NoPast_Empty ?te_Empty_TongueError ?te_Empty_TooLong ?te_Empty_TooMany ?te_Empty_NoElder ?te_Empty_NoPlace ?te_Empty_NoSign ?te_Empty_NoText ?te_Empty_NoLine ?te_Empty_NoPast ?te_Empty_Empty ?tv_TongueError ?tv_TooLong ?tv_TooMany ?tv_NoElder ?tv_NoPlace ?tv_NoSign ?tv_NoText ?tv_NoLine ?tv_NoPast ?tv_Empty
    (case a0 => k_is); (case l0 => k_is); (case c0 => k_is); (case k0 => k_is); (case a1 => k_is); (case l1 => k_is); (case c1 => k_is); (case k1 => k_is); (case a2 => k_is); (case l2 => k_is); (case c2 => k_is); (case k2 => k_is); (case a3 => k_is); (case l3 => k_is); (case c3 => k_is); (case k3 => k_is); (case a4 => k_is); (case l4 => k_is); (case c4 => k_is); (case k4 => k_is); (case a5 => k_is); (case l5 => k_is); (case c5 => k_is); (case k5 => k_is); (case a6 => k_is); (case l6 => k_is); (case c6 => k_is); (case k6 => k_is); (case a7 => k_is); (case l7 => k_is); (case c7 => k_is); (case k7 => k_is); (case a8 => k_is); (case l8 => k_is); (case c8 => k_is); (case k8 => k_is); (case z_sum => k_is); (case z_tuple => k_is); (case z_range => k_is); (case z_isinstance => k_is); (case z_ValueError => k_is); (case z_len => k_is); (case z_enumerate => k_is); (case y_MOST_SIGNS => k_is); (case xa_TooLong => k_is); (case xe_TooLong => k_exc); (case xk_TooLong => k_is); (case xb_TooLong => k_is); (case xt_TooLong => k_is); (case xa_TooMany => k_is); (case xe_TooMany => k_exc); (case xk_TooMany => k_is); (case xb_TooMany => k_is); (case xt_TooMany => k_is); (case xa_NoElder => k_is); (case xe_NoElder => k_exc); (case xk_NoElder => k_is); (case xb_NoElder => k_is); (case xt_NoElder => k_is); (case xa_NoPlace => k_is); (case xe_NoPlace => k_exc); (case xk_NoPlace => k_is); (case xb_NoPlace => k_is); (case xt_NoPlace => k_is); (case xa_NoSign => k_is); (case xe_NoSign => k_exc); (case xk_NoSign => k_is); (case xb_NoSign => k_is); (case xt_NoSign => k_is); (case xa_NoText => k_is); (case xe_NoText => k_exc); (case xk_NoText => k_is); (case xb_NoText => k_is); (case xt_NoText => k_is); (case xa_NoLine => k_is); (case xe_NoLine => k_exc); (case xk_NoLine => k_is); (case xb_NoLine => k_is); (case xt_NoLine => k_is); (case xa_NoPast => k_is); (case xe_NoPast => k_exc); (case xk_NoPast => k_is); (case xb_NoPast => k_is); (case xt_NoPast => k_is); (case xa_Empty => k_is); (case xe_Empty => k_exc); (case xk_Empty => k_is); (case xb_Empty => k_is); (case xt_Empty => k_is); (case xa_TongueError => k_is); (case xe_TongueError => k_exc); (case xk_TongueError => k_is); (case xb_TongueError => k_is); (case xt_TongueError => k_is); (case tn_ => k_is); (case tt_ => k_is); (case tg_TongueError => k_is); (case tk_TongueError => k_is); (case ts_TongueError => k_is); (case td_TongueError => k_is); (case ta_TongueError => k_is); (case tm_TongueError => k_is); (case ty_TongueError => k_is); (case to_TongueError => k_is); (case tg_TooLong => k_is); (case tk_TooLong => k_is); (case ts_TooLong => k_is); (case td_TooLong => k_is); (case ta_TooLong => k_is); (case tm_TooLong => k_is); (case ty_TooLong => k_is); (case to_TooLong => k_is); (case tg_TooMany => k_is); (case tk_TooMany => k_is); (case ts_TooMany => k_is); (case td_TooMany => k_is); (case ta_TooMany => k_is); (case tm_TooMany => k_is); (case ty_TooMany => k_is); (case to_TooMany => k_is); (case tg_NoElder => k_is); (case tk_NoElder => k_is); (case ts_NoElder => k_is); (case td_NoElder => k_is); (case ta_NoElder => k_is); (case tm_NoElder => k_is); (case ty_NoElder => k_is); (case to_NoElder => k_is); (case tg_NoPlace => k_is); (case tk_NoPlace => k_is); (case ts_NoPlace => k_is); (case td_NoPlace => k_is); (case ta_NoPlace => k_is); (case tm_NoPlace => k_is); (case ty_NoPlace => k_is); (case to_NoPlace => k_is); (case tg_NoSign => k_is); (case tk_NoSign => k_is); (case ts_NoSign => k_is); (case td_NoSign => k_is); (case ta_NoSign => k_is); (case tm_NoSign => k_is); (case ty_NoSign => k_is); (case to_NoSign => k_is); (case tg_NoText => k_is); (case tk_NoText => k_is); (case ts_NoText => k_is); (case td_NoText => k_is); (case ta_NoText => k_is); (case tm_NoText => k_is); (case ty_NoText => k_is); (case to_NoText => k_is); (case tg_NoLine => k_is); (case tk_NoLine => k_is); (case ts_NoLine => k_is); (case td_NoLine => k_is); (case ta_NoLine => k_is); (case tm_NoLine => k_is); (case ty_NoLine => k_is); (case to_NoLine => k_is); (case tg_NoPast => k_is); (case tk_NoPast => k_is); (case ts_NoPast => k_is); (case td_NoPast => k_is); (case ta_NoPast => k_is); (case tm_NoPast => k_is); (case ty_NoPast => k_is); (case to_NoPast => k_is); (case tg_Empty => k_is); (case tk_Empty => k_is); (case ts_Empty => k_is); (case td_Empty => k_is); (case ta_Empty => k_is); (case tm_Empty => k_is); (case ty_Empty => k_is); (case to_Empty => k_is); (case te_TongueError_TongueError => k_is); (case te_TongueError_TooLong => k_is); (case te_TongueError_TooMany => k_is); (case te_TongueError_NoElder => k_is); (case te_TongueError_NoPlace => k_is); (case te_TongueError_NoSign => k_is); (case te_TongueError_NoText => k_is); (case te_TongueError_NoLine => k_is); (case te_TongueError_NoPast => k_is); (case te_TongueError_Empty => k_is); (case te_TooLong_TongueError => k_is); (case te_TooLong_TooLong => k_is); (case te_TooLong_TooMany => k_is); (case te_TooLong_NoElder => k_is); (case te_TooLong_NoPlace => k_is); (case te_TooLong_NoSign => k_is); (case te_TooLong_NoText => k_is); (case te_TooLong_NoLine => k_is); (case te_TooLong_NoPast => k_is); (case te_TooLong_Empty => k_is); (case te_TooMany_TongueError => k_is); (case te_TooMany_TooLong => k_is); (case te_TooMany_TooMany => k_is); (case te_TooMany_NoElder => k_is); (case te_TooMany_NoPlace => k_is); (case te_TooMany_NoSign => k_is); (case te_TooMany_NoText => k_is); (case te_TooMany_NoLine => k_is); (case te_TooMany_NoPast => k_is); (case te_TooMany_Empty => k_is); (case te_NoElder_TongueError => k_is); (case te_NoElder_TooLong => k_is); (case te_NoElder_TooMany => k_is); (case te_NoElder_NoElder => k_is); (case te_NoElder_NoPlace => k_is); (case te_NoElder_NoSign => k_is); (case te_NoElder_NoText => k_is); (case te_NoElder_NoLine => k_is); (case te_NoElder_NoPast => k_is); (case te_NoElder_Empty => k_is); (case te_NoPlace_TongueError => k_is); (case te_NoPlace_TooLong => k_is); (case te_NoPlace_TooMany => k_is); (case te_NoPlace_NoElder => k_is); (case te_NoPlace_NoPlace => k_is); (case te_NoPlace_NoSign => k_is); (case te_NoPlace_NoText => k_is); (case te_NoPlace_NoLine => k_is); (case te_NoPlace_NoPast => k_is); (case te_NoPlace_Empty => k_is); (case te_NoSign_TongueError => k_is); (case te_NoSign_TooLong => k_is); (case te_NoSign_TooMany => k_is); (case te_NoSign_NoElder => k_is); (case te_NoSign_NoPlace => k_is); (case te_NoSign_NoSign => k_is); (case te_NoSign_NoText => k_is); (case te_NoSign_NoLine => k_is); (case te_NoSign_NoPast => k_is); (case te_NoSign_Empty => k_is); (case te_NoText_TongueError => k_is); (case te_NoText_TooLong => k_is); (case te_NoText_TooMany => k_is); (case te_NoText_NoElder => k_is); (case te_NoText_NoPlace => k_is); (case te_NoText_NoSign => k_is); (case te_NoText_NoText => k_is); (case te_NoText_NoLine => k_is); (case te_NoText_NoPast => k_is); (case te_NoText_Empty => k_is); (case te_NoLine_TongueError => k_is); (case te_NoLine_TooLong => k_is); (case te_NoLine_TooMany => k_is); (case te_NoLine_NoElder => k_is); (case te_NoLine_NoPlace => k_is); (case te_NoLine_NoSign => k_is); (case te_NoLine_NoText => k_is); (case te_NoLine_NoLine => k_is); (case te_NoLine_NoPast => k_is); (case te_NoLine_Empty => k_is); (case te_NoPast_TongueError => k_is); (case te_NoPast_TooLong => k_is); (case te_NoPast_TooMany => k_is); (case te_NoPast_NoElder => k_is); (case te_NoPast_NoPlace => k_is); (case te_NoPast_NoSign => k_is); (case te_NoPast_NoText => k_is); (case te_NoPast_NoLine => k_is); (case te_NoPast_NoPast => k_is); (case te_NoPast_Empty => k_is); (case te_Empty_TongueError => k_is); (case te_Empty_TooLong => k_is); (case te_Empty_TooMany => k_is); (case te_Empty_NoElder => k_is); (case te_Empty_NoPlace => k_is); (case te_Empty_NoSign => k_is); (case te_Empty_NoText => k_is); (case te_Empty_NoLine => k_is); (case te_Empty_NoPast => k_is); (case te_Empty_Empty => k_is); (case tv_TongueError => k_is); (case tv_TooLong => k_is); (case tv_TooMany => k_is); (case tv_NoElder => k_is); (case tv_NoPlace => k_is); (case tv_NoSign => k_is); (case tv_NoText => k_is); (case tv_NoLine => k_is); (case tv_NoPast => k_is); (case tv_Empty => k_is)


