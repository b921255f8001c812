import PyProof.Rows.All
import Wide.All
import OpenK.AllK
import Wide.FinOn
import HandS.ForMost
import HandS.ForExc
import HandS.Exc
import HandS.Lambda
import HandS.Flow
import HandS.Wide
import HandS.TupAny
import HandS.IsInst
import HandS.Style
import HandS.Deep
import HandS.SortInts
import KE.KxText
import HandS.StrMore
import HandS.RaiseMore
import HandS.TryOnly
import HandS.Zip
import HandS.Defaults
import HandS.ExcIs
import HandS.SetFor
import HandS.Conv
import HandS.ListItems
import HandS.WordsDict
import HandS.DictComp
import HandS.Iter
import HandS.Rev
import KE.KDictZip
import KE.KItemsList
import HandS.Codes
import HandS.ExcInit
import HandS.ExcField
import KE.KExcIs
import HandS.DictTup
import PyProof.DictMoreH
import HandS.Strs
import HandS.Finally
import PyProof.ReprRoads
import KE.DataMinMax
import HandS.ExcValue
import KE.KExcStr
import HandS.EndTab
import KE.SortKeyHeap
import KE.KNest
import PySem.Challenge.RW_wirehall_k82_lines_of_accounts
set_option Elab.async false
set_option linter.all false
set_option maxRecDepth 100000
set_option maxHeartbeats 2000000
/-! PV1: deep data, what stands for it in a heap, judgements over named places. -/
namespace PV
open PySem PySem.Spec PyProof.Rows L2
abbrev Fr := PySem.W.Frag

inductive D where
  | non | bl (b : Bool) | int (i : Int) | str (s : Str) | lst (xs : List D) | tup (xs : List D) | dic (kvs : List (Key × D)) | obj (C : Addr) (fs : List (Str × D)) | exc (C : Addr) (w : Bool) (fs : List (Str × D)) | opq (v : V)

/-- an exception of the class C, its own dict at d where it has one -/
def excHO (a C : Addr) (d : Option Addr) : HO := .ext fun h => ∃ oe, h.get? a = some oe ∧ oe.cls = .ref C ∧ oe.dict = d ∧ ∃ vs, oe.data = .fields vs
/-- an exception of the class C without a dict of its own, its arguments at t -/
def excAO (a C t : Addr) : HO := .ext fun h => ∃ (oe : Obj) (vs : Array Value), h.get? a = some oe ∧ oe.cls = .ref C ∧ oe.dict = none ∧ oe.data = .fields vs ∧ vs[0]? = some (.ref t)
/-- the same, as told by what it is made of: one text, or untold -/
def ExF (H : Hp) (a C : Addr) : List (Str × D) → Prop
  | (_, .str m) :: _ => ∃ t, H a = some (excAO a C t) ∧ H t = some (.tup [.str m])
  | _ => H a = some (excHO a C none)
theorem ExF.mono {H H' : Hp} (e : ∀ a o, H a = some o → H' a = some o) {a C : Addr} : ∀ {fs : List (Str × D)}, ExF H a C fs → ExF H' a C fs
  | (_, .str m) :: _, ⟨t, h1, h2⟩ => ⟨t, e _ _ h1, e _ _ h2⟩
  | [], h => e _ _ h
  | (_, .non) :: _, h => e _ _ h
  | (_, .bl _) :: _, h => e _ _ h
  | (_, .int _) :: _, h => e _ _ h
  | (_, .lst _) :: _, h => e _ _ h
  | (_, .tup _) :: _, h => e _ _ h
  | (_, .dic _) :: _, h => e _ _ h
  | (_, .obj _ _) :: _, h => e _ _ h
  | (_, .exc _ _ _) :: _, h => e _ _ h
  | (_, .opq _) :: _, h => e _ _ h
mutual
/-- v stands for the data in the heap H -/
def Rep (K : Fr) (H : Hp) : D → V → Prop
  | .non, v => v = .non
  | .bl b, v => v = .bl b
  | .int i, v => v = .int i
  | .str s, v => v = .str s
  | .lst ds, v => ∃ a vs, v = .ref a ∧ SqL K H a vs ∧ RepL K H ds vs
  | .tup ds, v => ∃ a vs, v = .ref a ∧ SqT K H a vs ∧ RepL K H ds vs
  | .dic kvs, v => ∃ a es, v = .ref a ∧ H a = some (.dK es) ∧ RepK K H kvs es
  | .obj C fs, v => ∃ a dx es, v = .ref a ∧ H a = some (.ins C dx es) ∧ RepF K H fs es
  | .exc C w fs, v => ∃ a, v = .ref a ∧ ((w = false ∧ ExF H a C fs) ∨ (w = true ∧ ∃ d es, H a = some (excHO a C (some d)) ∧ H d = some (.xd es) ∧ RepF K H fs es))
  | .opq u, v => v = u
def RepL (K : Fr) (H : Hp) : List D → List V → Prop
  | [], vs => vs = []
  | d :: ds, vs => ∃ v r, vs = v :: r ∧ Rep K H d v ∧ RepL K H ds r
def RepK (K : Fr) (H : Hp) : List (Key × D) → List (Key × V) → Prop
  | [], vs => vs = []
  | (k, d) :: ds, vs => ∃ v r, vs = (k, v) :: r ∧ Rep K H d v ∧ RepK K H ds r
def RepF (K : Fr) (H : Hp) : List (Str × D) → List (Str × V) → Prop
  | [], vs => vs = []
  | (k, d) :: ds, vs => ∃ v r, vs = (k, v) :: r ∧ Rep K H d v ∧ RepF K H ds r
end

/-- what was tracked is as it was -/
def Ex (H H' : Hp) : Prop := ∀ a o, H a = some o → H' a = some o
theorem Ex.refl (H : Hp) : Ex H H := fun _ _ h => h
theorem Ex.trans {H H1 H2 : Hp} (a : Ex H H1) (b : Ex H1 H2) : Ex H H2 := fun x o h => b x o (a x o h)
theorem Ex.new {H : Hp} {p : Addr} {o : HO} (h : H p = none) : Ex H (upd H p o) := fun a u e => by
  rw [upd_ne (ne_of_none e h)]
  exact e
theorem Ex.free {H H' : Hp} {p : Addr} (e : Ex H H') (h : H' p = none) : H p = none := by
  cases h1 : H p with
  | none => rfl
  | some o => rw [e p o h1] at h; cases h
theorem Ex.sqL {K : Fr} {H H' : Hp} {a : Addr} {vs : List V} (e : Ex H H') (h : SqL K H a vs) : SqL K H' a vs := by
  rcases h with (h | ⟨o, h⟩) | h
  · exact .inl (.inl (e _ _ h))
  · exact .inl (.inr ⟨o, e _ _ h⟩)
  · exact .inr h
theorem Ex.sqT {K : Fr} {H H' : Hp} {a : Addr} {vs : List V} (e : Ex H H') (h : SqT K H a vs) : SqT K H' a vs := by
  rcases h with (h | ⟨o, h⟩) | h
  · exact .inl (.inl (e _ _ h))
  · exact .inl (.inr ⟨o, e _ _ h⟩)
  · exact .inr h

section
variable {K : Fr} {H H' : Hp}
mutual
theorem Rep.mono (e : Ex H H') : ∀ {d : D} {v : V}, Rep K H d v → Rep K H' d v
  | .non, _, h => h
  | .bl _, _, h => h
  | .int _, _, h => h
  | .str _, _, h => h
  | .lst _, _, h => by
    obtain ⟨a, vs, h1, h2, h3⟩ := h
    exact ⟨a, vs, h1, e.sqL h2, RepL.mono e h3⟩
  | .tup _, _, h => by
    obtain ⟨a, vs, h1, h2, h3⟩ := h
    exact ⟨a, vs, h1, e.sqT h2, RepL.mono e h3⟩
  | .dic _, _, h => by
    obtain ⟨a, es, h1, h2, h3⟩ := h
    exact ⟨a, es, h1, e _ _ h2, RepK.mono e h3⟩
  | .obj _ _, _, h => by
    obtain ⟨a, dx, es, h1, h2, h3⟩ := h
    exact ⟨a, dx, es, h1, e _ _ h2, RepF.mono e h3⟩
  | .exc _ _ _, _, h => by
    obtain ⟨a, h1, h2 | ⟨h2, d, es, h3, h4, h5⟩⟩ := h
    · exact ⟨a, h1, .inl ⟨h2.1, ExF.mono e h2.2⟩⟩
    · exact ⟨a, h1, .inr ⟨h2, d, es, e _ _ h3, e _ _ h4, RepF.mono e h5⟩⟩
  | .opq _, _, h => h
theorem RepL.mono (e : Ex H H') : ∀ {ds : List D} {vs : List V}, RepL K H ds vs → RepL K H' ds vs
  | [], _, h => h
  | _ :: _, _, h => by
    obtain ⟨v, r, h1, h2, h3⟩ := h
    exact ⟨v, r, h1, Rep.mono e h2, RepL.mono e h3⟩
theorem RepK.mono (e : Ex H H') : ∀ {ds : List (Key × D)} {vs : List (Key × V)}, RepK K H ds vs → RepK K H' ds vs
  | [], _, h => h
  | (_, _) :: _, _, h => by
    obtain ⟨v, r, h1, h2, h3⟩ := h
    exact ⟨v, r, h1, Rep.mono e h2, RepK.mono e h3⟩
theorem RepF.mono (e : Ex H H') : ∀ {ds : List (Str × D)} {vs : List (Str × V)}, RepF K H ds vs → RepF K H' ds vs
  | [], _, h => h
  | (_, _) :: _, _, h => by
    obtain ⟨v, r, h1, h2, h3⟩ := h
    exact ⟨v, r, h1, Rep.mono e h2, RepF.mono e h3⟩
end

theorem RepL.length : ∀ {ds : List D} {vs : List V}, RepL K H ds vs → vs.length = ds.length
  | [], _, h => by subst h; rfl
  | _ :: _, _, h => by
    obtain ⟨v, r, rfl, _, h3⟩ := h
    simp [RepL.length h3]
theorem RepL.get : ∀ {ds : List D} {vs : List V} {i : Nat} {d : D}, RepL K H ds vs → ds[i]? = some d → ∃ v, vs[i]? = some v ∧ Rep K H d v
  | [], _, _, _, _, e => by simp at e
  | _ :: _, _, 0, _, h, e => by
    obtain ⟨v, r, rfl, h2, _⟩ := h
    simp at e; subst e
    exact ⟨v, rfl, h2⟩
  | _ :: _, _, i + 1, d, h, e => by
    obtain ⟨v, r, rfl, _, h3⟩ := h
    obtain ⟨u, h4, h5⟩ := RepL.get (i := i) (d := d) h3 (by simpa using e)
    exact ⟨u, by simpa using h4, h5⟩
theorem RepL.getV {ds : List D} {vs : List V} {i : Nat} {v : V} (h : RepL K H ds vs) (e : vs[i]? = some v) : ∃ d, ds[i]? = some d ∧ Rep K H d v := by
  have hl : i < vs.length := (List.getElem?_eq_some_iff.mp e).1
  rw [h.length] at hl
  obtain ⟨u, h1, h2⟩ := h.get (i := i) (d := ds[i]) (by simp [hl])
  rw [e] at h1; cases h1
  exact ⟨_, by simp [hl], h2⟩
theorem RepL.append : ∀ {ds es : List D} {vs ws : List V}, RepL K H ds vs → RepL K H es ws → RepL K H (ds ++ es) (vs ++ ws)
  | [], _, _, _, h, k => by subst h; exact k
  | _ :: _, _, _, _, h, k => by
    obtain ⟨v, r, rfl, h2, h3⟩ := h
    exact ⟨v, r ++ _, rfl, h2, RepL.append h3 k⟩
theorem RepL.take : ∀ {ds : List D} {vs : List V} (n : Nat), RepL K H ds vs → RepL K H (ds.take n) (vs.take n)
  | _, _, 0, _ => rfl
  | [], _, _ + 1, h => by subst h; rfl
  | _ :: _, _, n + 1, h => by
    obtain ⟨v, r, rfl, h2, h3⟩ := h
    exact ⟨v, r.take n, rfl, h2, RepL.take n h3⟩
theorem RepL.drop : ∀ {ds : List D} {vs : List V} (n : Nat), RepL K H ds vs → RepL K H (ds.drop n) (vs.drop n)
  | _, _, 0, h => h
  | [], _, _ + 1, h => by subst h; rfl
  | _ :: _, _, n + 1, h => by
    obtain ⟨v, r, rfl, h2, h3⟩ := h
    exact RepL.drop n h3
theorem RepL.reverse : ∀ {ds : List D} {vs : List V}, RepL K H ds vs → RepL K H ds.reverse vs.reverse
  | [], _, h => by subst h; rfl
  | _ :: _, _, h => by
    obtain ⟨v, r, rfl, h2, h3⟩ := h
    rw [List.reverse_cons, List.reverse_cons]
    exact RepL.append (RepL.reverse h3) ⟨v, [], rfl, h2, rfl⟩
theorem RepL.set : ∀ {ds : List D} {vs : List V} (i : Nat) {d : D} {v : V}, RepL K H ds vs → Rep K H d v → RepL K H (ds.set i d) (vs.set i v)
  | [], _, _, _, _, h, _ => by subst h; rfl
  | _ :: _, _, 0, _, _, h, k => by
    obtain ⟨v, r, rfl, _, h3⟩ := h
    exact ⟨_, r, rfl, k, h3⟩
  | _ :: _, _, i + 1, _, _, h, k => by
    obtain ⟨v, r, rfl, h2, h3⟩ := h
    exact ⟨v, r.set i _, rfl, h2, RepL.set i h3 k⟩
theorem RepL.ints : ∀ {ns : List Int} {vs : List V}, RepL K H (ns.map D.int) vs → vs = ns.map V.int
  | [], _, h => h
  | _ :: _, _, h => by
    obtain ⟨v, r, rfl, h2, h3⟩ := h
    have h2' : v = .int _ := h2
    rw [h2', RepL.ints h3]; rfl
theorem RepL.ofInts : ∀ (ns : List Int), RepL K H (ns.map D.int) (ns.map V.int)
  | [] => rfl
  | _ :: r => ⟨_, _, rfl, rfl, RepL.ofInts r⟩
theorem RepL.strs : ∀ {ns : List Str} {vs : List V}, RepL K H (ns.map D.str) vs → vs = ns.map V.str
  | [], _, h => h
  | _ :: _, _, h => by
    obtain ⟨v, r, rfl, h2, h3⟩ := h
    have h2' : v = .str _ := h2
    rw [h2', RepL.strs h3]; rfl
theorem RepL.ofStrs : ∀ (ns : List Str), RepL K H (ns.map D.str) (ns.map V.str)
  | [] => rfl
  | _ :: r => ⟨_, _, rfl, rfl, RepL.ofStrs r⟩
theorem RepL.bools : ∀ {ns : List Bool} {vs : List V}, RepL K H (ns.map D.bl) vs → vs = ns.map V.bl
  | [], _, h => h
  | _ :: _, _, h => by
    obtain ⟨v, r, rfl, h2, h3⟩ := h
    have h2' : v = .bl _ := h2
    rw [h2', RepL.bools h3]; rfl
theorem RepL.ofBools : ∀ (ns : List Bool), RepL K H (ns.map D.bl) (ns.map V.bl)
  | [] => rfl
  | _ :: r => ⟨_, _, rfl, rfl, RepL.ofBools r⟩
theorem RepL.one {d : D} {v : V} (h : Rep K H d v) : RepL K H [d] [v] := ⟨v, [], rfl, h, rfl⟩
theorem RepF.lookup : ∀ {fs : List (Str × D)} {es : List (Str × V)} {f : Str} {d : D}, RepF K H fs es → fs.lookup f = some d → ∃ v, es.lookup f = some v ∧ Rep K H d v
  | [], _, _, _, _, e => by simp [List.lookup] at e
  | (k, x) :: _, _, f, d, h, e => by
    obtain ⟨v, r, rfl, h2, h3⟩ := h
    by_cases hk : (f == k) = true
    · simp only [List.lookup, hk] at e ⊢
      cases e
      exact ⟨v, rfl, h2⟩
    · have hk' : (f == k) = false := by simpa using hk
      simp only [List.lookup, hk'] at e ⊢
      exact RepF.lookup h3 e
theorem RepF.lookupN : ∀ {fs : List (Str × D)} {es : List (Str × V)} {f : Str}, RepF K H fs es → fs.lookup f = none → es.lookup f = none
  | [], _, _, h, _ => by subst h; rfl
  | (k, x) :: _, _, f, h, e => by
    obtain ⟨v, r, rfl, h2, h3⟩ := h
    by_cases hk : (f == k) = true
    · simp only [List.lookup, hk] at e; cases e
    · have hk' : (f == k) = false := by simpa using hk
      simp only [List.lookup, hk'] at e ⊢
      exact RepF.lookupN h3 e
theorem RepF.length : ∀ {fs : List (Str × D)} {es : List (Str × V)}, RepF K H fs es → es.length = fs.length
  | [], _, h => by subst h; rfl
  | (_, _) :: _, _, h => by
    obtain ⟨v, r, rfl, _, h3⟩ := h
    simp [RepF.length h3]
def putFD (f : Str) (d : D) : List (Str × D) → List (Str × D)
  | [] => [(f, d)]
  | (k, x) :: r => if k = f then (k, d) :: r else (k, x) :: putFD f d r
theorem RepF.put {f : Str} {d : D} {v : V} (hv : Rep K H d v) : ∀ {fs : List (Str × D)} {es : List (Str × V)}, RepF K H fs es → RepF K H (putFD f d fs) (putF f v es)
  | [], _, h => by subst h; exact ⟨v, [], rfl, hv, rfl⟩
  | (k, x) :: r, _, h => by
    obtain ⟨u, t, rfl, h2, h3⟩ := h
    by_cases hk : k = f
    · unfold putFD putF
      rw [if_pos hk, if_pos hk]
      subst hk
      exact ⟨v, t, rfl, hv, h3⟩
    · unfold putFD putF
      rw [if_neg hk, if_neg hk]
      exact ⟨u, _, rfl, h2, RepF.put hv h3⟩
/-- data whose standing asks no heap -/
def D.flat : D → Bool
  | .non | .bl _ | .int _ | .str _ | .opq _ => true
  | _ => false
theorem Rep.flat {d : D} {v : V} (hf : d.flat = true) (h : Rep K H d v) : Rep K H' d v := by
  cases d <;> first | exact h | cases hf
end

/-! ### what the running code owns alone -/
def mask (own : Addr → Bool) (H : Hp) : Hp := fun a => if own a then none else H a
theorem mask_le {own : Addr → Bool} {H : Hp} : Ex (mask own H) H := fun a o h => by
  unfold mask at h
  split at h
  · cases h
  · exact h
theorem mask_ex {own : Addr → Bool} {H H' : Hp} (e : Ex H H') : Ex (mask own H) (mask own H') := fun a o h => by
  unfold mask at h ⊢
  split at h
  · cases h
  · rename_i hn
    rw [if_neg hn]
    exact e _ _ h
theorem mask_mono {own own' : Addr → Bool} {H : Hp} (e : ∀ a, own' a = true → own a = true) : Ex (mask own H) (mask own' H) := fun a o h => by
  unfold mask at h ⊢
  split at h
  · cases h
  · rename_i hn
    rw [if_neg (fun z => hn (e a z))]
    exact h
theorem mask_none {H : Hp} : mask (fun _ => false) H = H := by
  funext a; unfold mask; simp
/-- a new address is not owned: what is laid there stands behind the mask -/
theorem mask_new {own : Addr → Bool} {H : Hp} {p : Addr} {o : HO} (hw : ∀ a, own a = true → H a ≠ none) (h : H p = none) : mask own (upd H p o) = upd (mask own H) p o := by
  funext a
  unfold mask upd
  by_cases e : a = p
  · subst e
    have : own a = false := by
      cases hh : own a with
      | false => rfl
      | true => exact absurd h (hw a hh)
    simp [this]
  · simp [e]
theorem mask_at {own : Addr → Bool} {H : Hp} {p : Addr} (h : H p = none) : mask own H p = none := by
  unfold mask; split <;> first | rfl | exact h

/-! ### places -/
/-- an owned object's contents -/
inductive Cell where
  | lst (ds : List D) | dic (kvs : List (Key × D)) | dct (kvs : List (List Key × D)) | ins (C : Addr) (fs : List (Str × D)) | tbl (q : Str)
def RepT (K : Fr) (H : Hp) : List (List Key × D) → List (List Key × V) → Prop
  | [], vs => vs = []
  | (k, d) :: ds, vs => ∃ v r, vs = (k, v) :: r ∧ Rep K H d v ∧ RepT K H ds r
theorem RepT.mono {K : Fr} {H H' : Hp} (e : Ex H H') : ∀ {ds : List (List Key × D)} {vs : List (List Key × V)}, RepT K H ds vs → RepT K H' ds vs
  | [], _, h => h
  | (_, _) :: _, _, h => by
    obtain ⟨v, r, h1, h2, h3⟩ := h
    exact ⟨v, r, h1, Rep.mono e h2, RepT.mono e h3⟩
def CellOk (K : Fr) (own : Addr → Bool) (H : Hp) (q : Addr) : Cell → Prop
  | .lst ds => ∃ vs, H q = some (.lst vs) ∧ RepL K (mask own H) ds vs
  | .dic kvs => ∃ es, H q = some (.dK es) ∧ RepK K (mask own H) kvs es
  | .dct kvs => ∃ es, H q = some (.dT es) ∧ RepT K (mask own H) kvs es
  | .ins C fs => ∃ dx es, H q = some (.ins C dx es) ∧ RepF K (mask own H) fs es
  | .tbl n => ∃ ps, H q = some (.tbl ps) ∧ TriplesOk ps.toList ∧ ∀ (p : Pos) (u : Value), codeAmong p ps.toList = some u → ∃ c, u = .ref c ∧ mask own H c = some (LamX.CodeO c n)
/-- from one heap and what is owned to another: at q as it was, the rest of what is seen stays -/
theorem CellOk.to {K : Fr} {own own' : Addr → Bool} {H H' : Hp} {q : Addr} {c : Cell} (hq : ∀ o, H q = some o → H' q = some o) (e : Ex (mask own H) (mask own' H')) (h : CellOk K own H q c) : CellOk K own' H' q c := by
  cases c with
  | lst ds => obtain ⟨vs, h1, h2⟩ := h; exact ⟨vs, hq _ h1, h2.mono e⟩
  | dic ds => obtain ⟨vs, h1, h2⟩ := h; exact ⟨vs, hq _ h1, h2.mono e⟩
  | dct ds => obtain ⟨vs, h1, h2⟩ := h; exact ⟨vs, hq _ h1, h2.mono e⟩
  | ins C fs => obtain ⟨dx, vs, h1, h2⟩ := h; exact ⟨dx, vs, hq _ h1, h2.mono e⟩
  | tbl n =>
    obtain ⟨ps, h1, h2, h3⟩ := h
    refine ⟨ps, hq _ h1, h2, fun p u hu => ?_⟩
    obtain ⟨c, e1, e2⟩ := h3 p u hu
    exact ⟨c, e1, e _ _ e2⟩
inductive Slot where
  | no | val (d : D) | acc (xs : List D) | adi (kvs : List (Key × D)) | ins (l : Addr) (C : Addr) (fs : List (Str × D)) | heap (cs : List (Addr × Cell)) | look (cs : List (Addr × Cell))
def SlotOk (K : Fr) (own : Addr → Bool) (H : Hp) (x : Option V) : Slot → Prop
  | .no => True
  | .val d => ∃ v, x = some v ∧ Rep K (mask own H) d v
  | .acc ds => ∃ l vs, x = some (.ref l) ∧ own l = true ∧ H l = some (.lst vs) ∧ RepL K (mask own H) ds vs
  | .adi kvs => ∃ l es, x = some (.ref l) ∧ own l = true ∧ H l = some (.dK es) ∧ RepK K (mask own H) kvs es
  | .ins l C fs => ∃ dx es, x = some (.ref l) ∧ own l = true ∧ H l = some (.ins C dx es) ∧ RepF K (mask own H) fs es
  | .heap cs => (cs.map (·.1)).Nodup ∧ ∀ z ∈ cs, own z.1 = true ∧ CellOk K own H z.1 z.2
  | .look cs => ∀ z ∈ cs, own z.1 = true ∧ CellOk K own H z.1 z.2
/-- l is owned by the slot, whose value is x -/
def Slot.has (x : Option V) (l : Addr) : Slot → Prop
  | .acc _ => x = some (.ref l)
  | .adi _ => x = some (.ref l)
  | .ins _ _ _ => x = some (.ref l)
  | .heap cs => l ∈ cs.map (·.1)
  | .look cs => l ∈ cs.map (·.1)
  | _ => False
/-- l may be written through the slot -/
def Slot.hasW (x : Option V) (l : Addr) : Slot → Prop
  | .look _ => False
  | s => s.has x l
theorem Slot.hasW_has {x : Option V} {l : Addr} {s : Slot} (h : s.hasW x l) : s.has x l := by
  cases s <;> first | exact h | exact h.elim
theorem SlotOk.own {K : Fr} {own : Addr → Bool} {H : Hp} {x : Option V} {s : Slot} {l : Addr} (h : SlotOk K own H x s) (i : s.has x l) : own l = true := by
  cases s with
  | no => exact i.elim
  | val d => exact i.elim
  | acc ds => obtain ⟨l2, vs, h1, h2, h3⟩ := h; have i : x = _ := i; rw [h1] at i; cases i; exact h2
  | adi ds => obtain ⟨l2, vs, h1, h2, h3⟩ := h; have i : x = _ := i; rw [h1] at i; cases i; exact h2
  | ins l2 C fs => obtain ⟨dx, vs, h1, h2, h3⟩ := h; have i : x = _ := i; rw [h1] at i; cases i; exact h2
  | heap cs => obtain ⟨z, hz, rfl⟩ := List.mem_map.mp i; exact (h.2 z hz).1
  | look cs => obtain ⟨z, hz, rfl⟩ := List.mem_map.mp i; exact (h z hz).1
/-- from one heap and what is owned to another: what the slot owns is as it was and still owned -/
theorem SlotOk.to {K : Fr} {own own' : Addr → Bool} {H H' : Hp} {x : Option V} {s : Slot} (hq : ∀ l, s.has x l → own l = true → own' l = true ∧ ∀ o, H l = some o → H' l = some o) (e : Ex (mask own H) (mask own' H')) (h : SlotOk K own H x s) : SlotOk K own' H' x s := by
  cases s with
  | no => trivial
  | val d => obtain ⟨v, h1, h2⟩ := h; exact ⟨v, h1, h2.mono e⟩
  | acc ds => obtain ⟨l, vs, h1, h2, h3, h4⟩ := h; exact ⟨l, vs, h1, (hq l h1 h2).1, (hq l h1 h2).2 _ h3, h4.mono e⟩
  | adi ds => obtain ⟨l, vs, h1, h2, h3, h4⟩ := h; exact ⟨l, vs, h1, (hq l h1 h2).1, (hq l h1 h2).2 _ h3, h4.mono e⟩
  | ins l C fs => obtain ⟨dx, vs, h1, h2, h3, h4⟩ := h; exact ⟨dx, vs, h1, (hq l h1 h2).1, (hq l h1 h2).2 _ h3, h4.mono e⟩
  | heap cs =>
    refine ⟨h.1, fun z hz => ?_⟩
    obtain ⟨h1, h2⟩ := h.2 z hz
    have hm : z.1 ∈ cs.map (·.1) := List.mem_map.mpr ⟨z, hz, rfl⟩
    exact ⟨(hq z.1 hm h1).1, h2.to (hq z.1 hm h1).2 e⟩
  | look cs =>
    refine fun z hz => ?_
    obtain ⟨h1, h2⟩ := h z hz
    have hm : z.1 ∈ cs.map (·.1) := List.mem_map.mpr ⟨z, hz, rfl⟩
    exact ⟨(hq z.1 hm h1).1, h2.to (hq z.1 hm h1).2 e⟩
structure Slots0 (K : Fr) (own : Addr → Bool) (H : Hp) (τ : List (Option V)) (δ : List Slot) : Prop where
  len : τ.length = δ.length
  ok : ∀ (i : Nat) (x : Option V) (s : Slot), τ[i]? = some x → δ[i]? = some s → SlotOk K own H x s
  sep : ∀ (i j : Nat) (x y : Option V) (s t : Slot) (l : Addr), i ≠ j → τ[i]? = some x → τ[j]? = some y → δ[i]? = some s → δ[j]? = some t → s.has x l → t.has y l → False
/-- the names' places, and behind them perhaps the owned objects -/
def Slots (K : Fr) (own : Addr → Bool) (H : Hp) (σ : L2.St) (δ : List Slot) : Prop := ∃ γ, Slots0 K own H (σ ++ γ) δ
theorem SlotOk.mono {K : Fr} {own : Addr → Bool} {H H' : Hp} {x : Option V} {s : Slot} (e : Ex H H') (h : SlotOk K own H x s) : SlotOk K own H' x s :=
  h.to (fun _ _ o => ⟨o, e _⟩) (mask_ex e)
theorem Slots0.to {K : Fr} {own own' : Addr → Bool} {H H' : Hp} {τ : List (Option V)} {δ : List Slot} (h : Slots0 K own H τ δ) (hq : ∀ l, own l = true → (∃ (i : Nat) (x : Option V) (s : Slot), τ[i]? = some x ∧ δ[i]? = some s ∧ s.has x l) → own' l = true ∧ ∀ o, H l = some o → H' l = some o) (e : Ex (mask own H) (mask own' H')) : Slots0 K own' H' τ δ :=
  ⟨h.len, fun i x s a b => (h.ok i x s a b).to (fun l hl o => hq l o ⟨i, x, s, a, b, hl⟩) e, h.sep⟩
theorem Slots.to {K : Fr} {own own' : Addr → Bool} {H H' : Hp} {σ : L2.St} {δ : List Slot} (h : Slots K own H σ δ) (hq : ∀ l, own l = true → own' l = true ∧ ∀ o, H l = some o → H' l = some o) (e : Ex (mask own H) (mask own' H')) : Slots K own' H' σ δ := by
  obtain ⟨γ, h⟩ := h
  exact ⟨γ, h.to (fun l o _ => hq l o) e⟩
theorem Slots.mono {K : Fr} {own : Addr → Bool} {H H' : Hp} {σ : L2.St} {δ : List Slot} (e : Ex H H') (h : Slots K own H σ δ) : Slots K own H' σ δ :=
  h.to (fun _ o => ⟨o, e _⟩) (mask_ex e)
theorem app_get {α : Type} {xs ys : List α} {i : Nat} (h : i < xs.length) : (xs ++ ys)[i]? = xs[i]? := List.getElem?_append_left h
theorem app_set {α : Type} {xs ys : List α} {i : Nat} {x : α} : ∃ zs, (xs ++ ys).set i x = xs.set i x ++ zs := by
  by_cases h : i < xs.length
  · exact ⟨ys, List.set_append_left i x h⟩
  · refine ⟨ys.set (i - xs.length) x, ?_⟩
    rw [List.set_append_right _ _ (by omega), List.set_eq_of_length_le (by omega : xs.length ≤ i)]
theorem Slots.at {K : Fr} {own : Addr → Bool} {H : Hp} {σ : L2.St} {δ : List Slot} (h : Slots K own H σ δ) {i : Nat} {s : Slot} (hl : i < σ.length) (e : δ[i]? = some s) : ∃ x, σ[i]? = some x ∧ SlotOk K own H x s := by
  obtain ⟨γ, h⟩ := h
  exact ⟨σ[i], by simp [hl], h.ok i _ s (by rw [app_get hl]; simp [hl]) e⟩
theorem Slots.any {K : Fr} {own : Addr → Bool} {H : Hp} {σ : L2.St} {δ : List Slot} (h : Slots K own H σ δ) {i : Nat} {s : Slot} (e : δ[i]? = some s) : ∃ x, SlotOk K own H x s := by
  obtain ⟨γ, h⟩ := h
  have hl : i < (σ ++ γ).length := by rw [h.len]; exact (List.getElem?_eq_some_iff.mp e).1
  exact ⟨(σ ++ γ)[i], h.ok i _ s (List.getElem?_eq_getElem hl) e⟩
/-- one slot told anew, with what is owned and the heap -/
theorem Slots0.chg {K : Fr} {own own' : Addr → Bool} {H H' : Hp} {τ : List (Option V)} {δ : List Slot} (h : Slots0 K own H τ δ) (i : Nat) {x' : Option V} {s' : Slot} (ok' : SlotOk K own' H' x' s')
    (tr : ∀ j x s, j ≠ i → τ[j]? = some x → δ[j]? = some s → SlotOk K own H x s → SlotOk K own' H' x s)
    (nw : ∀ l, s'.has x' l → ∀ j x s, j ≠ i → τ[j]? = some x → δ[j]? = some s → s.has x l → False) : Slots0 K own' H' (τ.set i x') (δ.set i s') := by
  refine ⟨by simp [h.len], fun j x s a b => ?_, fun j j' x y s t l jk a b c d e f => ?_⟩
  · by_cases hj : i = j
    · subst hj
      have hl : i < τ.length := by have := (List.getElem?_eq_some_iff.mp a).1; simpa using this
      rw [List.getElem?_set_self hl] at a
      rw [List.getElem?_set_self (by rw [← h.len]; exact hl)] at b
      cases a; cases b
      exact ok'
    · rw [List.getElem?_set_ne hj] at a b
      exact tr j x s (Ne.symm hj) a b (h.ok j x s a b)
  · by_cases hj : i = j
    · subst hj
      have hl : i < τ.length := by have := (List.getElem?_eq_some_iff.mp a).1; simpa using this
      rw [List.getElem?_set_self hl] at a
      rw [List.getElem?_set_self (by rw [← h.len]; exact hl)] at c
      cases a; cases c
      rw [List.getElem?_set_ne jk] at b d
      exact nw l e j' y t (Ne.symm jk) b d f
    · by_cases hk : i = j'
      · subst hk
        have hl : i < τ.length := by have := (List.getElem?_eq_some_iff.mp b).1; simpa using this
        rw [List.getElem?_set_self hl] at b
        rw [List.getElem?_set_self (by rw [← h.len]; exact hl)] at d
        cases b; cases d
        rw [List.getElem?_set_ne hj] at a c
        exact nw l f j x s (Ne.symm hj) a c e
      · rw [List.getElem?_set_ne hj] at a c
        rw [List.getElem?_set_ne hk] at b d
        exact h.sep j j' x y s t l jk a b c d e f
theorem Slots.chg {K : Fr} {own own' : Addr → Bool} {H H' : Hp} {σ : L2.St} {δ : List Slot} (h : Slots K own H σ δ) (i : Nat) {x' : Option V} {s' : Slot} (ok' : SlotOk K own' H' x' s')
    (tr : ∀ x s, SlotOk K own H x s → (∀ s0, δ[i]? = some s0 → ∃ x0, (i < σ.length → σ[i]? = some x0) ∧ ∀ l, s.has x l → s0.has x0 l → False) → SlotOk K own' H' x s)
    (nw : ∀ l, s'.has x' l → own l = true → ∃ s0, δ[i]? = some s0 ∧ ∀ x0, (i < σ.length → σ[i]? = some x0) → s0.has x0 l) : Slots K own' H' (σ.set i x') (δ.set i s') := by
  obtain ⟨γ, h⟩ := h
  obtain ⟨zs, e⟩ := app_set (xs := σ) (ys := γ) (i := i) (x := x')
  have old : ∀ s0, δ[i]? = some s0 → ∃ x0, (σ ++ γ)[i]? = some x0 ∧ (i < σ.length → σ[i]? = some x0) := fun s0 h0 => by
    have hi : i < (σ ++ γ).length := by rw [h.len]; exact (List.getElem?_eq_some_iff.mp h0).1
    exact ⟨_, List.getElem?_eq_getElem hi, fun hs => by rw [← List.getElem?_eq_getElem hi, app_get hs]⟩
  refine ⟨zs, ?_⟩
  rw [← e]
  refine h.chg i ok' (fun j x s ji a b ok => tr x s ok fun s0 h0 => ?_) fun l hl j x s ji a b c => ?_
  · obtain ⟨x0, h1, h2⟩ := old s0 h0
    exact ⟨x0, h2, fun l c d => h.sep i j x0 x s0 s l (Ne.symm ji) h1 a h0 b d c⟩
  · obtain ⟨s0, h0, h1⟩ := nw l hl ((h.ok j x s a b).own c)
    obtain ⟨x0, h2, h3⟩ := old s0 h0
    exact h.sep i j x0 x s0 s l (Ne.symm ji) h2 a h0 b (h1 x0 h3) c
/-- a place gets plain data -/
theorem Slots.put {K : Fr} {own : Addr → Bool} {H : Hp} {σ : L2.St} {δ : List Slot} (h : Slots K own H σ δ) (i : Nat) {d : D} {v : V} (r : Rep K (mask own H) d v) : Slots K own H (σ.set i (some v)) (δ.set i (.val d)) :=
  h.chg i ⟨v, rfl, r⟩ (fun _ _ ok _ => ok) (fun _ z => z.elim)
/-- a place is forgotten, whatever stands there -/
theorem Slots.drop {K : Fr} {own : Addr → Bool} {H : Hp} {σ : L2.St} {δ : List Slot} (h : Slots K own H σ δ) (i : Nat) (x : Option V) : Slots K own H (σ.set i x) (δ.set i .no) :=
  h.chg i trivial (fun _ _ ok _ => ok) (fun _ z => z.elim)
def addOwn (own : Addr → Bool) (p : Addr) : Addr → Bool := fun a => own a || (a == p)
theorem addOwn_self {own : Addr → Bool} {p : Addr} : addOwn own p p = true := by simp [addOwn]
theorem addOwn_old {own : Addr → Bool} {p a : Addr} (h : own a = true) : addOwn own p a = true := by simp [addOwn, h]
theorem mask_add {own : Addr → Bool} {H H' : Hp} {p : Addr} (e : Ex H H') (h : H p = none) : Ex (mask own H) (mask (addOwn own p) H') := fun a o ha => by
  have hp : a ≠ p := by
    rintro rfl
    have := mask_le a o ha
    rw [h] at this; cases this
  unfold mask at ha ⊢
  split at ha
  · cases ha
  · rename_i hn
    have : addOwn own p a = false := by simp [addOwn, hn, hp]
    rw [this]
    exact e _ _ ha
/-- a new object is hidden -/
theorem Slots.add {K : Fr} {own : Addr → Bool} {H H' : Hp} {σ : L2.St} {δ : List Slot} {p : Addr} (h : Slots K own H σ δ) (e : Ex H H') (hp : H p = none) : Slots K (addOwn own p) H' σ δ :=
  h.to (fun l o => ⟨addOwn_old o, e _⟩) (mask_add e hp)
theorem SlotOk.add {K : Fr} {own : Addr → Bool} {H H' : Hp} {x : Option V} {s : Slot} {p : Addr} (h : SlotOk K own H x s) (e : Ex H H') (hp : H p = none) : SlotOk K (addOwn own p) H' x s :=
  h.to (fun l _ o => ⟨addOwn_old o, e _⟩) (mask_add e hp)
theorem mask_upd_own {own : Addr → Bool} {H : Hp} {l : Addr} {ob : HO} (hl : own l = true) : mask own (upd H l ob) = mask own H := by
  funext a
  unfold mask upd
  by_cases ha : a = l
  · subst ha; rw [if_pos hl, if_pos hl]
  · rw [if_neg ha]
/-- a slot of ours keeps its meaning when another's address is written -/
theorem SlotOk.other {K : Fr} {own : Addr → Bool} {H : Hp} {l : Addr} {ob : HO} {x : Option V} {s : Slot} (hl : own l = true) (h : SlotOk K own H x s) (hn : ¬ s.has x l) : SlotOk K own (upd H l ob) x s :=
  h.to (fun l2 h2 o => ⟨o, fun o e => by rw [upd_ne (fun z => hn (by rw [← z]; exact h2))]; exact e⟩) (by rw [mask_upd_own hl]; exact Ex.refl _)
end PV

set_option Elab.async false
set_option linter.all false
set_option maxRecDepth 100000
set_option maxHeartbeats 2000000
/-! PV2: judgements of expressions over named places, the rules of names, constants, operators. -/
namespace PV
open PySem PySem.Spec PyProof.Rows L2

/-- an exception by its class, and its own fields where it has some -/
inductive Xd where
  | plain (c : Value) | flds (c : Value) (fs : List (Str × D))
structure WishX (K : Fr) (W : XK) (own : Addr → Bool) (H : Hp) (PX : Xd → Prop) : Prop where
  pl : ∀ c, PX (.plain c) → ∀ H2, Ex H H2 → W c none H2
  fl : ∀ c fs, PX (.flds c fs) → ∀ H2 d es, Ex H H2 → mask own H2 d = some (.xd es) → RepF K (mask own H2) fs es → W c (some d) H2
theorem WishX.mono {K : Fr} {W : XK} {own : Addr → Bool} {H H' : Hp} {PX : Xd → Prop} (e : Ex H H') (h : WishX K W own H PX) : WishX K W own H' PX :=
  ⟨fun c p H2 e2 => h.pl c p H2 (e.trans e2), fun c fs p H2 d es e2 => h.fl c fs p H2 d es (e.trans e2)⟩
/-- the places as they stand ahead of an expression -/
structure Sy (K : Fr) (W : WX) (own : Addr → Bool) (σ : L2.St) (H : Hp) (δ : List Slot) (PX : Xd → Prop) : Prop where
  ow : ∀ a, own a = true → H a ≠ none
  sl : Slots K own H σ δ
  wi : WishX K (fun c d H => W c d σ H) own H PX
theorem Sy.mono {K : Fr} {W : WX} {own : Addr → Bool} {σ : L2.St} {H H' : Hp} {δ : List Slot} {PX : Xd → Prop} (e : Ex H H') (h : Sy K W own σ H δ PX) : Sy K W own σ H' δ PX :=
  ⟨fun a ha z => h.ow a ha (e.free z), h.sl.mono e, h.wi.mono e⟩

def WE (K : Fr) (W : WX) (t : TE) (δ : List Slot) (P : D → Prop) (PX : Xd → Prop) : Prop := ∀ σ H own (Q : VK), Sy K W own σ H δ PX → (∀ d v H2, P d → Ex H H2 → Rep K (mask own H2) d v → Q v H2) → t σ H Q
/-- read alone: what is owned may be seen -/
def WR (K : Fr) (W : WX) (t : TE) (δ : List Slot) (P : D → Prop) (PX : Xd → Prop) : Prop := ∀ σ H own (Q : VK), Sy K W own σ H δ PX → (∀ d v H2, P d → Ex H H2 → Rep K H2 d v → Q v H2) → t σ H Q
def WT (K : Fr) (W : WX) (t : TT) (δ : List Slot) (P : Bool → Prop) (PX : Xd → Prop) : Prop := ∀ σ H own (Q : Bool → Hp → Prop), Sy K W own σ H δ PX → (∀ b H2, P b → Ex H H2 → Q b H2) → t σ H Q
def WA (K : Fr) (W : WX) (t : TA) (δ : List Slot) (P : List D → Prop) (PX : Xd → Prop) : Prop := ∀ σ H own (Q : List V → Hp → Prop), Sy K W own σ H δ PX → (∀ ds vs H2, P ds → Ex H H2 → RepL K (mask own H2) ds vs → Q vs H2) → t σ H Q
/-- arguments that are read alone -/
def WAR (K : Fr) (W : WX) (t : TA) (δ : List Slot) (P : List D → Prop) (PX : Xd → Prop) : Prop := ∀ σ H own (Q : List V → Hp → Prop), Sy K W own σ H δ PX → (∀ ds vs H2, P ds → Ex H H2 → RepL K H2 ds vs → Q vs H2) → t σ H Q

/-! the greatest reading of a piece of syntax -/
def semE (X : Cx) (e : Expr) : TE := fun σ H Q => ∀ (pins : List (Addr × Obj)) (s : Shared), Inv X pins σ H s → wpAny (model X.prog X.w) X.A (eval e X.env) (EP X pins σ Q) X.xe s
theorem pe_sem {X : Cx} {e : Expr} : PE X e (semE X e) := ⟨fun pins s _ _ _ I h => h pins s I⟩
theorem sem_peL {X : Cx} {e : Expr} {t : TE} {σ : L2.St} {H : Hp} {Q : VK} (h : PE X e t) (q : σ.length = X.N.length → t σ H Q) : semE X e σ H Q := fun pins s I => h.run pins s σ H Q I (q I.len)
theorem sem_pe {X : Cx} {e : Expr} {t : TE} {σ : L2.St} {H : Hp} {Q : VK} (h : PE X e t) (q : t σ H Q) : semE X e σ H Q := fun pins s I => h.run pins s σ H Q I q
def semT (X : Cx) (e : Expr) : TT := fun σ H Q => ∀ (pins : List (Addr × Obj)) (s : Shared), Inv X pins σ H s → wpAny (model X.prog X.w) X.A (isTrue e X.env (eval e X.env)) (TP X pins σ Q) X.xe s
theorem pt_sem {X : Cx} {e : Expr} : PT X e (semT X e) := ⟨fun pins s _ _ _ I h => h pins s I⟩
theorem sem_pt {X : Cx} {e : Expr} {t : TT} {σ : L2.St} {H : Hp} {Q : Bool → Hp → Prop} (h : PT X e t) (q : t σ H Q) : semT X e σ H Q := fun pins s I => h.run pins s σ H Q I q
def semW (X : Cx) (e : Expr) : TT := fun σ H Q => ∀ (whole : Sem Value) (pins : List (Addr × Obj)) (s : Shared), Inv X pins σ H s → wpAny (model X.prog X.w) X.A (isTrue e X.env whole) (TP X pins σ Q) X.xe s
theorem pw_sem {X : Cx} {e : Expr} : PW X e (semW X e) := ⟨fun whole pins s _ _ _ I h => h whole pins s I⟩
theorem sem_pw {X : Cx} {e : Expr} {t : TT} {σ : L2.St} {H : Hp} {Q : Bool → Hp → Prop} (h : PW X e t) (q : t σ H Q) : semW X e σ H Q := fun whole pins s I => h.run whole pins s σ H Q I q
def semA (X : Cx) (es : List Expr) : TA := fun σ H Q => ∀ (pos : Pos) (pins : List (Addr × Obj)) (s : Shared), Inv X pins σ H s → wpAny (model X.prog X.w) X.A (spliced (backTo pos (starEach es X.env))) (AP X pins σ Q) X.xe s
theorem pa_sem {X : Cx} {es : List Expr} : PA X es (semA X es) := ⟨fun pos pins s _ _ _ I h => h pos pins s I⟩
theorem sem_pa {X : Cx} {es : List Expr} {t : TA} {σ : L2.St} {H : Hp} {Q : List V → Hp → Prop} (h : PA X es t) (q : t σ H Q) : semA X es σ H Q := fun pos pins s I => h.run pos pins s σ H Q I q

def DE (X : Cx) (W : WX) (e : Expr) (δ : List Slot) (P : D → Prop) (PX : Xd → Prop) : Prop := WE X.K W (semE X e) δ P PX
def DR (X : Cx) (W : WX) (e : Expr) (δ : List Slot) (P : D → Prop) (PX : Xd → Prop) : Prop := WR X.K W (semE X e) δ P PX
def DT (X : Cx) (W : WX) (e : Expr) (δ : List Slot) (P : Bool → Prop) (PX : Xd → Prop) : Prop := WT X.K W (semT X e) δ P PX
def DW (X : Cx) (W : WX) (e : Expr) (δ : List Slot) (P : Bool → Prop) (PX : Xd → Prop) : Prop := WT X.K W (semW X e) δ P PX
def DA (X : Cx) (W : WX) (es : List Expr) (δ : List Slot) (P : List D → Prop) (PX : Xd → Prop) : Prop := WA X.K W (semA X es) δ P PX
def DAR (X : Cx) (W : WX) (es : List Expr) (δ : List Slot) (P : List D → Prop) (PX : Xd → Prop) : Prop := WAR X.K W (semA X es) δ P PX

/-- what the rules ask of the place where the code runs -/
structure Ctx (X : Cx) (W : WX) (k : Nat) : Prop where
  room : Room k X.A
  calm : X.calm = true
  tk : Takes X W
  nd : X.N.Nodup
theorem Ctx.u64 {X : Cx} {W : WX} {k : Nat} (c : Ctx X W k) : X.A.units + 64 < cLine := c.room.units
theorem Ctx.u0 {X : Cx} {W : WX} {k : Nat} (c : Ctx X W k) : X.A.units < cLine := by have := c.u64; omega

section
variable {K : Fr} {W : WX} {δ : List Slot} {P : D → Prop} {PX : Xd → Prop} {ta tb te : TE} {tt tu : TT} {PB : Bool → Prop}
theorem WE.toR (h : WE K W te δ P PX) : WR K W te δ P PX := fun σ H own Q S q => h σ H own Q S fun d v H2 p e r => q d v H2 p e (r.mono mask_le)
theorem WE.imp {P' : D → Prop} (h : WE K W te δ P PX) (i : ∀ d, P d → P' d) : WE K W te δ P' PX := fun σ H own Q S q => h σ H own Q S fun d v H2 p => q d v H2 (i d p)

/-- an operation's way over data -/
def RW (K : Fr) (r : R2) (x y : D) (P : D → Prop) : Prop := ∀ v w H own (Q : VK), (∀ a, own a = true → H a ≠ none) → Rep K (mask own H) x v → Rep K (mask own H) y w → (∀ d u H2, P d → Ex H H2 → Rep K (mask own H2) d u → Q u H2) → r v w H Q
theorem we_op {r : R2} (h : WE K W ta δ (fun x => WE K W tb δ (fun y => RW K r x y P) PX) PX) : WE K W (tOp r ta tb) δ P PX := by
  intro σ H own Q S q
  refine h σ H own _ S fun x v H1 hx e1 r1 => ?_
  refine hx σ H1 own _ (S.mono e1) fun y w H2 hy e2 r2 => ?_
  refine hy v w H2 own Q (S.mono (e1.trans e2)).ow (r1.mono (mask_ex e2)) r2 fun d u H3 p e3 r3 => ?_
  exact q d u H3 p ((e1.trans e2).trans e3) r3
/-- the same by reading alone, where what comes out is flat -/
theorem wr_op {r : R2} (h : WR K W ta δ (fun x => WR K W tb δ (fun y => RW K r x y (fun d => d.flat = true ∧ P d)) PX) PX) : WE K W (tOp r ta tb) δ P PX := by
  intro σ H own Q S q
  refine h σ H own _ S fun x v H1 hx e1 r1 => ?_
  refine hx σ H1 own _ (S.mono e1) fun y w H2 hy e2 r2 => ?_
  refine hy v w H2 (fun _ => false) Q (fun a z => by cases z) (by rw [mask_none]; exact r1.mono e2) (by rw [mask_none]; exact r2) fun d u H3 p e3 r3 => ?_
  rw [mask_none] at r3
  exact q d u H3 p.2 ((e1.trans e2).trans e3) (r3.flat p.1)
def RU (K : Fr) (r : V → Hp → VK → Prop) (x : D) (P : D → Prop) : Prop := ∀ v H own (Q : VK), (∀ a, own a = true → H a ≠ none) → Rep K (mask own H) x v → (∀ d u H2, P d → Ex H H2 → Rep K (mask own H2) d u → Q u H2) → r v H Q
theorem we_un {r : V → Hp → VK → Prop} (h : WE K W ta δ (fun x => RU K r x P) PX) : WE K W (tUn r ta) δ P PX := by
  intro σ H own Q S q
  refine h σ H own _ S fun x v H1 hx e1 r1 => ?_
  refine hx v H1 own Q (S.mono e1).ow r1 fun d u H3 p e3 r3 => ?_
  exact q d u H3 p (e1.trans e3) r3

/-! ### what an operation asks of data -/
theorem rw_or1 {r r' : R2} {x y : D} (h : RW K r x y P) : RW K (fun x y H Q => r x y H Q ∨ r' x y H Q) x y P := fun v w H own Q o a b q => .inl (h v w H own Q o a b q)
theorem rw_or2 {r r' : R2} {x y : D} (h : RW K r' x y P) : RW K (fun x y H Q => r x y H Q ∨ r' x y H Q) x y P := fun v w H own Q o a b q => .inr (h v w H own Q o a b q)
theorem rw_I {C : Int → Int → Prop} {g : Int → Int → V} {i j : Int} {d : D} (hd : ∀ H, Rep K H d (g i j)) (c : C i j) (p : P d) : RW K (rI C g) (.int i) (.int j) P := fun v w H own Q _ a b q => ⟨i, j, a, b, c, q d _ H p (Ex.refl H) (hd _)⟩
theorem rw_I0 {g : Int → Int → V} {i j : Int} {d : D} (hd : ∀ H, Rep K H d (g i j)) (p : P d) : RW K (rI0 g) (.int i) (.int j) P := fun v w H own Q _ a b q => ⟨i, j, a, b, q d _ H p (Ex.refl H) (hd _)⟩
end

section
variable {X : Cx}
theorem OpR.or {f : Value → Value → Sem Value} {r r' : R2} (h : OpR X f r) (h' : OpR X f r') : OpR X f (fun x y H Q => r x y H Q ∨ r' x y H Q) := fun pins s σ H x y v u Q I rx ry q =>
  q.elim (h pins s σ H x y v u Q I rx ry) (h' pins s σ H x y v u Q I rx ry)
/-- list + list, however they stand -/
def rCatS (K : Fr) : R2 := fun x y H Q => ∃ l b xs zs, x = .ref l ∧ y = .ref b ∧ SqL K H l xs ∧ SqL K H b zs ∧ xs.length + zs.length ≤ sizeLine ∧ ∀ p, H p = none → Q (.ref p) (upd H p (.lst (xs ++ zs)))
theorem op_catS : OpR X (binaryOp .Add) (rCatS X.K) := by
  intro pins s σ H x y v u Q I rx ry h
  obtain ⟨l, b, xs, zs, rfl, rfl, hH, hB, hz, q⟩ := h
  cases rx; cases ry
  obtain ⟨its, r, ⟨⟨cls, dd, data, sl⟩, _, ho, hc, hd0, hd⟩, h1⟩ := I.list hH
  obtain ⟨its2, r2, ⟨⟨cls2, dd2, data2, sl2⟩, _, ho2, hc2, hd02, hd2⟩, h2⟩ := I.list hB
  simp only at hc hd hc2 hd2
  subst hc hd hc2 hd2
  have e1 := r.length
  have e2 := r2.length
  have ea : its.toArray ++ its2.toArray = (its ++ its2).toArray := by simp
  refine concat_meets ⟨_, ho, rfl⟩ ⟨_, ho2, rfl⟩ noFill_list_add seq_list_add PySem.F.slot_list_add PySem.F.entry_list_add (PySem.F.args_list_add_2 _ _)
    (list_addW l b its.toArray its2.toArray _ _ dd dd2 sl sl2 (by simp only [List.size_toArray]; omega)) ⟨ho, ho2, ?_⟩
  rw [ea]
  exact ⟨.ref _, _, I.lnew (t' := s.toks) (r.append r2) (by rw [List.length_append]; omega), rfl, q _ I.fresh⟩
end
end PV

set_option Elab.async false
set_option linter.all false
set_option maxRecDepth 100000
set_option maxHeartbeats 2000000
/-! PV3: where code runs, names, constants, operators, comparisons, tests, displays, calls. -/
namespace PV
open PySem PySem.Spec PyProof.Rows L2

/-- what is fixed through the whole law -/
structure Md where
  P : Program
  w : World
  K : Fr
  mg : Str → Option Value
  base : Heap
/-- where the code runs: a def's body, a block of a comprehension, a try's body -/
structure Ct (M : Md) (X : Cx) (W : WX) (k : Nat) (N : List Str) (sc : Scope) : Prop where
  room : Room k X.A
  calm : X.calm = true
  tk : Takes X W
  nd : X.N.Nodup
  hP : X.prog = M.P
  hw : X.w = M.w
  hK : X.K = M.K
  hmg : X.mg = M.mg
  hb : X.base = M.base
  hN : X.N = N
  gl : ∀ x, sc.names.lookup x = some .globalImplicit → Gl X x
  vis : ∀ x, Vis sc x → Vis X.env.scope x
  lcl : ∀ x, sc.names.lookup x = some .local → X.env.scope.names.lookup x = some .local
  kind : X.env.scope.kind = .function
  loc : ∀ x, Loc sc x → Loc X.env.scope x
  blk : ∀ scope own, blkC N sc scope own = true → BlkOk X.N X.env.scope scope own
  po : PassesOwn (model X.prog X.w) X.A X.env X.xe
  fn : ∀ x, Loc sc x → X.fn x = true ∨ X.env.scope.names.lookup x = some .local
inductive At : List Str → List Slot → Str → Nat → Slot → Prop
  | z {x N s δ} : At (x :: N) (s :: δ) x 0 s
  | s {x y N s t δ i} : At N δ x i s → At (y :: N) (t :: δ) x (i + 1) s
theorem At.N {N : List Str} {δ : List Slot} {x : Str} {i : Nat} {s : Slot} (h : At N δ x i s) : N[i]? = some x := by
  induction h with
  | z => rfl
  | s _ ih => simpa using ih
theorem At.S {N : List Str} {δ : List Slot} {x : Str} {i : Nat} {s : Slot} (h : At N δ x i s) : δ[i]? = some s := by
  induction h with
  | z => rfl
  | s _ ih => simpa using ih
theorem At.lt {M : Md} {X : Cx} {W : WX} {k : Nat} {sc : Scope} {N : List Str} {δ : List Slot} {x : Str} {i : Nat} {s : Slot} (h : At N δ x i s) (c : Ct M X W k N sc) {σ : L2.St} (hl : σ.length = X.N.length) : i < σ.length := by
  rw [hl, c.hN]
  exact (List.getElem?_eq_some_iff.mp h.N).1
inductive Put : List Str → List Slot → Str → Slot → Nat → List Slot → Prop
  | z {x N t s δ} : Put (x :: N) (t :: δ) x s 0 (s :: δ)
  | s {x y N t s δ i δ'} : Put N δ x s i δ' → Put (y :: N) (t :: δ) x s (i + 1) (t :: δ')
theorem Put.N {N : List Str} {δ δ' : List Slot} {x : Str} {i : Nat} {s : Slot} (h : Put N δ x s i δ') : N[i]? = some x := by
  induction h with
  | z => rfl
  | s _ ih => simpa using ih
theorem Put.S {N : List Str} {δ δ' : List Slot} {x : Str} {i : Nat} {s : Slot} (h : Put N δ x s i δ') : δ' = δ.set i s := by
  induction h with
  | z => rfl
  | s _ ih => simp [ih]

theorem RepL.rep {K : Fr} {H : Hp} {ds : List D} {vs : List V} (h : RepL K H ds vs) : ∀ n : Nat, RepL K H (List.replicate n ds).flatten (List.replicate n vs).flatten
  | 0 => rfl
  | n + 1 => by
    rw [List.replicate_succ, List.replicate_succ, List.flatten_cons, List.flatten_cons]
    exact h.append (RepL.rep h n)
def GlS (sc : Scope) (x : Str) : Prop := sc.names.lookup x = some .globalImplicit
/-- a module's constant -/
def GlD (M : Md) (x : Str) (d : D) : Prop := ∃ v u, M.mg x = some u ∧ RelV v u ∧ ∀ H, Rep M.K H d v
/-- a name that the module doesn't bind: a built-in's -/
def Bi (M : Md) (x : Str) : Prop := M.mg x = none

section
variable {M : Md} {X : Cx} {W : WX} {k : Nat} {N : List Str} {sc : Scope} {δ : List Slot} {P : D → Prop} {PX : Xd → Prop} {e a b : Expr} {es : List Expr} {pos p : Pos} {x : Str}
theorem Ct.u64 (c : Ct M X W k N sc) : X.A.units + 64 < cLine := c.room.units
theorem Ct.u65 (c : Ct M X W k N sc) : X.A.units + 65 < cLine := by
  have h := c.room.un
  have : cLine = 9900 := by first | rfl | decide
  omega
theorem Ct.u0 (c : Ct M X W k N sc) : X.A.units < cLine := by have := c.u64; omega
theorem de_mk {t : TE} (h : PE X e t) (w : WE X.K W t δ P PX) : DE X W e δ P PX := fun σ H own Q S q => sem_pe h (w σ H own Q S q)
theorem dt_mk {t : TT} {P : Bool → Prop} (h : PT X e t) (w : WT X.K W t δ P PX) : DT X W e δ P PX := fun σ H own Q S q => sem_pt h (w σ H own Q S q)

/-! ### names, constants -/
theorem de_name (c : Ct M X W k N sc) {i : Nat} {d : D} (h : At N δ x i (.val d)) (hv : Vis sc x) (p : P d) (hd : (x == ("__debug__" : Str)) = false := by decide) (hcd : (x == ("__classdict__" : Str)) = false := by decide) : DE X W (.Name x pos) δ P PX := by
  intro σ H own Q S q
  refine sem_peL (t := tVar i) (pe_var (by rw [c.hN]; exact h.N) (c.vis _ hv) hd hcd) fun hl => ?_
  obtain ⟨y, h1, v, rfl, r⟩ := S.sl.at (h.lt c hl) h.S
  exact ⟨v, h1, q d v H p (Ex.refl H) r⟩
theorem dr_of (h : DE X W e δ P PX) : DR X W e δ P PX := WE.toR h
theorem dr_acc (c : Ct M X W k N sc) {i : Nat} {ds : List D} (h : At N δ x i (.acc ds)) (hv : Vis sc x) (p : P (.lst ds)) (hd : (x == ("__debug__" : Str)) = false := by decide) (hcd : (x == ("__classdict__" : Str)) = false := by decide) : DR X W (.Name x pos) δ P PX := by
  intro σ H own Q S q
  refine sem_peL (t := tVar i) (pe_var (by rw [c.hN]; exact h.N) (c.vis _ hv) hd hcd) fun hl => ?_
  obtain ⟨y, h1, l, vs, rfl, _, h3, r⟩ := S.sl.at (h.lt c hl) h.S
  exact ⟨_, h1, q _ _ H p (Ex.refl H) ⟨l, vs, rfl, SqL.of h3, r.mono mask_le⟩⟩
theorem dr_adi (c : Ct M X W k N sc) {i : Nat} {ds : List (Key × D)} (h : At N δ x i (.adi ds)) (hv : Vis sc x) (p : P (.dic ds)) (hd : (x == ("__debug__" : Str)) = false := by decide) (hcd : (x == ("__classdict__" : Str)) = false := by decide) : DR X W (.Name x pos) δ P PX := by
  intro σ H own Q S q
  refine sem_peL (t := tVar i) (pe_var (by rw [c.hN]; exact h.N) (c.vis _ hv) hd hcd) fun hl => ?_
  obtain ⟨y, h1, l, vs, rfl, _, h3, r⟩ := S.sl.at (h.lt c hl) h.S
  exact ⟨_, h1, q _ _ H p (Ex.refl H) ⟨l, vs, rfl, h3, r.mono mask_le⟩⟩
theorem we_c {K : Fr} {v : V} {d : D} (r : ∀ H, Rep K H d v) (p : P d) : WE K W (tC v) δ P PX := fun σ H own Q S q => q d v H p (Ex.refl H) (r _)
theorem de_int {i : Int} {j : Nat} (p : P (.int i)) : DE X W (.Constant (.int i) j pos) δ P PX := de_mk pe_int (we_c (d := .int i) (fun _ => rfl) p)
theorem de_bl {i : Bool} {j : Nat} (p : P (.bl i)) : DE X W (.Constant (.bool i) j pos) δ P PX := de_mk pe_bl (we_c (d := .bl i) (fun _ => rfl) p)
theorem de_non {j : Nat} (p : P .non) : DE X W (.Constant .none j pos) δ P PX := de_mk pe_non (we_c (d := .non) (fun _ => rfl) p)
theorem de_str {i : Str} {j : Nat} (p : P (.str i)) : DE X W (.Constant (.str i) j pos) δ P PX := de_mk pe_str (we_c (d := .str i) (fun _ => rfl) p)
theorem de_glob (c : Ct M X W k N sc) {d : D} (g : GlD M x d) (hg : GlS sc x) (p : P d) (hd : (x == ("__debug__" : Str)) = false := by decide) : DE X W (.Name x pos) δ P PX := by
  obtain ⟨v, u, h1, h2, h3⟩ := g
  exact de_mk (pe_glob (c.gl _ hg) (by rw [c.hmg]; exact h1) h2 hd) (we_c (fun H => by rw [c.hK]; exact h3 H) p)

/-! ### operators -/
theorem de_bin {op : Operator} {r : R2} (ho : OpR X (binaryOp op) r) (h : DE X W a δ (fun x => DE X W b δ (fun y => RW X.K r x y P) PX) PX) : DE X W (.BinOp a op b pos) δ P PX :=
  de_mk (pe_op ho pe_sem pe_sem) (we_op h)
def rAddA (K : Fr) : R2 := fun x y H Q => rI0 (fun i j => .int (i + j)) x y H Q ∨ (∃ i j, x = .str i ∧ y = .str j ∧ i.length + j.length ≤ sizeLine ∧ Q (.str (i ++ j)) H) ∨ rCatS K x y H Q ∨ rCatA K x y H Q
theorem de_add (h : DE X W a δ (fun x => DE X W b δ (fun y => RW X.K (rAddA X.K) x y P) PX) PX) : DE X W (.BinOp a .Add b pos) δ P PX :=
  de_bin (op_add.or (op_add_str.or (op_catS.or op_catA))) h
theorem o_add_i {K : Fr} {i j : Int} (p : P (.int (i + j))) : RW K (rAddA K) (.int i) (.int j) P := rw_or1 (rw_I0 (d := .int (i + j)) (fun _ => rfl) p)
theorem o_add_s {K : Fr} {i j : Str} (hz : i.length + j.length ≤ 16777216) (p : P (.str (i ++ j))) : RW K (rAddA K) (.str i) (.str j) P :=
  rw_or2 (rw_or1 fun v w H own Q _ a b q => ⟨i, j, a, b, by rw [sizeLine_eq]; exact hz, q _ _ H p (Ex.refl H) rfl⟩)
theorem o_add_l {K : Fr} {ds es : List D} (hz : ds.length + es.length ≤ 16777216) (p : P (.lst (ds ++ es))) : RW K (rAddA K) (.lst ds) (.lst es) P :=
  rw_or2 (rw_or2 (rw_or1 fun v w H own Q o a b q => by
    obtain ⟨l, vs, rfl, h1, h2⟩ := a
    obtain ⟨l', vs', rfl, h3, h4⟩ := b
    refine ⟨l, l', vs, vs', rfl, rfl, mask_le.sqL h1, mask_le.sqL h3, by rw [h2.length, h4.length, sizeLine_eq]; exact hz, fun p' hp => ?_⟩
    refine q _ _ _ p (Ex.new hp) ?_
    rw [mask_new o hp]
    exact ⟨p', _, rfl, SqL.of upd_same, (h2.append h4).mono (Ex.new (mask_at hp))⟩))
theorem o_add_t {K : Fr} {ds es : List D} (hz : ds.length + es.length ≤ 16777216) (p : P (.tup (ds ++ es))) : RW K (rAddA K) (.tup ds) (.tup es) P :=
  rw_or2 (rw_or2 (rw_or2 fun v w H own Q o a b q => by
    obtain ⟨l, vs, rfl, h1, h2⟩ := a
    obtain ⟨l', vs', rfl, h3, h4⟩ := b
    refine ⟨l, l', vs, vs', rfl, rfl, mask_le.sqT h1, mask_le.sqT h3, by rw [h2.length, h4.length, sizeLine_eq]; exact hz, fun z => ?_, fun _ z => ?_, fun _ _ p' hp => ?_⟩
    · have e := h2.length
      rw [z] at e
      have e' : ds = [] := List.eq_nil_of_length_eq_zero e.symm
      refine q _ _ H p (Ex.refl H) ?_
      rw [e']
      exact ⟨l', vs', rfl, h3, h4⟩
    · have e := h4.length
      rw [z] at e
      have e' : es = [] := List.eq_nil_of_length_eq_zero e.symm
      refine q _ _ H p (Ex.refl H) ?_
      rw [e', List.append_nil]
      exact ⟨l, vs, rfl, h1, h2⟩
    · refine q _ _ _ p (Ex.new hp) ?_
      rw [mask_new o hp]
      exact ⟨p', _, rfl, SqT.of upd_same, (h2.append h4).mono (Ex.new (mask_at hp))⟩))
def rSubA : R2 := rI0 fun i j => .int (i - j)
theorem de_sub (h : DE X W a δ (fun x => DE X W b δ (fun y => RW X.K rSubA x y P) PX) PX) : DE X W (.BinOp a .Sub b pos) δ P PX := de_bin op_sub h
theorem o_sub {K : Fr} {i j : Int} (p : P (.int (i - j))) : RW K rSubA (.int i) (.int j) P := rw_I0 (d := .int (i - j)) (fun _ => rfl) p
def rDiv : R2 := fun x y H Q => rI CDiv (fun i j => .int (i / j)) x y H Q ∨ rI CDivW (fun i j => .int (i / j)) x y H Q
theorem de_div (h : DE X W a δ (fun x => DE X W b δ (fun y => RW X.K rDiv x y P) PX) PX) : DE X W (.BinOp a .FloorDiv b pos) δ P PX := de_bin (op_fdiv.or op_fdivW) h
theorem o_div {K : Fr} {i j : Int} (h0 : 0 < j) (h1 : j < 1073741824) (p : P (.int (i / j))) : RW K rDiv (.int i) (.int j) P := rw_or1 (rw_I (d := .int (i / j)) (fun _ => rfl) ⟨h0, h1⟩ p)
theorem o_divW {K : Fr} {i j : Int} (h0 : 0 < j) (h1 : j.natAbs < 2 ^ 8000) (p : P (.int (i / j))) : RW K rDiv (.int i) (.int j) P := rw_or2 (rw_I (d := .int (i / j)) (fun _ => rfl) (wide_div h0 h1 (by decide) (by decide)) p)
def rModA : R2 := rI (fun _ j => 0 < j) fun i j => .int (i % j)
theorem de_mod (h : DE X W a δ (fun x => DE X W b δ (fun y => RW X.K rModA x y P) PX) PX) : DE X W (.BinOp a .Mod b pos) δ P PX := de_bin op_mod h
theorem o_mod {K : Fr} {i j : Int} (h0 : 0 < j) (p : P (.int (i % j))) : RW K rModA (.int i) (.int j) P := rw_I (d := .int (i % j)) (fun _ => rfl) h0 p
def rPowA : R2 := rI CPow fun i j => .int (i ^ j.toNat)
theorem de_pow (h : DE X W a δ (fun x => DE X W b δ (fun y => RW X.K rPowA x y P) PX) PX) : DE X W (.BinOp a .Pow b pos) δ P PX := de_bin op_pow h
theorem o_pow {K : Fr} {i j : Int} (h0 : 0 ≤ j) (h1 : j ≤ 1000000) (h2 : i.natAbs < 2 ^ 64) (p : P (.int (i ^ j.toNat))) : RW K rPowA (.int i) (.int j) P := rw_I (d := .int (i ^ j.toNat)) (fun _ => rfl) ⟨h0, h1, h2⟩ p

/-- list * int, however it stands -/
def rRepS (K : Fr) : R2 := fun x y H Q => ∃ l k xs, x = .ref l ∧ y = .int k ∧ SqL K H l xs ∧ 0 ≤ k ∧ k < 100000 ∧ xs.length * k.toNat ≤ sizeLine ∧ ∀ p, H p = none → Q (.ref p) (upd H p (.lst (List.replicate k.toNat xs).flatten))
def rMulS : R2 := fun x y H Q => ∃ x' i, x = .str x' ∧ y = .int i ∧ MulOk x' i ∧ Q (.str (Txt.mul x' i)) H
theorem op_mulS : OpR X (binaryOp .Mult) rMulS := by
  intro pins s σ H x y v u Q I rx ry h
  obtain ⟨x', i, rfl, rfl, ok, q⟩ := h
  obtain ⟨t, rfl⟩ := rx
  obtain ⟨t2, rfl⟩ := ry
  exact SB.mul ok fun t' k => ⟨.str _, H, I.tok _, ⟨_, rfl⟩, q⟩
def rMul : R2 := fun x y H Q => rI CMul (fun i j => .int (i * j)) x y H Q ∨ rI CMulW (fun i j => .int (i * j)) x y H Q ∨ rMulS x y H Q ∨ rRep x y H Q
theorem de_mul (h : DE X W a δ (fun x => DE X W b δ (fun y => RW X.K rMul x y P) PX) PX) : DE X W (.BinOp a .Mult b pos) δ P PX := de_bin (op_mul.or (op_mulW.or (op_mulS.or op_rep))) h
theorem o_mul {K : Fr} {i j : Int} (h : CMul i j) (p : P (.int (i * j))) : RW K rMul (.int i) (.int j) P := rw_or1 (rw_I (d := .int (i * j)) (fun _ => rfl) h p)
theorem o_mulW {K : Fr} {i j : Int} (h : CMulW i j) (p : P (.int (i * j))) : RW K rMul (.int i) (.int j) P := rw_or2 (rw_or1 (rw_I (d := .int (i * j)) (fun _ => rfl) h p))
theorem o_mulS {K : Fr} {i : Str} {j : Int} (h : MulOk i j) (p : P (.str (Txt.mul i j))) : RW K rMul (.str i) (.int j) P := rw_or2 (rw_or2 (rw_or1 fun v w H own Q _ a b q => ⟨i, j, a, b, h, q _ _ H p (Ex.refl H) rfl⟩))
/-- [..] * n, the list told right there -/
theorem de_rep {es : List Expr} {p2 : Pos} {n : Int} {j : Nat} {p3 : Pos} (h : DA X W es δ (fun ds => 0 ≤ n ∧ n < 100000 ∧ ds.length ≤ 100 ∧ P (.lst (List.replicate n.toNat ds).flatten)) PX) : DE X W (.BinOp (.List es p2) .Mult (.Constant (.int n) j p3) pos) δ P PX := by
  refine de_mk (pe_op op_rep (pe_lst pa_sem) pe_int) ?_
  intro σ H own Q S q
  refine h σ H own _ S fun ds vs H1 ⟨h0, h1, h2, p⟩ e1 r => ?_
  have hl := r.length
  refine ⟨by rw [hl, sizeLine_eq]; omega, fun l hl1 => ?_⟩
  refine ⟨l, n, vs, rfl, rfl, upd_same, by omega, by omega, ?_, fun p' hp => ?_⟩
  · have : ds.length * n.toNat ≤ 100 * 100000 := Nat.mul_le_mul h2 (by omega)
    rw [hl, sizeLine_eq]; omega
  · have hw := (S.mono e1).ow
    have e2 : Ex H1 (upd H1 l (.lst vs)) := Ex.new hl1
    refine q _ _ _ p (e1.trans (e2.trans (Ex.new hp))) ?_
    rw [mask_new (fun a ha z => hw a ha (e2.free z)) hp, mask_new hw hl1]
    refine ⟨p', _, rfl, SqL.of upd_same, ?_⟩
    have e3 : Ex (mask own H1) (upd (upd (mask own H1) l (.lst vs)) p' (.lst (List.replicate n.toNat vs).flatten)) := (Ex.new (mask_at hl1)).trans (Ex.new (by rw [← mask_new hw hl1]; exact mask_at hp))
    have r2 := r.mono e3
    exact r2.rep _
end
end PV

set_option Elab.async false
set_option linter.all false
set_option maxRecDepth 100000
set_option maxHeartbeats 2000000
/-! PV4: comparisons, tests, displays, items, slices. -/
namespace PV
open PySem PySem.Spec PyProof.Rows L2

mutual
def D.py : D → PyData
  | .non => .none
  | .bl b => .bool b
  | .int i => .int i
  | .str s => .str s
  | .lst ds => .list (pyL ds)
  | .tup ds => .tuple (pyL ds)
  | .dic _ => .dict []
  | .obj _ _ => .dict []
  | .exc _ _ _ => .dict []
  | .opq _ => .dict []
def pyL : List D → List PyData
  | [] => []
  | d :: ds => d.py :: pyL ds
end
/-- plain data, at most so deep -/
def okN : Nat → D → Bool
  | _, .non => true
  | _, .bl _ => true
  | _, .int _ => true
  | _, .str s => PyData.strOk s
  | n + 1, .lst ds => ds.all (okN n)
  | n + 1, .tup ds => ds.all (okN n)
  | _, _ => false
theorem okN_lay : ∀ (n : Nat) (d : D), okN n d = true → d.py.canLay0 = true ∧ d.py.depth ≤ n := by
  have aux : ∀ (n : Nat) (ds : List D), (∀ d, okN n d = true → d.py.canLay0 = true ∧ d.py.depth ≤ n) → ds.all (okN n) = true → PyData.canLayAll0 (pyL ds) = true ∧ PyData.depthAll (pyL ds) ≤ n := by
    intro n ds ih
    induction ds with
    | nil => intro _; exact ⟨rfl, Nat.zero_le _⟩
    | cons d r ihr =>
      intro h
      rw [List.all_cons, Bool.and_eq_true] at h
      obtain ⟨a1, a2⟩ := ih d h.1
      obtain ⟨b1, b2⟩ := ihr h.2
      refine ⟨?_, ?_⟩
      · show (d.py.canLay0 && PyData.canLayAll0 (pyL r)) = true
        rw [a1, b1]; rfl
      · show max d.py.depth (PyData.depthAll (pyL r)) ≤ n
        omega
  intro n
  induction n with
  | zero => intro d h; cases d <;> first | exact ⟨rfl, Nat.le_refl _⟩ | exact ⟨h, Nat.le_refl _⟩ | cases h
  | succ n ih =>
    intro d h
    cases d with
    | lst ds =>
      obtain ⟨a, b⟩ := aux n ds ih h
      exact ⟨a, Nat.succ_le_succ b⟩
    | tup ds =>
      obtain ⟨a, b⟩ := aux n ds ih h
      exact ⟨a, Nat.succ_le_succ b⟩
    | str s => exact ⟨h, Nat.zero_le _⟩
    | non => exact ⟨rfl, Nat.zero_le _⟩
    | bl b => exact ⟨rfl, Nat.zero_le _⟩
    | int b => exact ⟨rfl, Nat.zero_le _⟩
    | _ => cases h
theorem okN_shaped {d : D} (h : okN 64 d = true) : SeqAt.shaped d.py = true := by
  obtain ⟨a, b⟩ := okN_lay 64 d h
  unfold SeqAt.shaped
  rw [a, decide_eq_true b]; rfl
mutual
theorem Rep.dp {K : Fr} {H : Hp} : ∀ {d : D} {v : V} (n : Nat), okN n d = true → Rep K H d v → Dp K H v d.py
  | .non, _, _, _, h => by cases h; exact .non
  | .bl _, _, _, _, h => by cases h; exact .bl _
  | .int _, _, _, _, h => by cases h; exact .int _
  | .str _, _, _, _, h => by cases h; exact .str _
  | .lst _, _, 0, o, _ => by cases o
  | .lst _, _, n + 1, o, h => by
    obtain ⟨a, vs, rfl, h1, h2⟩ := h
    exact .lst h1 (RepL.dp n o h2)
  | .tup _, _, 0, o, _ => by cases o
  | .tup _, _, n + 1, o, h => by
    obtain ⟨a, vs, rfl, h1, h2⟩ := h
    exact .tup h1 (RepL.dp n o h2)
  | .dic _, _, n, o, _ => by cases n <;> cases o
  | .obj _ _, _, n, o, _ => by cases n <;> cases o
  | .exc _ _ _, _, n, o, _ => by cases n <;> cases o
  | .opq _, _, n, o, _ => by cases n <;> cases o
theorem RepL.dp {K : Fr} {H : Hp} : ∀ {ds : List D} {vs : List V} (n : Nat), ds.all (okN n) = true → RepL K H ds vs → DpAll K H vs (pyL ds)
  | [], _, _, _, h => by cases h; exact .nil
  | d :: ds, _, n, o, h => by
    obtain ⟨v, r, rfl, h1, h2⟩ := h
    rw [List.all_cons, Bool.and_eq_true] at o
    exact .cons (Rep.dp n o.1 h1) (RepL.dp n o.2 h2)
end
/-- == of plain data -/
def eqb (x y : D) : Bool := PyData.eqv x.py y.py

section
variable {M : Md} {X : Cx} {W : WX} {k : Nat} {N : List Str} {sc : Scope} {δ : List Slot} {P : D → Prop} {PX : Xd → Prop} {e a b d2 : Expr} {es : List Expr} {pos p : Pos} {x : Str} {K : Fr}

/-! ### comparisons: both sides are read alone -/
theorem de_cmp {op : CmpOp} {r : R2} (ho : OpR X (compareOp op) r) (hm : behindInMarks op b = false) (h : DR X W a δ (fun x => DR X W b δ (fun y => RW X.K r x y (fun d => d.flat = true ∧ P d)) PX) PX) : DE X W (.Compare a [op] [b] pos) δ P PX :=
  de_mk (pe_cmpR ho pe_sem pe_sem hm) (wr_op h)
def rEqA (K : Fr) : R2 := fun x y H Q => rEq x y H Q ∨ rEqD K x y H Q
def rNeA (K : Fr) : R2 := fun x y H Q => rNe x y H Q ∨ rNeD K x y H Q
theorem de_eq (c : Ct M X W k N sc) (h : DR X W a δ (fun x => DR X W b δ (fun y => RW X.K (rEqA X.K) x y (fun d => d.flat = true ∧ P d)) PX) PX) : DE X W (.Compare a [.Eq] [b] pos) δ P PX := de_cmp (op_eq.or (op_eqD c.u64)) (nomark _) h
theorem de_ne (c : Ct M X W k N sc) (h : DR X W a δ (fun x => DR X W b δ (fun y => RW X.K (rNeA X.K) x y (fun d => d.flat = true ∧ P d)) PX) PX) : DE X W (.Compare a [.NotEq] [b] pos) δ P PX := de_cmp (op_ne.or (op_neD c.u64)) (nomark _) h
theorem scal_str {x y : Str} : decide (V.str x = V.str y) = (x == y) := by
  rw [Bool.eq_iff_iff]; simp
theorem o_eq_s {x y : Str} (p : P (.bl (x == y))) : RW K (rEqA K) (.str x) (.str y) (fun d => d.flat = true ∧ P d) := rw_or1 fun v w H own Q _ a b q => by
  cases a; cases b
  exact ⟨rfl, q (.bl (x == y)) _ H ⟨rfl, p⟩ (Ex.refl H) (congrArg V.bl scal_str)⟩
theorem o_ne_s {x y : Str} (p : P (.bl (!(x == y)))) : RW K (rNeA K) (.str x) (.str y) (fun d => d.flat = true ∧ P d) := rw_or1 fun v w H own Q _ a b q => by
  cases a; cases b
  exact ⟨rfl, q (.bl (!(x == y))) _ H ⟨rfl, p⟩ (Ex.refl H) (congrArg (fun z => V.bl (!z)) scal_str)⟩
theorem o_eq {x y : D} (hx : okN 64 x = true) (hy : okN 64 y = true) (p : P (.bl (eqb x y))) : RW K (rEqA K) x y (fun d => d.flat = true ∧ P d) := rw_or2 fun v w H own Q _ a b q =>
  ⟨x.py, y.py, (a.mono mask_le).dp 64 hx, (b.mono mask_le).dp 64 hy, okN_shaped hx, okN_shaped hy, q _ _ H ⟨rfl, p⟩ (Ex.refl H) rfl⟩
theorem o_ne {x y : D} (hx : okN 64 x = true) (hy : okN 64 y = true) (p : P (.bl (!eqb x y))) : RW K (rNeA K) x y (fun d => d.flat = true ∧ P d) := rw_or2 fun v w H own Q _ a b q =>
  ⟨x.py, y.py, (a.mono mask_le).dp 64 hx, (b.mono mask_le).dp 64 hy, okN_shaped hx, okN_shaped hy, q _ _ H ⟨rfl, p⟩ (Ex.refl H) rfl⟩
/-- a flat thing's value -/
def D.fv : D → V
  | .bl b => .bl b
  | .int i => .int i
  | .str s => .str s
  | .opq v => v
  | _ => .non
theorem Rep.fv {H : Hp} {d : D} {v : V} (h : Rep K H d v) (f : d.flat = true) : v = d.fv := by
  cases d <;> first | exact h | cases f
def D.notS : D → Bool
  | .non | .int _ | .bl _ => true
  | _ => false
theorem o_eq_sx {x : Str} {y : D} (hy : y.notS = true) (p : P (.bl false)) : RW K (rEqA K) (.str x) y (fun d => d.flat = true ∧ P d) := rw_or1 fun v w H own Q _ a b q => by
  have e1 : v = .str x := a
  have e2 : w = y.fv := b.fv (by cases y <;> first | rfl | cases hy)
  subst e1; subst e2
  cases y <;> first | (exact ⟨rfl, q (.bl false) _ H ⟨rfl, p⟩ (Ex.refl H) rfl⟩) | cases hy
theorem o_ne_sx {x : Str} {y : D} (hy : y.notS = true) (p : P (.bl true)) : RW K (rNeA K) (.str x) y (fun d => d.flat = true ∧ P d) := rw_or1 fun v w H own Q _ a b q => by
  have e1 : v = .str x := a
  have e2 : w = y.fv := b.fv (by cases y <;> first | rfl | cases hy)
  subst e1; subst e2
  cases y <;> first | (exact ⟨rfl, q (.bl true) _ H ⟨rfl, p⟩ (Ex.refl H) rfl⟩) | cases hy
theorem o_eq_xs {x : Str} {y : D} (hy : y.notS = true) (p : P (.bl false)) : RW K (rEqA K) y (.str x) (fun d => d.flat = true ∧ P d) := rw_or1 fun v w H own Q _ b a q => by
  have e1 : w = .str x := a
  have e2 : v = y.fv := b.fv (by cases y <;> first | rfl | cases hy)
  subst e1; subst e2
  cases y <;> first | (exact ⟨rfl, q (.bl false) _ H ⟨rfl, p⟩ (Ex.refl H) rfl⟩) | cases hy
theorem o_ne_xs {x : Str} {y : D} (hy : y.notS = true) (p : P (.bl true)) : RW K (rNeA K) y (.str x) (fun d => d.flat = true ∧ P d) := rw_or1 fun v w H own Q _ b a q => by
  have e1 : w = .str x := a
  have e2 : v = y.fv := b.fv (by cases y <;> first | rfl | cases hy)
  subst e1; subst e2
  cases y <;> first | (exact ⟨rfl, q (.bl true) _ H ⟨rfl, p⟩ (Ex.refl H) rfl⟩) | cases hy
def rLtA : R2 := rI0 fun i j => .bl (decide (i < j))
theorem o_lt {i j : Int} (p : P (.bl (decide (i < j)))) : RW K rLtA (.int i) (.int j) (fun d => d.flat = true ∧ P d) := rw_I0 (d := .bl (decide (i < j))) (fun _ => rfl) ⟨rfl, p⟩
theorem de_lt (h : DR X W a δ (fun x => DR X W b δ (fun y => RW X.K rLtA x y (fun d => d.flat = true ∧ P d)) PX) PX) : DE X W (.Compare a [.Lt] [b] pos) δ P PX := de_cmp op_lt (nomark _) h
def rLeA : R2 := rI0 fun i j => .bl (decide (i ≤ j))
theorem o_le {i j : Int} (p : P (.bl (decide (i ≤ j)))) : RW K rLeA (.int i) (.int j) (fun d => d.flat = true ∧ P d) := rw_I0 (d := .bl (decide (i ≤ j))) (fun _ => rfl) ⟨rfl, p⟩
theorem de_le (h : DR X W a δ (fun x => DR X W b δ (fun y => RW X.K rLeA x y (fun d => d.flat = true ∧ P d)) PX) PX) : DE X W (.Compare a [.LtE] [b] pos) δ P PX := de_cmp op_le (nomark _) h
def rGtA : R2 := rI0 fun i j => .bl (decide (j < i))
theorem o_gt {i j : Int} (p : P (.bl (decide (j < i)))) : RW K rGtA (.int i) (.int j) (fun d => d.flat = true ∧ P d) := rw_I0 (d := .bl (decide (j < i))) (fun _ => rfl) ⟨rfl, p⟩
theorem de_gt (h : DR X W a δ (fun x => DR X W b δ (fun y => RW X.K rGtA x y (fun d => d.flat = true ∧ P d)) PX) PX) : DE X W (.Compare a [.Gt] [b] pos) δ P PX := de_cmp op_gt (nomark _) h
def rGeA : R2 := rI0 fun i j => .bl (decide (j ≤ i))
theorem o_ge {i j : Int} (p : P (.bl (decide (j ≤ i)))) : RW K rGeA (.int i) (.int j) (fun d => d.flat = true ∧ P d) := rw_I0 (d := .bl (decide (j ≤ i))) (fun _ => rfl) ⟨rfl, p⟩
theorem de_ge (h : DR X W a δ (fun x => DR X W b δ (fun y => RW X.K rGeA x y (fun d => d.flat = true ∧ P d)) PX) PX) : DE X W (.Compare a [.GtE] [b] pos) δ P PX := de_cmp op_ge (nomark _) h
/-- is None, is not None -/
def D.isN : D → Bool
  | .non => true
  | _ => false
def D.known : D → Bool
  | .opq _ => false
  | _ => true
theorem isN_ok {H : Hp} {d : D} {v : V} (hk : d.known = true) (r : Rep K H d v) : decide (v = .non) = d.isN := by
  cases d with
  | opq _ => cases hk
  | non => have e : v = .non := r; subst e; rfl
  | bl b => have e : v = .bl b := r; subst e; rfl
  | int b => have e : v = .int b := r; subst e; rfl
  | str b => have e : v = .str b := r; subst e; rfl
  | lst _ => obtain ⟨a, vs, rfl, _⟩ := r; rfl
  | tup _ => obtain ⟨a, vs, rfl, _⟩ := r; rfl
  | dic _ => obtain ⟨a, vs, rfl, _⟩ := r; rfl
  | obj _ _ => obtain ⟨a, _, vs, rfl, _⟩ := r; rfl
  | exc _ _ _ => obtain ⟨a, rfl, _⟩ := r; rfl
theorem de_isN {j : Nat} {p2 : Pos} (h : DR X W a δ (fun x => x.known = true ∧ P (.bl x.isN)) PX) : DE X W (.Compare a [.Is] [.Constant .none j p2] pos) δ P PX := by
  refine de_mk (pe_cmpR op_isN pe_sem pe_non (nomark _)) ?_
  intro σ H own Q S q
  exact h σ H own _ S fun x v H1 p e1 r => ⟨rfl, by rw [isN_ok p.1 r]; exact q _ _ H1 p.2 e1 rfl⟩
theorem de_notN {j : Nat} {p2 : Pos} (h : DR X W a δ (fun x => x.known = true ∧ P (.bl (!x.isN))) PX) : DE X W (.Compare a [.IsNot] [.Constant .none j p2] pos) δ P PX := by
  refine de_mk (pe_cmpR op_notN pe_sem pe_non (nomark _)) ?_
  intro σ H own Q S q
  exact h σ H own _ S fun x v H1 p e1 r => ⟨rfl, by rw [isN_ok p.1 r]; exact q _ _ H1 p.2 e1 rfl⟩
/-- is True, is not False -/
theorem de_isB (h : DR X W a δ (fun x => DR X W b δ (fun y => ∃ i j, x = .bl i ∧ y = .bl j ∧ P (.bl (decide (i = j)))) PX) PX) : DE X W (.Compare a [.Is] [b] pos) δ P PX := by
  refine de_mk (pe_cmpR op_isBl pe_sem pe_sem (nomark _)) ?_
  intro σ H own Q S q
  refine h σ H own _ S fun x v H1 p e1 r => ?_
  refine p σ H1 own _ (S.mono e1) fun y w H2 ⟨i, j, hx, hy, p2⟩ e2 r2 => ?_
  subst hx; subst hy
  exact ⟨i, j, r, r2, q _ _ H2 p2 (e1.trans e2) rfl⟩
theorem de_notB (h : DR X W a δ (fun x => DR X W b δ (fun y => ∃ i j, x = .bl i ∧ y = .bl j ∧ P (.bl (!decide (i = j)))) PX) PX) : DE X W (.Compare a [.IsNot] [b] pos) δ P PX := by
  refine de_mk (pe_cmpR op_notBl pe_sem pe_sem (nomark _)) ?_
  intro σ H own Q S q
  refine h σ H own _ S fun x v H1 p e1 r => ?_
  refine p σ H1 own _ (S.mono e1) fun y w H2 ⟨i, j, hx, hy, p2⟩ e2 r2 => ?_
  subst hx; subst hy
  exact ⟨i, j, r, r2, q _ _ H2 p2 (e1.trans e2) rfl⟩
/-- a op b op' c of ints -/
theorem de_chain {op op' : CmpOp} {g g' : Int → Int → Bool} (ho : OpR X (compareOp op) (rI0 fun i j => .bl (g i j))) (ho' : OpR X (compareOp op') (rI0 fun i j => .bl (g' i j)))
    (h : DE X W a δ (fun x => DE X W b δ (fun y => ∃ i j, x = .int i ∧ y = .int j ∧ (g i j = true → DE X W d2 δ (fun z => ∃ l, z = .int l ∧ P (.bl (g' j l))) PX) ∧ (g i j = false → P (.bl false))) PX) PX)
    (hm : lastMarks [op, op'] [b, d2] = false := by with_unfolding_all rfl) : DE X W (.Compare a [op, op'] [b, d2] pos) δ P PX := by
  refine de_mk (pe_chain ho ho' pe_sem pe_sem pe_sem hm) ?_
  intro σ H own Q S q
  refine h σ H own _ S fun x v H1 hx e1 r => ?_
  refine hx σ H1 own _ (S.mono e1) fun y w H2 ⟨i, j, hx, hy, p1, p2⟩ e2 r2 => ?_
  subst hx; subst hy
  refine ⟨i, j, r, r2, g i j, rfl, ?_⟩
  cases hg : g i j with
  | true =>
    refine iteT ?_
    refine p1 hg σ H2 own _ (S.mono (e1.trans e2)) fun z u H3 ⟨l, hz, p⟩ e3 r3 => ?_
    subst hz
    exact ⟨j, l, r2, r3, q _ _ H3 p ((e1.trans e2).trans e3) rfl⟩
  | false =>
    refine iteF ?_
    exact q (.bl false) _ H2 (p2 hg) (e1.trans e2) rfl
theorem de_lele (h : DE X W a δ (fun x => DE X W b δ (fun y => ∃ i j, x = .int i ∧ y = .int j ∧ (decide (i ≤ j) = true → DE X W d2 δ (fun z => ∃ l, z = .int l ∧ P (.bl (decide (j ≤ l)))) PX) ∧ (decide (i ≤ j) = false → P (.bl false))) PX) PX)
    (hm : lastMarks [.LtE, .LtE] [b, d2] = false := by with_unfolding_all rfl) : DE X W (.Compare a [.LtE, .LtE] [b, d2] pos) δ P PX := de_chain op_le op_le h hm
theorem de_lelt (h : DE X W a δ (fun x => DE X W b δ (fun y => ∃ i j, x = .int i ∧ y = .int j ∧ (decide (i ≤ j) = true → DE X W d2 δ (fun z => ∃ l, z = .int l ∧ P (.bl (decide (j < l)))) PX) ∧ (decide (i ≤ j) = false → P (.bl false))) PX) PX)
    (hm : lastMarks [.LtE, .Lt] [b, d2] = false := by with_unfolding_all rfl) : DE X W (.Compare a [.LtE, .Lt] [b, d2] pos) δ P PX := de_chain op_le op_lt h hm

/-! ### and, or, not as values; if as a value -/
theorem de_and {rest : List Expr} (h : DE X W a δ (fun x => ∃ i, x = .bl i ∧ (i = true → DE X W (.BoolOp .And (b :: rest) pos) δ P PX) ∧ (i = false → P (.bl false))) PX) : DE X W (.BoolOp .And (a :: b :: rest) pos) δ P PX := by
  refine de_mk (pe_and pe_sem pe_sem) ?_
  intro σ H own Q S q
  refine h σ H own _ S fun x v H1 ⟨i, hx, p1, p2⟩ e1 r => ?_
  subst hx
  refine ⟨i, r, ?_⟩
  cases i with
  | true => exact iteT (p1 rfl σ H1 own _ (S.mono e1) fun d u H2 p e2 => q d u H2 p (e1.trans e2))
  | false => exact iteF (q _ _ H1 (p2 rfl) e1 rfl)
theorem de_or {rest : List Expr} (h : DE X W a δ (fun x => ∃ i, x = .bl i ∧ (i = true → P (.bl true)) ∧ (i = false → DE X W (.BoolOp .Or (b :: rest) pos) δ P PX)) PX) : DE X W (.BoolOp .Or (a :: b :: rest) pos) δ P PX := by
  refine de_mk (pe_or pe_sem pe_sem) ?_
  intro σ H own Q S q
  refine h σ H own _ S fun x v H1 ⟨i, hx, p1, p2⟩ e1 r => ?_
  subst hx
  refine ⟨i, r, ?_⟩
  cases i with
  | true => exact iteT (q _ _ H1 (p1 rfl) e1 rfl)
  | false => exact iteF (p2 rfl σ H1 own _ (S.mono e1) fun d u H2 p e2 => q d u H2 p (e1.trans e2))
theorem de_one {op : BoolOp} (h : DE X W a δ P PX) : DE X W (.BoolOp op [a] pos) δ P PX := de_mk (pe_one pe_sem) h
theorem de_not (h : DE X W a δ (fun x => ∃ i, x = .bl i ∧ P (.bl (!i))) PX) : DE X W (.UnaryOp .Not a pos) δ P PX := by
  refine de_mk (pe_not pe_sem) ?_
  intro σ H own Q S q
  refine h σ H own _ S fun x v H1 ⟨i, hx, p⟩ e1 r => ?_
  subst hx
  exact ⟨i, r, q _ _ H1 p e1 rfl⟩
theorem de_if {t : Expr} (h : DT X W t δ (fun i => (i = true → DE X W a δ P PX) ∧ (i = false → DE X W b δ P PX)) PX) : DE X W (.IfExp t a b pos) δ P PX := by
  refine de_mk (pe_ifExp pt_sem pe_sem pe_sem) ?_
  intro σ H own Q S q
  refine h σ H own _ S fun i H1 ⟨p1, p2⟩ e1 => ?_
  cases i with
  | true => exact iteT (p1 rfl σ H1 own _ (S.mono e1) fun d u H2 p e2 => q d u H2 p (e1.trans e2))
  | false => exact iteF (p2 rfl σ H1 own _ (S.mono e1) fun d u H2 p e2 => q d u H2 p (e1.trans e2))
/-! ### tests -/
section
variable {PB : Bool → Prop}
theorem dt_val (h : DE X W e δ (fun x => ∃ i, x = .bl i ∧ PB i) PX) (he : ∀ whole, isTrue e X.env whole = (do let v ← whole; standAt e.pos; holding [v] (truthy v)) := by intro _; rfl) : DT X W e δ PB PX := by
  refine dt_mk (pt_val pe_sem he) ?_
  intro σ H own Q S q
  refine h σ H own _ S fun x v H1 ⟨i, hx, p⟩ e1 r => ?_
  subst hx
  exact ⟨i, r, q _ H1 p e1⟩
theorem dw_dt (h : DW X W e δ PB PX) : DT X W e δ PB PX := fun σ H own Q S q pins s I => h σ H own Q S q _ pins s I
theorem dw_and {rest : List Expr} (h : DT X W a δ (fun i => (i = true → DW X W (.BoolOp .And (b :: rest) pos) δ PB PX) ∧ (i = false → PB false)) PX) : DW X W (.BoolOp .And (a :: b :: rest) pos) δ PB PX := by
  intro σ H own Q S q
  refine sem_pw (pw_and pt_sem pw_sem) ?_
  refine h σ H own _ S fun i H1 ⟨p1, p2⟩ e1 => ?_
  cases i with
  | true => exact iteT (p1 rfl σ H1 own _ (S.mono e1) fun d H2 p e2 => q d H2 p (e1.trans e2))
  | false => exact iteF (q _ H1 (p2 rfl) e1)
theorem dw_or {rest : List Expr} (h : DT X W a δ (fun i => (i = true → PB true) ∧ (i = false → DW X W (.BoolOp .Or (b :: rest) pos) δ PB PX)) PX) : DW X W (.BoolOp .Or (a :: b :: rest) pos) δ PB PX := by
  intro σ H own Q S q
  refine sem_pw (pw_or pt_sem pw_sem) ?_
  refine h σ H own _ S fun i H1 ⟨p1, p2⟩ e1 => ?_
  cases i with
  | true => exact iteT (q _ H1 (p1 rfl) e1)
  | false => exact iteF (p2 rfl σ H1 own _ (S.mono e1) fun d H2 p e2 => q d H2 p (e1.trans e2))
theorem dw_and1 (h : DT X W a δ PB PX) : DW X W (.BoolOp .And [a] pos) δ PB PX := fun σ H own Q S q => sem_pw (pw_and1 pt_sem) (h σ H own Q S q)
theorem dw_or1 (h : DT X W a δ PB PX) : DW X W (.BoolOp .Or [a] pos) δ PB PX := fun σ H own Q S q => sem_pw (pw_or1 pt_sem) (h σ H own Q S q)
theorem dt_not (h : DT X W a δ (fun i => PB (!i)) PX) : DT X W (.UnaryOp .Not a pos) δ PB PX := fun σ H own Q S q => sem_pt (pt_not pt_sem) (h σ H own (fun i H' => Q (!i) H') S fun i H2 p e => q _ H2 p e)
theorem dt_chain {op op' : CmpOp} {g g' : Int → Int → Bool} (ho : OpR X (compareOp op) (rI0 fun i j => .bl (g i j))) (ho' : OpR X (compareOp op') (rI0 fun i j => .bl (g' i j)))
    (h : DE X W a δ (fun x => DE X W b δ (fun y => ∃ i j, x = .int i ∧ y = .int j ∧ (g i j = true → DE X W d2 δ (fun z => ∃ l, z = .int l ∧ PB (g' j l)) PX) ∧ (g i j = false → PB false)) PX) PX)
    (hm : lastMarks [op, op'] [b, d2] = false := by with_unfolding_all rfl) : DT X W (.Compare a [op, op'] [b, d2] pos) δ PB PX := by
  refine dt_mk (pt_chain ho ho' pe_sem pe_sem pe_sem hm) ?_
  intro σ H own Q S q
  refine h σ H own _ S fun x v H1 hx e1 r => ?_
  refine hx σ H1 own _ (S.mono e1) fun y w H2 ⟨i, j, hx, hy, p1, p2⟩ e2 r2 => ?_
  subst hx; subst hy
  refine ⟨i, j, r, r2, g i j, rfl, ?_⟩
  cases hg : g i j with
  | true =>
    refine iteT ?_
    refine p1 hg σ H2 own _ (S.mono (e1.trans e2)) fun z u H3 ⟨l, hz, p⟩ e3 r3 => ?_
    subst hz
    exact ⟨j, l, r2, r3, _, rfl, q _ H3 p ((e1.trans e2).trans e3)⟩
  | false =>
    refine iteF ?_
    exact ⟨_, rfl, q false H2 (p2 hg) (e1.trans e2)⟩
theorem dt_lele (h : DE X W a δ (fun x => DE X W b δ (fun y => ∃ i j, x = .int i ∧ y = .int j ∧ (decide (i ≤ j) = true → DE X W d2 δ (fun z => ∃ l, z = .int l ∧ PB (decide (j ≤ l))) PX) ∧ (decide (i ≤ j) = false → PB false)) PX) PX)
    (hm : lastMarks [.LtE, .LtE] [b, d2] = false := by with_unfolding_all rfl) : DT X W (.Compare a [.LtE, .LtE] [b, d2] pos) δ PB PX := dt_chain op_le op_le h hm
theorem dt_lelt (h : DE X W a δ (fun x => DE X W b δ (fun y => ∃ i j, x = .int i ∧ y = .int j ∧ (decide (i ≤ j) = true → DE X W d2 δ (fun z => ∃ l, z = .int l ∧ PB (decide (j < l))) PX) ∧ (decide (i ≤ j) = false → PB false)) PX) PX)
    (hm : lastMarks [.LtE, .Lt] [b, d2] = false := by with_unfolding_all rfl) : DT X W (.Compare a [.LtE, .Lt] [b, d2] pos) δ PB PX := dt_chain op_le op_lt h hm
/-- a comparison as a test -/
theorem wt_test {te : TE} (h : WE X.K W te δ (fun x => ∃ i, x = .bl i ∧ PB i) PX) : WT X.K W (tTest te) δ PB PX := fun σ H own Q S q => h σ H own _ S fun d v H2 ⟨i, hd, p⟩ e2 r => by
  subst hd
  exact ⟨i, r, q i H2 p e2⟩
theorem dt_cmpG {op : CmpOp} {r : R2} (ho : OpR X (compareOp op) r) (hm : behindInMarks op b = false) (h : DR X W a δ (fun x => DR X W b δ (fun y => RW X.K r x y (fun d => d.flat = true ∧ ∃ i, d = .bl i ∧ PB i)) PX) PX) : DT X W (.Compare a [op] [b] pos) δ PB PX :=
  dt_mk (pt_cmpR ho pe_sem pe_sem hm) (wt_test (wr_op h))
theorem dt_eq (c : Ct M X W k N sc) (h : DR X W a δ (fun x => DR X W b δ (fun y => RW X.K (rEqA X.K) x y (fun d => d.flat = true ∧ ∃ i, d = .bl i ∧ PB i)) PX) PX) : DT X W (.Compare a [.Eq] [b] pos) δ PB PX := dt_cmpG (op_eq.or (op_eqD c.u64)) (nomark _) h
theorem dt_ne (c : Ct M X W k N sc) (h : DR X W a δ (fun x => DR X W b δ (fun y => RW X.K (rNeA X.K) x y (fun d => d.flat = true ∧ ∃ i, d = .bl i ∧ PB i)) PX) PX) : DT X W (.Compare a [.NotEq] [b] pos) δ PB PX := dt_cmpG (op_ne.or (op_neD c.u64)) (nomark _) h
theorem dt_lt (h : DR X W a δ (fun x => DR X W b δ (fun y => RW X.K rLtA x y (fun d => d.flat = true ∧ ∃ i, d = .bl i ∧ PB i)) PX) PX) : DT X W (.Compare a [.Lt] [b] pos) δ PB PX := dt_cmpG op_lt (nomark _) h
theorem dt_le (h : DR X W a δ (fun x => DR X W b δ (fun y => RW X.K rLeA x y (fun d => d.flat = true ∧ ∃ i, d = .bl i ∧ PB i)) PX) PX) : DT X W (.Compare a [.LtE] [b] pos) δ PB PX := dt_cmpG op_le (nomark _) h
theorem dt_gt (h : DR X W a δ (fun x => DR X W b δ (fun y => RW X.K rGtA x y (fun d => d.flat = true ∧ ∃ i, d = .bl i ∧ PB i)) PX) PX) : DT X W (.Compare a [.Gt] [b] pos) δ PB PX := dt_cmpG op_gt (nomark _) h
theorem dt_ge (h : DR X W a δ (fun x => DR X W b δ (fun y => RW X.K rGeA x y (fun d => d.flat = true ∧ ∃ i, d = .bl i ∧ PB i)) PX) PX) : DT X W (.Compare a [.GtE] [b] pos) δ PB PX := dt_cmpG op_ge (nomark _) h
theorem dt_isN {j : Nat} {p2 : Pos} (h : DR X W a δ (fun x => x.known = true ∧ PB x.isN) PX) : DT X W (.Compare a [.Is] [.Constant .none j p2] pos) δ PB PX := by
  refine dt_mk (pt_cmpR op_isN pe_sem pe_non (nomark _)) ?_
  intro σ H own Q S q
  exact h σ H own _ S fun x v H1 p e1 r => ⟨rfl, _, rfl, by rw [isN_ok p.1 r]; exact q _ H1 p.2 e1⟩
theorem dt_notN {j : Nat} {p2 : Pos} (h : DR X W a δ (fun x => x.known = true ∧ PB (!x.isN)) PX) : DT X W (.Compare a [.IsNot] [.Constant .none j p2] pos) δ PB PX := by
  refine dt_mk (pt_cmpR op_notN pe_sem pe_non (nomark _)) ?_
  intro σ H own Q S q
  exact h σ H own _ S fun x v H1 p e1 r => ⟨rfl, _, rfl, by rw [isN_ok p.1 r]; exact q _ H1 p.2 e1⟩
theorem dt_isB (h : DR X W a δ (fun x => DR X W b δ (fun y => ∃ i j, x = .bl i ∧ y = .bl j ∧ PB (decide (i = j))) PX) PX) : DT X W (.Compare a [.Is] [b] pos) δ PB PX := by
  refine dt_mk (pt_cmpR op_isBl pe_sem pe_sem (nomark _)) ?_
  intro σ H own Q S q
  refine h σ H own _ S fun x v H1 p e1 r => ?_
  refine p σ H1 own _ (S.mono e1) fun y w H2 ⟨i, j, hx, hy, p2⟩ e2 r2 => ?_
  subst hx; subst hy
  exact ⟨i, j, r, r2, _, rfl, q _ H2 p2 (e1.trans e2)⟩
theorem dt_notB (h : DR X W a δ (fun x => DR X W b δ (fun y => ∃ i j, x = .bl i ∧ y = .bl j ∧ PB (!decide (i = j))) PX) PX) : DT X W (.Compare a [.IsNot] [b] pos) δ PB PX := by
  refine dt_mk (pt_cmpR op_notBl pe_sem pe_sem (nomark _)) ?_
  intro σ H own Q S q
  refine h σ H own _ S fun x v H1 p e1 r => ?_
  refine p σ H1 own _ (S.mono e1) fun y w H2 ⟨i, j, hx, hy, p2⟩ e2 r2 => ?_
  subst hx; subst hy
  exact ⟨i, j, r, r2, _, rfl, q _ H2 p2 (e1.trans e2)⟩
/-- what a thing is as a test -/
def D.tr : D → Option Bool
  | .non => some false
  | .bl b => some b
  | .int i => some (i != 0)
  | .str s => if s.length ≤ 16777216 then some ((s.length : Int) != 0) else none
  | .lst xs => some (!xs.isEmpty)
  | .tup xs => some (!xs.isEmpty)
  | .dic xs => some (!xs.isEmpty)
  | _ => none
theorem isEmpty_len {α β : Type} {xs : List α} {ys : List β} (h : xs.length = ys.length) : xs.isEmpty = ys.isEmpty := by
  cases xs <;> cases ys <;> simp_all
theorem RepK.length {H : Hp} : ∀ {ds : List (Key × D)} {vs : List (Key × V)}, RepK K H ds vs → vs.length = ds.length
  | [], _, h => by subst h; rfl
  | (_, _) :: _, _, h => by
    obtain ⟨v, r, rfl, _, h3⟩ := h
    simp [RepK.length h3]
theorem tr_ok {H : Hp} {d : D} {v : V} {i : Bool} (r : Rep K H d v) (h : d.tr = some i) : TruV K v H i := by
  cases d with
  | non => have e : v = .non := r; subst e; cases h; rfl
  | bl b => have e : v = .bl b := r; subst e; cases h; rfl
  | int b => have e : v = .int b := r; subst e; cases h; rfl
  | str s =>
    have e : v = .str s := r
    subst e
    have h : (if s.length ≤ 16777216 then some ((s.length : Int) != 0) else none) = some i := h
    by_cases hz : s.length ≤ 16777216
    · rw [if_pos hz] at h
      cases h
      exact ⟨by rw [sizeLine_eq]; exact hz, rfl⟩
    · rw [if_neg hz] at h
      cases h
  | lst _ => obtain ⟨a, vs, rfl, h1, h2⟩ := r; cases h; exact .inl ⟨vs, h1, by rw [isEmpty_len h2.length]⟩
  | tup _ => obtain ⟨a, vs, rfl, h1, h2⟩ := r; cases h; exact .inr (.inl ⟨vs, h1, by rw [isEmpty_len h2.length]⟩)
  | dic _ => obtain ⟨a, vs, rfl, h1, h2⟩ := r; cases h; exact .inr (.inr ⟨vs, h1, by rw [isEmpty_len h2.length]⟩)
  | _ => cases h
theorem tr_str {s : Str} (h : s.length ≤ 16777216) : D.tr (.str s) = some ((s.length : Int) != 0) := if_pos h
theorem dt_tr (h : DR X W e δ (fun x => ∃ i, x.tr = some i ∧ PB i) PX) (he : ∀ whole, isTrue e X.env whole = (do let v ← whole; standAt e.pos; holding [v] (truthy v)) := by intro _; rfl) : DT X W e δ PB PX := by
  refine dt_mk (pt_truth pe_sem he) ?_
  intro σ H own Q S q
  exact h σ H own _ S fun x v H1 ⟨i, hx, p⟩ e1 r => ⟨i, tr_ok r hx, q _ H1 p e1⟩
end
end
end PV

set_option Elab.async false
set_option linter.all false
set_option maxRecDepth 100000
set_option maxHeartbeats 2000000
/-! PV5: targets, what is walked, comprehensions, displays, items, slices. -/
namespace PV
open PySem PySem.Spec PyProof.Rows L2

section
variable {M : Md} {X : Cx} {W : WX} {k : Nat} {N : List Str} {sc : Scope} {δ δ' δ1 : List Slot} {P : D → Prop} {PX : Xd → Prop} {e a b d2 : Expr} {es : List Expr} {pos p : Pos} {x : Str} {K : Fr}

/-! ### displays -/
theorem da_nil {P : List D → Prop} (p : P []) : DA X W [] δ P PX := fun σ H own Q S q => sem_pa pa_nil (q [] [] H p (Ex.refl H) rfl)
theorem da_cons {P : List D → Prop} (h : DE X W e δ (fun d => DA X W es δ (fun ds => P (d :: ds)) PX) PX) (hs : starEach (e :: es) X.env = (false, eval e X.env) :: starEach es X.env := by rfl) : DA X W (e :: es) δ P PX := by
  intro σ H own Q S q
  refine sem_pa (pa_cons pe_sem pa_sem hs) ?_
  refine h σ H own _ S fun d v H1 p e1 r => ?_
  refine p σ H1 own _ (S.mono e1) fun ds vs H2 p2 e2 r2 => ?_
  exact q _ _ H2 p2 (e1.trans e2) ⟨v, vs, rfl, r.mono (mask_ex e2), r2⟩
theorem dar_nil {P : List D → Prop} (p : P []) : DAR X W [] δ P PX := fun σ H own Q S q => sem_pa pa_nil (q [] [] H p (Ex.refl H) rfl)
theorem dar_cons {P : List D → Prop} (h : DR X W e δ (fun d => DAR X W es δ (fun ds => P (d :: ds)) PX) PX) (hs : starEach (e :: es) X.env = (false, eval e X.env) :: starEach es X.env := by rfl) : DAR X W (e :: es) δ P PX := by
  intro σ H own Q S q
  refine sem_pa (pa_cons pe_sem pa_sem hs) ?_
  refine h σ H own _ S fun d v H1 p e1 r => ?_
  refine p σ H1 own _ (S.mono e1) fun ds vs H2 p2 e2 r2 => ?_
  exact q _ _ H2 p2 (e1.trans e2) ⟨v, vs, rfl, r.mono e2, r2⟩
theorem de_tup {j : Nat} (h : DA X W es δ (fun ds => ds.length ≤ 100000 ∧ P (.tup ds)) PX) : DE X W (.Tuple es j pos) δ P PX := by
  refine de_mk (pe_tup pa_sem) ?_
  intro σ H own Q S q
  refine h σ H own _ S fun ds vs H1 ⟨hl, p⟩ e1 r => ⟨by rw [r.length, sizeLine_eq]; omega, fun l hl1 => ?_⟩
  refine q _ _ _ p (e1.trans (Ex.new hl1)) ?_
  rw [mask_new (S.mono e1).ow hl1]
  exact ⟨l, vs, rfl, SqT.of upd_same, r.mono (Ex.new (mask_at hl1))⟩
theorem de_lst (h : DA X W es δ (fun ds => ds.length ≤ 100000 ∧ P (.lst ds)) PX) : DE X W (.List es pos) δ P PX := by
  refine de_mk (pe_lst pa_sem) ?_
  intro σ H own Q S q
  refine h σ H own _ S fun ds vs H1 ⟨hl, p⟩ e1 r => ⟨by rw [r.length, sizeLine_eq]; omega, fun l hl1 => ?_⟩
  refine q _ _ _ p (e1.trans (Ex.new hl1)) ?_
  rw [mask_new (S.mono e1).ow hl1]
  exact ⟨l, vs, rfl, SqL.of upd_same, r.mono (Ex.new (mask_at hl1))⟩

/-! ### items -/
theorem RepL.atI {H : Hp} {ds : List D} {vs : List V} {i : Int} {d : D} (h : RepL K H ds vs) (e : atI ds i = some d) : ∃ v, L2.atI vs i = some v ∧ Rep K H d v := by
  unfold L2.atI at e ⊢
  rw [h.length]
  cases hj : ixN ds.length i with
  | none => rw [hj] at e; cases e
  | some j =>
    rw [hj] at e
    exact h.get e
theorem de_ix (h : DE X W a δ (fun x => DE X W b δ (fun y => RW X.K (rIx X.K) x y P) PX) PX) (hs : PlainIx b := by intro _ _; rfl) : DE X W (.Subscript a b pos) δ P PX := de_mk (pe_ix ix_seq pe_sem pe_sem hs) (we_op h)
theorem o_ix_l {ds : List D} {i : Int} {d : D} (h : atI ds i = some d) (p : P d) : RW K (rIx K) (.lst ds) (.int i) P := rw_or1 fun v w H own Q o a b q => by
  obtain ⟨l, vs, rfl, h1, h2⟩ := a
  obtain ⟨u, h3, h4⟩ := h2.atI h
  exact ⟨l, vs, i, u, rfl, b, mask_le.sqL h1, h3, q d u H p (Ex.refl H) h4⟩
theorem o_ix_t {ds : List D} {i : Int} {d : D} (h : atI ds i = some d) (p : P d) : RW K (rIx K) (.tup ds) (.int i) P := rw_or2 (rw_or1 fun v w H own Q o a b q => by
  obtain ⟨l, vs, rfl, h1, h2⟩ := a
  obtain ⟨u, h3, h4⟩ := h2.atI h
  exact ⟨l, vs, i, u, rfl, b, mask_le.sqT h1, h3, q d u H p (Ex.refl H) h4⟩)
theorem o_ix_s {z : Str} {i : Int} {ch : Nat} (hz : z.length ≤ 16777216) (h : atI z.cps.toList i = some ch) (p : P (.str ⟨#[ch]⟩)) : RW K (rIx K) (.str z) (.int i) P := rw_or2 (rw_or2 fun v w H own Q o a b q =>
  ⟨z, i, ch, a, b, by rw [sizeLine_eq]; exact hz, h, q _ _ H p (Ex.refl H) rfl⟩)
/-- one of the items told, item by item -/
def pick (i : Int) : Nat → List D → (D → Prop) → Prop
  | _, [], _ => True
  | n, d :: r, P => (i = (n : Int) → P d) ∧ pick i (n + 1) r P
theorem pick_at {i : Int} : ∀ {ds : List D} {n : Nat} {d : D} {j : Nat}, pick i n ds P → i = ((n + j : Nat) : Int) → ds[j]? = some d → P d
  | [], _, _, _, _, _, e => by simp at e
  | _ :: _, n, d, 0, h, hi, e => by
    simp at e; subst e
    exact h.1 (by simpa using hi)
  | _ :: r, n, d, j + 1, h, hi, e => pick_at (j := j) h.2 (by rw [hi]; congr 1; omega) (by simpa using e)
theorem o_pick {ds : List D} {i : Int} (h0 : 0 ≤ i) (h1 : i < ds.length) (h : pick i 0 ds P) : RW K (rIx K) (.lst ds) (.int i) P := by
  obtain ⟨j, rfl⟩ : ∃ j : Nat, i = j := ⟨i.toNat, by omega⟩
  have hj : j < ds.length := by omega
  have e : ds[j]? = some ds[j] := by simp [hj]
  refine o_ix_l (d := ds[j]) ?_ (pick_at h (by simp) e)
  unfold L2.atI ixN
  rw [if_pos h0, if_pos h1]
  simpa using e
theorem o_pickT {ds : List D} {i : Int} (h0 : 0 ≤ i) (h1 : i < ds.length) (h : pick i 0 ds P) : RW K (rIx K) (.tup ds) (.int i) P := by
  obtain ⟨j, rfl⟩ : ∃ j : Nat, i = j := ⟨i.toNat, by omega⟩
  have hj : j < ds.length := by omega
  have e : ds[j]? = some ds[j] := by simp [hj]
  refine o_ix_t (d := ds[j]) ?_ (pick_at h (by simp) e)
  unfold L2.atI ixN
  rw [if_pos h0, if_pos h1]
  simpa using e
/-- an item of an owned list, read by its name -/
theorem de_ix_acc (c : Ct M X W k N sc) {i : Nat} {ds : List D} {p2 : Pos} (h : At N δ x i (.acc ds)) (hv : Vis sc x) (hb : DE X W b δ (fun y => ∃ j d, y = .int j ∧ L2.atI ds j = some d ∧ P d) PX) (hs : PlainIx b := by intro _ _; rfl)
    (hd : (x == ("__debug__" : Str)) = false := by decide) (hcd : (x == ("__classdict__" : Str)) = false := by decide) : DE X W (.Subscript (.Name x p2) b pos) δ P PX := by
  intro σ H own Q S q
  refine sem_peL (pe_ix ix_list (pe_var (i := i) (by rw [c.hN]; exact h.N) (c.vis _ hv) hd hcd) pe_sem hs) fun hl => ?_
  obtain ⟨y, h1, l, vs, rfl, _, h3, r⟩ := S.sl.at (h.lt c hl) h.S
  refine ⟨_, h1, ?_⟩
  refine hb σ H own _ S fun y v H1 ⟨j, d, hy, hj, p⟩ e1 r1 => ?_
  subst hy
  obtain ⟨u, h4, h5⟩ := r.atI hj
  exact ⟨l, vs, j, u, rfl, r1, SqL.of (e1 _ _ h3), h4, q _ _ H1 p e1 (h5.mono (mask_ex e1))⟩

/-! ### slices -/
def cutD (ds : List D) (lo hi : Option Int) : List D := (ds.drop (HT.sIx ds.length 0 lo)).take (HT.sIx ds.length ds.length hi - HT.sIx ds.length 0 lo)
theorem RepL.cut {H : Hp} {ds : List D} {vs : List V} (h : RepL K H ds vs) (lo hi : Option Int) : RepL K H (cutD ds lo hi) (cutV vs lo hi) := by
  unfold cutD cutV
  rw [h.length]
  exact (h.drop _).take _
def semO (X : Cx) (e : Option Expr) : TO := fun σ H Q => ∀ (pins : List (Addr × Obj)) (s : Shared), Inv X pins σ H s → wpAny (model X.prog X.w) X.A (evalPart e X.env) (fun u s' => ∃ o H', Inv X pins σ H' s' ∧ IsPart u o ∧ Q o H') X.xe s
theorem po_sem {e : Option Expr} : PO X e (semO X e) := ⟨fun pins s _ _ _ I h => h pins s I⟩
def DO (X : Cx) (W : WX) (e : Option Expr) (δ : List Slot) (P : Option Int → Prop) (PX : Xd → Prop) : Prop := ∀ σ H own (Q : Option Int → Hp → Prop), Sy X.K W own σ H δ PX → (∀ i H2, P i → Ex H H2 → Q i H2) → semO X e σ H Q
theorem do_none {P : Option Int → Prop} (p : P none) : DO X W none δ P PX := fun σ H own Q S q pins s I => po_none.run pins s σ H Q I (q _ H p (Ex.refl H))
theorem do_some {P : Option Int → Prop} (h : DE X W e δ (fun d => ∃ i, d = .int i ∧ P (some i)) PX) : DO X W (some e) δ P PX := fun σ H own Q S q pins s I => (po_some pe_sem).run pins s σ H Q I (h σ H own _ S fun d v H1 ⟨i, hd, p⟩ e1 r => by
  subst hd
  exact ⟨i, r, q _ H1 p e1⟩)
/-- what a slice of data is -/
def RS (K : Fr) (x : D) (lo hi : Option Int) (P : D → Prop) : Prop := ∀ v H own (Q : VK), (∀ a, own a = true → H a ≠ none) → Rep K (mask own H) x v → (∀ d u H2, P d → Ex H H2 → Rep K (mask own H2) d u → Q u H2) → (rSlL K v lo hi H Q ∨ rSlA K v lo hi H Q ∨ rSlS v lo hi H Q)
theorem de_slice {lo hi : Option Expr} {p2 : Pos} (h : DE X W e δ (fun x => DO X W lo δ (fun l => DO X W hi δ (fun u => RS X.K x l u P) PX) PX) PX) : DE X W (.Subscript e (.Slice lo hi none p2) pos) δ P PX := by
  refine de_mk (pe_slice (sl_list.or (sl_tupA.or sl_str)) pe_sem po_sem po_sem) ?_
  intro σ H own Q S q
  refine h σ H own _ S fun x v H1 p1 e1 r1 => ?_
  refine p1 σ H1 own _ (S.mono e1) fun l H2 p2 e2 => ?_
  refine p2 σ H2 own _ (S.mono (e1.trans e2)) fun u H3 p3 e3 => ?_
  exact p3 v H3 own Q (S.mono ((e1.trans e2).trans e3)).ow (r1.mono (mask_ex (e2.trans e3))) fun d u H4 p e4 r4 => q d u H4 p (((e1.trans e2).trans e3).trans e4) r4
theorem o_sl_l {ds : List D} {lo hi : Option Int} (p : P (.lst (cutD ds lo hi))) : RS K (.lst ds) lo hi P := fun v H own Q o a q => .inl (by
  obtain ⟨l, vs, rfl, h1, h2⟩ := a
  refine ⟨l, vs, rfl, mask_le.sqL h1, fun p' hp => q _ _ _ p (Ex.new hp) ?_⟩
  rw [mask_new o hp]
  exact ⟨p', _, rfl, SqL.of upd_same, (h2.cut lo hi).mono (Ex.new (mask_at hp))⟩)
theorem o_sl_t {ds : List D} {lo hi : Option Int} (p : P (.tup (cutD ds lo hi))) : RS K (.tup ds) lo hi P := fun v H own Q o a q => .inr (.inl (by
  obtain ⟨l, vs, rfl, h1, h2⟩ := a
  refine ⟨l, vs, rfl, mask_le.sqT h1, fun z => q _ _ H p (Ex.refl H) ?_, fun _ p' hp => q _ _ _ p (Ex.new hp) ?_⟩
  · have e : cutD ds lo hi = ds := by
      rw [h2.length] at z
      unfold cutD
      rw [z.1, z.2]; simp
    rw [e]
    exact ⟨l, vs, rfl, h1, h2⟩
  · rw [mask_new o hp]
    exact ⟨p', _, rfl, SqT.of upd_same, (h2.cut lo hi).mono (Ex.new (mask_at hp))⟩))
theorem o_sl_s {z : Str} {lo hi : Option Int} (hz : z.length ≤ 16777216) (p : P (.str (cutS z lo hi))) : RS K (.str z) lo hi P := fun v H own Q o a q => .inr (.inr ⟨z, a, by rw [sizeLine_eq]; exact hz, q _ _ H p (Ex.refl H) rfl⟩)

/-! ### calls of built-ins by values -/
theorem de_callB {id : String} {r : List V → Hp → VK → Prop} (c : Ct M X W k N sc) (hc : CallR X (.builtin id) r) (hg : GlS sc x) (hm : Bi M x) (hv : bootBuiltins x = some (.builtin id))
    (h : DA X W (e :: es) δ (fun ds => ∀ vs H own (Q : VK), (∀ a, own a = true → H a ≠ none) → RepL X.K (mask own H) ds vs → (∀ d u H2, P d → Ex H H2 → Rep X.K (mask own H2) d u → Q u H2) → r vs H Q) PX)
    (hn : x ≠ "__name__" := by decide) (hdb : (x == ("__debug__" : Str)) = false := by decide) (he : starEach (e :: es) X.env = (false, eval e X.env) :: starEach es X.env := by rfl) (hpl : (backTo pos (starEach es X.env)).any (·.1) = false := by rfl) :
    DE X W (.Call (.Name x p) (e :: es) [] pos) δ P PX := by
  refine de_mk (pe_callB hc (c.gl _ hg) (by rw [c.hmg]; exact hm) hv pa_sem hn hdb he hpl) ?_
  intro σ H own Q S q
  exact h σ H own _ S fun ds vs H1 p e1 r1 => p vs H1 own Q (S.mono e1).ow r1 fun d u H2 p2 e2 => q d u H2 p2 (e1.trans e2)
theorem de_callBR {id : String} {r : List V → Hp → VK → Prop} (c : Ct M X W k N sc) (hc : CallR X (.builtin id) r) (hg : GlS sc x) (hm : Bi M x) (hv : bootBuiltins x = some (.builtin id))
    (h : DAR X W (e :: es) δ (fun ds => ∀ vs H (Q : VK), RepL X.K H ds vs → (∀ d u H2, d.flat = true → P d → Ex H H2 → Rep X.K H2 d u → Q u H2) → r vs H Q) PX)
    (hn : x ≠ "__name__" := by decide) (hdb : (x == ("__debug__" : Str)) = false := by decide) (he : starEach (e :: es) X.env = (false, eval e X.env) :: starEach es X.env := by rfl) (hpl : (backTo pos (starEach es X.env)).any (·.1) = false := by rfl) :
    DE X W (.Call (.Name x p) (e :: es) [] pos) δ P PX := by
  refine de_mk (pe_callB hc (c.gl _ hg) (by rw [c.hmg]; exact hm) hv pa_sem hn hdb he hpl) ?_
  intro σ H own Q S q
  exact h σ H own _ S fun ds vs H1 p e1 r1 => p vs H1 Q r1 fun d u H2 f p2 e2 r2 => q d u H2 p2 (e1.trans e2) (r2.flat f)
theorem de_callTR {T : String} {r : List V → Hp → VK → Prop} (c : Ct M X W k N sc) (hc : CallR X (.type T) r) (hg : GlS sc x) (hm : Bi M x) (hv : bootBuiltins x = some (.type T))
    (h : DAR X W (e :: es) δ (fun ds => ∀ vs H (Q : VK), RepL X.K H ds vs → (∀ d u H2, d.flat = true → P d → Ex H H2 → Rep X.K H2 d u → Q u H2) → r vs H Q) PX)
    (hn : x ≠ "__name__" := by decide) (hdb : (x == ("__debug__" : Str)) = false := by decide) (he : starEach (e :: es) X.env = (false, eval e X.env) :: starEach es X.env := by rfl) (hpl : (backTo pos (starEach es X.env)).any (·.1) = false := by rfl) :
    DE X W (.Call (.Name x p) (e :: es) [] pos) δ P PX := by
  refine de_mk (pe_callTy hc (c.gl _ hg) (by rw [c.hmg]; exact hm) hv pa_sem hn hdb he hpl) ?_
  intro σ H own Q S q
  exact h σ H own _ S fun ds vs H1 p e1 r1 => p vs H1 Q r1 fun d u H2 f p2 e2 r2 => q d u H2 p2 (e1.trans e2) (r2.flat f)
theorem de_callT {T : String} {r : List V → Hp → VK → Prop} (c : Ct M X W k N sc) (hc : CallR X (.type T) r) (hg : GlS sc x) (hm : Bi M x) (hv : bootBuiltins x = some (.type T))
    (h : DA X W (e :: es) δ (fun ds => ∀ vs H own (Q : VK), (∀ a, own a = true → H a ≠ none) → RepL X.K (mask own H) ds vs → (∀ d u H2, P d → Ex H H2 → Rep X.K (mask own H2) d u → Q u H2) → r vs H Q) PX)
    (hn : x ≠ "__name__" := by decide) (hdb : (x == ("__debug__" : Str)) = false := by decide) (he : starEach (e :: es) X.env = (false, eval e X.env) :: starEach es X.env := by rfl) (hpl : (backTo pos (starEach es X.env)).any (·.1) = false := by rfl) :
    DE X W (.Call (.Name x p) (e :: es) [] pos) δ P PX := by
  refine de_mk (pe_callTy hc (c.gl _ hg) (by rw [c.hmg]; exact hm) hv pa_sem hn hdb he hpl) ?_
  intro σ H own Q S q
  exact h σ H own _ S fun ds vs H1 p e1 r1 => p vs H1 own Q (S.mono e1).ow r1 fun d u H2 p2 e2 => q d u H2 p2 (e1.trans e2)
theorem RepL.vals1 {H : Hp} {d : D} {vs : List V} (h : RepL K H [d] vs) : ∃ v, vs = [v] ∧ Rep K H d v := by
  obtain ⟨v, r, rfl, h1, h2⟩ := h
  have e : r = [] := h2
  subst e
  exact ⟨v, rfl, h1⟩
theorem RepL.vals2 {H : Hp} {d d' : D} {vs : List V} (h : RepL K H [d, d'] vs) : ∃ v w, vs = [v, w] ∧ Rep K H d v ∧ Rep K H d' w := by
  obtain ⟨v, r, rfl, h1, h2⟩ := h
  obtain ⟨w, rfl, h3⟩ := h2.vals1
  exact ⟨v, w, rfl, h1, h3⟩
/-! len -/
def D.len : D → Option Nat
  | .str s => if s.length ≤ 16777216 then some s.length else none
  | .lst xs => some xs.length
  | .tup xs => some xs.length
  | _ => none
theorem de_len (c : Ct M X W k N sc) (hg : GlS sc "len") (hm : Bi M "len") (h : DAR X W [e] δ (fun ds => ∃ d n, ds = [d] ∧ d.len = some n ∧ P (.int (n : Int))) PX)
    (he : starEach [e] X.env = (false, eval e X.env) :: starEach [] X.env := by rfl) (hpl : (backTo pos (starEach [] X.env)).any (·.1) = false := by rfl) : DE X W (.Call (.Name "len" p) [e] [] pos) δ P PX := by
  refine de_callBR c call_len hg hm PySem.boot_len ?_ (by decide) (by decide) he hpl
  intro σ H own Q S q
  refine h σ H own _ S fun ds vs H1 ⟨d, n, hd, hl, p⟩ e1 r1 => q ds vs H1 ?_ e1 r1
  subst hd
  intro vs H Q r q
  obtain ⟨v, rfl, rv⟩ := r.vals1
  refine ⟨v, n, rfl, ?_, q (.int n) _ H rfl p (Ex.refl H) rfl⟩
  cases d with
  | str s =>
    have e : v = .str s := rv
    subst e
    have hl : (if s.length ≤ 16777216 then some s.length else none) = some n := hl
    by_cases hz : s.length ≤ 16777216
    · rw [if_pos hz] at hl
      cases hl
      exact ⟨by rw [sizeLine_eq]; exact hz, rfl⟩
    · rw [if_neg hz] at hl
      cases hl
  | lst xs => obtain ⟨a, vs, rfl, h1, h2⟩ := rv; cases hl; exact .inl ⟨vs, h1, h2.length.symm⟩
  | tup xs => obtain ⟨a, vs, rfl, h1, h2⟩ := rv; cases hl; exact .inr ⟨vs, h1, h2.length.symm⟩
  | _ => cases hl
/-! isinstance of built-in classes -/
def D.tyN : D → Option String
  | .non => some "NoneType"
  | .bl _ => some "bool"
  | .int _ => some "int"
  | .str _ => some "str"
  | .lst _ => some "list"
  | .tup _ => some "tuple"
  | .dic _ => some "dict"
  | _ => none
theorem tyN_ok {H : Hp} {d : D} {v : V} {T : String} (h : d.tyN = some T) (r : Rep K H d v) : TyX K H v (.type T) := by
  cases d with
  | non => cases h; have e : v = .non := r; subst e; exact .base .non
  | bl b => cases h; have e : v = .bl b := r; subst e; exact .base (.bl b)
  | int b => cases h; have e : v = .int b := r; subst e; exact .base (.int b)
  | str b => cases h; have e : v = .str b := r; subst e; exact .base (.str b)
  | lst xs =>
    cases h
    obtain ⟨a, vs, rfl, (h1 | ⟨o, h1⟩) | ⟨o, its, n, h1, h2, _⟩, _⟩ := r
    · exact .base (.lst h1)
    · exact .base (.frz h1)
    · exact .kList h1 h2
  | tup xs =>
    cases h
    obtain ⟨a, vs, rfl, (h1 | ⟨o, h1⟩) | ⟨o, its, n, h1, h2, _⟩, _⟩ := r
    · exact .base (.tup h1)
    · exact .fTuple h1
    · exact .kTuple h1 h2
  | dic xs => cases h; obtain ⟨a, vs, rfl, h1, _⟩ := r; exact .base (.dK h1)
  | _ => cases h
theorem de_tyname {T : String} (c : Ct M X W k N sc) (hg : GlS sc x) (hm : Bi M x) (hv : bootBuiltins x = some (.type T)) (p : P (.opq (.ty T))) (hn : x ≠ "__name__" := by decide) (hd : (x == ("__debug__" : Str)) = false := by decide) : DE X W (.Name x pos) δ P PX :=
  de_mk (pe_bltn (v := .ty T) (c.gl _ hg) (by rw [c.hmg]; exact hm) hv rfl hn hd) (we_c (d := .opq (.ty T)) (fun _ => rfl) p)
theorem de_isi {p2 : Pos} {T : String} (c : Ct M X W k N sc) (hg : GlS sc "isinstance") (hm : Bi M "isinstance") (hgx : GlS sc x) (hmx : Bi M x) (hv : bootBuiltins x = some (.type T))
    (h : DR X W e δ (fun d => ∃ T' r, d.tyN = some T' ∧ kitB T' T = some r ∧ P (.bl r)) PX) (hnx : x ≠ "__name__" := by decide) (hdx : (x == ("__debug__" : Str)) = false := by decide)
    (he : starEach [e, .Name x p2] X.env = (false, eval e X.env) :: starEach [.Name x p2] X.env := by rfl) (he2 : starEach [.Name x p2] X.env = (false, eval (.Name x p2) X.env) :: starEach [] X.env := by rfl) (hpl : (backTo pos (starEach [.Name x p2] X.env)).any (·.1) = false := by rfl) :
    DE X W (.Call (.Name "isinstance" p) [e, .Name x p2] [] pos) δ P PX := by
  refine de_callBR c call_isi hg hm (by decide +kernel) ?_ (by decide) (by decide) he hpl
  refine dar_cons ?_ he
  intro σ H own Q S q
  refine h σ H own _ S fun d v H1 ⟨T', r, h1, h2, pr⟩ e1 r1 => q d v H1 ?_ e1 r1
  refine dar_cons (dr_of (de_tyname c hgx hmx hv ?_ hnx hdx)) he2
  refine dar_nil ?_
  intro vs H Q rr q
  obtain ⟨v, w, rfl, ra, rb⟩ := rr.vals2
  have e2 : w = .ty T := rb
  subst e2
  exact ⟨v, .ty T, .type T', .type T, r, rfl, .ty T, tyN_ok h1 ra, kit_ty h2, q (.bl r) _ H rfl pr (Ex.refl H) rfl⟩
end
end PV

set_option Elab.async false
set_option linter.all false
set_option maxRecDepth 100000
set_option maxHeartbeats 2000000
/-! PV6: statements, loops, comprehensions, a def's promise and its body. -/
namespace PV
open PySem PySem.Spec PyProof.Rows L2

/-! ### the state between statements -/
/-- no owned place is one of the callers' -/
def Own0 (o0 : Addr → Bool) (σ : L2.St) (δ : List Slot) : Prop := ∀ (i : Nat) (s : Slot) (l : Addr), δ[i]? = some s → s.hasW (σ[i]?).join l → o0 l = false
theorem Own0.chg {o0 : Addr → Bool} {σ : L2.St} {δ : List Slot} (h : Own0 o0 σ δ) (i : Nat) {x' : Option V} {s' : Slot} (q : ∀ x0 l, s'.hasW x0 l → x0 = none ∨ x0 = x' → o0 l = false) : Own0 o0 (σ.set i x') (δ.set i s') := by
  intro j s l a b
  by_cases hj : i = j
  · subst hj
    have hl : i < δ.length := by have := (List.getElem?_eq_some_iff.mp a).1; simpa using this
    rw [List.getElem?_set_self hl] at a
    cases a
    refine q _ l b ?_
    by_cases hs : i < σ.length
    · rw [List.getElem?_set_self hs]; exact .inr rfl
    · rw [List.getElem?_eq_none (by rw [List.length_set]; omega)]; exact .inl rfl
  · rw [List.getElem?_set_ne hj] at a b
    exact h j s l a b
theorem Own0.put {o0 : Addr → Bool} {σ : L2.St} {δ : List Slot} (h : Own0 o0 σ δ) (i : Nat) {d : D} {v : V} : Own0 o0 (σ.set i (some v)) (δ.set i (.val d)) := h.chg i fun _ _ z => z.elim
theorem Own0.drop {o0 : Addr → Bool} {σ : L2.St} {δ : List Slot} (h : Own0 o0 σ δ) (i : Nat) (x : Option V) : Own0 o0 (σ.set i x) (δ.set i .no) := h.chg i fun _ _ z => z.elim
structure Ok (K : Fr) (Hb : Hp) (o0 : Addr → Bool) (own : Addr → Bool) (σ : L2.St) (H : Hp) (δ : List Slot) : Prop where
  sub : ∀ a, o0 a = true → own a = true
  ow : ∀ a, own a = true → H a ≠ none
  mine : ∀ a, own a = true → o0 a = false → Hb a = none
  ex : Ex Hb H
  sl : Slots K own H σ δ
  acc : Own0 o0 σ δ
structure Goal (K : Fr) (W : WX) (Hb : Hp) (o0 : Addr → Bool) (D' : Ends) (N : List Slot → Prop) (R : D → List Slot → Prop) (B C : List Slot → Prop) (PX : Xd → List Slot → Prop) : Prop where
  nx : ∀ own σ H δ, N δ → Ok K Hb o0 own σ H δ → D'.nx σ H
  rt : ∀ own σ H δ d v, R d δ → Ok K Hb o0 own σ H δ → Rep K (mask own H) d v → D'.rt v H
  bk : ∀ own σ H δ, B δ → Ok K Hb o0 own σ H δ → D'.bk σ H
  ct : ∀ own σ H δ, C δ → Ok K Hb o0 own σ H δ → D'.ct σ H
  px : ∀ own σ H δ, Ok K Hb o0 own σ H δ → WishX K (fun c d H => W c d σ H) own H (fun x => PX x δ)
def WS (K : Fr) (W : WX) (t : TS) (δ : List Slot) (N : List Slot → Prop) (R : D → List Slot → Prop) (B C : List Slot → Prop) (PX : Xd → List Slot → Prop) : Prop :=
  ∀ Hb o0 own (D' : Ends) σ H, Ok K Hb o0 own σ H δ → Goal K W Hb o0 D' N R B C PX → t D' σ H
def semS (X : Cx) (st : Stmt) : TS := fun D' σ H => ∀ (pins : List (Addr × Obj)) (s : Shared), Inv X pins σ H s → wpAny (model X.prog X.w) X.A (exec st X.env) (SP X pins D') X.xe s
theorem ps_sem {X : Cx} {st : Stmt} : PS X st (semS X st) := ⟨fun pins s _ _ _ I h => h pins s I⟩
theorem sem_psL {X : Cx} {st : Stmt} {t : TS} {σ : L2.St} {H : Hp} {D' : Ends} (h : PS X st t) (q : σ.length = X.N.length → t D' σ H) : semS X st D' σ H := fun pins s I => h.run pins s σ H D' I (q I.len)
theorem sem_ps {X : Cx} {st : Stmt} {t : TS} {σ : L2.St} {H : Hp} {D' : Ends} (h : PS X st t) (q : t D' σ H) : semS X st D' σ H := fun pins s I => h.run pins s σ H D' I q
def semSs (X : Cx) (st : List Stmt) : TS := fun D' σ H => ∀ (pins : List (Addr × Obj)) (s : Shared), Inv X pins σ H s → wpAny (model X.prog X.w) X.A (execs st X.env) (SP X pins D') X.xe s
theorem pss_sem {X : Cx} {st : List Stmt} : PSs X st (semSs X st) := ⟨fun pins s _ _ _ I h => h pins s I⟩
theorem sem_pss {X : Cx} {st : List Stmt} {t : TS} {σ : L2.St} {H : Hp} {D' : Ends} (h : PSs X st t) (q : t D' σ H) : semSs X st D' σ H := fun pins s I => h.run pins s σ H D' I q
def DS (X : Cx) (W : WX) (st : Stmt) (δ : List Slot) (N : List Slot → Prop) (R : D → List Slot → Prop) (B C : List Slot → Prop) (PX : Xd → List Slot → Prop) : Prop := WS X.K W (semS X st) δ N R B C PX
def DSs (X : Cx) (W : WX) (st : List Stmt) (δ : List Slot) (N : List Slot → Prop) (R : D → List Slot → Prop) (B C : List Slot → Prop) (PX : Xd → List Slot → Prop) : Prop := WS X.K W (semSs X st) δ N R B C PX

theorem Ok.sy {K : Fr} {W : WX} {Hb : Hp} {o0 own : Addr → Bool} {σ : L2.St} {H : Hp} {δ : List Slot} {D' : Ends} {N : List Slot → Prop} {R : D → List Slot → Prop} {B C : List Slot → Prop} {PX : Xd → List Slot → Prop} (o : Ok K Hb o0 own σ H δ) (g : Goal K W Hb o0 D' N R B C PX) : Sy K W own σ H δ (fun x => PX x δ) := ⟨o.ow, o.sl, g.px own σ H δ o⟩
theorem Ok.mono {K : Fr} {Hb : Hp} {o0 own : Addr → Bool} {σ : L2.St} {H H' : Hp} {δ : List Slot} (o : Ok K Hb o0 own σ H δ) (e : Ex H H') : Ok K Hb o0 own σ H' δ :=
  ⟨o.sub, fun a ha z => o.ow a ha (e.free z), o.mine, o.ex.trans e, o.sl.mono e, o.acc⟩
theorem Ok.down {K : Fr} {Hb : Hp} {o0 own : Addr → Bool} {σ : L2.St} {H : Hp} {δ : List Slot} (o : Ok K Hb o0 own σ H δ) : Ex (mask own H) (mask o0 H) := mask_mono o.sub

section
variable {M : Md} {X : Cx} {W : WX} {k : Nat} {Nm : List Str} {sc : Scope} {δ δ' δ1 : List Slot} {N : List Slot → Prop} {R : D → List Slot → Prop} {B C : List Slot → Prop} {PX : Xd → List Slot → Prop} {e a b d2 : Expr} {es : List Expr} {pos p : Pos} {x : Str} {st : Stmt} {rest body orelse : List Stmt} {K : Fr}

theorem dss_nil (h : N δ) : DSs X W [] δ N R B C PX := fun Hb o0 own D' σ H o g => sem_pss pss_nil (g.nx own σ H δ h o)
theorem dss_cons (h : DS X W st δ (fun δ' => DSs X W rest δ' N R B C PX) R B C PX) : DSs X W (st :: rest) δ N R B C PX := by
  intro Hb o0 own D' σ H o g
  refine sem_pss (pss_cons ps_sem pss_sem) ?_
  exact h Hb o0 own { D' with nx := semSs X rest D' } σ H o ⟨fun own' σ' H' δ' h' o' => h' Hb o0 own' D' σ' H' o' g, g.rt, g.bk, g.ct, g.px⟩
theorem ds_pass (h : N δ) : DS X W (.Pass pos) δ N R B C PX := fun Hb o0 own D' σ H o g => sem_ps ps_pass (g.nx own σ H δ h o)
theorem ds_brk (h : B δ) : DS X W (.Break pos) δ N R B C PX := fun Hb o0 own D' σ H o g => sem_ps ps_break (g.bk own σ H δ h o)
theorem ds_cont (h : C δ) : DS X W (.Continue pos) δ N R B C PX := fun Hb o0 own D' σ H o g => sem_ps ps_continue (g.ct own σ H δ h o)
theorem ds_doc {j : Nat} {s : Str} {p2 : Pos} (h : N δ) : DS X W (.Expr (.Constant (.str s) j p2) pos) δ N R B C PX := fun Hb o0 own D' σ H o g => sem_ps ps_doc (g.nx own σ H δ h o)
theorem ds_ret (h : DE X W e δ (fun d => R d δ) (fun x => PX x δ)) : DS X W (.Return (some e) pos) δ N R B C PX := fun Hb o0 own D' σ H o g =>
  sem_ps (ps_ret pe_sem) (h σ H own _ (o.sy g) fun d v H2 p e2 r => g.rt own σ H2 δ d v p (o.mono e2) r)
theorem ds_expr (h : DE X W e δ (fun _ => N δ) (fun x => PX x δ)) (hs : swapsWith e none pos.line X.env = pure false := by rfl) : DS X W (.Expr e pos) δ N R B C PX := fun Hb o0 own D' σ H o g =>
  sem_ps (ps_expr pe_sem hs) (h σ H own _ (o.sy g) fun d v H2 p e2 r => g.nx own σ H2 δ p (o.mono e2))
theorem ds_if (h : DT X W e δ (fun i => (i = true → DSs X W body δ N R B C PX) ∧ (i = false → DSs X W orelse δ N R B C PX)) (fun x => PX x δ)) : DS X W (.If e body orelse pos) δ N R B C PX := fun Hb o0 own D' σ H o g => by
  refine sem_ps (ps_if pt_sem pss_sem pss_sem) ?_
  refine h σ H own _ (o.sy g) fun i H1 ⟨p1, p2⟩ e1 => ?_
  cases i with
  | true => exact iteT (p1 rfl Hb o0 own D' σ H1 (o.mono e1) g)
  | false => exact iteF (p2 rfl Hb o0 own D' σ H1 (o.mono e1) g)

/-! ### targets -/
/-- two rows of values alike but at some places -/
def But (T : List Nat) (σ σ' : L2.St) : Prop := σ'.length = σ.length ∧ ∀ j, j ∉ T → σ'[j]? = σ[j]?
theorem But.refl {T : List Nat} {σ : L2.St} : But T σ σ := ⟨rfl, fun _ _ => rfl⟩
theorem But.trans {T T' : List Nat} {σ σ1 σ2 : L2.St} (a : But T σ σ1) (b : But T' σ1 σ2) : But (T ++ T') σ σ2 := ⟨b.1.trans a.1, fun j h => by rw [List.mem_append, not_or] at h; exact (b.2 j h.2).trans (a.2 j h.1)⟩
theorem But.set {i : Nat} {σ : L2.St} {x : Option V} : But [i] σ (σ.set i x) := ⟨by simp, fun j h => List.getElem?_set_ne (by intro z; exact h (by simp [z]))⟩
def DG (M : Md) (N : List Str) (sc : Scope) (tg : Expr) (d : D) (δ δ' : List Slot) (T : List Nat) : Prop :=
  ∃ g, (∀ X W k, Ct M X W k N sc → PG X tg g) ∧ ∀ v σ H own o0 (Q : L2.St → Hp → Prop), Slots M.K own H σ δ → Own0 o0 σ δ → Rep M.K (mask own H) d v → (∀ σ', Slots M.K own H σ' δ' → Own0 o0 σ' δ' → But T σ σ' → Q σ' H) → g v σ H Q
def DGs (M : Md) (N : List Str) (sc : Scope) (tg : List Expr) (d : List D) (δ δ' : List Slot) (T : List Nat) : Prop :=
  ∃ g, (∀ X W k, Ct M X W k N sc → PGs X tg g) ∧ ∀ v σ H own o0 (Q : L2.St → Hp → Prop), Slots M.K own H σ δ → Own0 o0 σ δ → RepL M.K (mask own H) d v → (∀ σ', Slots M.K own H σ' δ' → Own0 o0 σ' δ' → But T σ σ' → Q σ' H) → g v σ H Q
theorem dg_name {i : Nat} {d : D} (h : Put Nm δ x (.val d) i δ') (hv : Loc sc x) : DG M Nm sc (.Name x pos) d δ δ' [i] :=
  ⟨gName i, fun X W k c => pg_name c.nd (by rw [c.hN]; exact h.N) (c.loc _ hv) (c.fn x hv), fun v σ H own o0 Q S o r q => q _ (by rw [h.S]; exact S.put i r) (by rw [h.S]; exact o.put i) But.set⟩
theorem dgs_nil : DGs M Nm sc [] [] δ δ [] := ⟨gNil, fun X W k c => pgs_nil, fun v σ H own o0 Q S o r q => ⟨r, q σ S o But.refl⟩⟩
theorem dgs_cons {d : D} {ds : List D} {tg : Expr} {tgs : List Expr} {T T' : List Nat} (h : DG M Nm sc tg d δ δ1 T) (hs : DGs M Nm sc tgs ds δ1 δ' T') (hx : ∀ X : Cx, (assignEach (tg :: tgs) X.env).map (·.2) = assign tg X.env :: (assignEach tgs X.env).map (·.2) := by intro _; rfl) : DGs M Nm sc (tg :: tgs) (d :: ds) δ δ' (T ++ T') := by
  obtain ⟨g, h1, h2⟩ := h
  obtain ⟨u, h3, h4⟩ := hs
  refine ⟨gCons g u, fun X W k c => pgs_cons (h1 X W k c) (h3 X W k c) (hx X), fun v σ H own o0 Q S o r q => ?_⟩
  obtain ⟨v1, vr, rfl, r1, r2⟩ := r
  exact ⟨v1, vr, rfl, h2 v1 σ H own o0 _ S o r1 fun σ' S' o' b => h4 vr σ' H own o0 Q S' o' r2 fun σ2 S2 o2 b2 => q σ2 S2 o2 (b.trans b2)⟩
theorem dg_tup {ds : List D} {tgs : List Expr} {j n : Nat} {T : List Nat} (h : DGs M Nm sc tgs ds δ δ' T) (hl : ds.length = n) (hn : ∀ X : Cx, (assignEach tgs X.env).length = n := by intro _; rfl) (hst : ∀ X : Cx, (assignEach tgs X.env).findIdx? (·.1) = none := by intro _; rfl) : DG M Nm sc (.Tuple tgs j pos) (.tup ds) δ δ' T := by
  obtain ⟨u, h3, h4⟩ := h
  refine ⟨gTup M.K n u, fun X W k c => by rw [← c.hK]; exact pg_tup c.calm (h3 X W k c) (hn X) (hst X), fun v σ H own o0 Q S o r q => ?_⟩
  obtain ⟨a, vs, rfl, r1, r2⟩ := r
  exact ⟨a, vs, rfl, mask_le.sqT r1, by rw [r2.length, hl], h4 vs σ H own o0 Q S o r2 q⟩
theorem Loc.vis {sc : Scope} {x : Str} (h : Loc sc x) : Vis sc x := h.elim .inl fun h => .inr (.inl h)

def semG (X : Cx) (tg : Expr) : TG := fun v σ H Q => ∀ (pins : List (Addr × Obj)) (s : Shared) (u : Value), Inv X pins σ H s → RelV v u → wpAny (model X.prog X.w) X.A (assign tg X.env u) (fun _ s' => ∃ σ' H', Inv X pins σ' H' s' ∧ Q σ' H') X.xe s
theorem pg_sem {tg : Expr} : PG X tg (semG X tg) := ⟨fun pins s _ _ _ u _ I r h => h pins s u I r⟩
/-- target = e -/
theorem ds_asg (c : Ct M X W k Nm sc) {tg : Expr} (h : DE X W e δ (fun d => ∃ δ' T, DG M Nm sc tg d δ δ' T ∧ N δ') (fun x => PX x δ)) (hs : swapsWithSole [tg] e pos.line X.env = pure false := by rfl) (hw : swappedStores [tg] e X.env = pure none := by rfl)
    (h1 : (assignEach [tg] X.env).map (·.2) = [assign tg X.env] := by rfl) : DS X W (.Assign [tg] e pos) δ N R B C PX := fun Hb o0 own D' σ H o g => by
  refine sem_ps (ps_asg pe_sem pg_sem hs hw h1) ?_
  refine h σ H own _ (o.sy g) fun d v H2 ⟨δ', T, ⟨gg, g1, g2⟩, n⟩ e2 r => ?_
  have o2 := o.mono e2
  have S2 := o2.sl
  rw [c.hK] at S2 r
  intro pins s u I ru
  refine (g1 X W k c).run pins s σ H2 v u _ I ru (g2 v σ H2 own o0 _ S2 o.acc r fun σ' S' a' _ => ?_)
  rw [← c.hK] at S'
  exact g.nx own σ' H2 δ' n ⟨o2.sub, o2.ow, o2.mine, o2.ex, S', a'⟩
theorem Ok.chg {Hb : Hp} {o0 own own' : Addr → Bool} {σ : L2.St} {H H' : Hp} (o : Ok K Hb o0 own σ H δ) (i : Nat) {x' : Option V} {s' : Slot} (sub' : ∀ a, o0 a = true → own' a = true) (ow' : ∀ a, own' a = true → H' a ≠ none) (mine' : ∀ a, own' a = true → o0 a = false → Hb a = none) (ex' : Ex Hb H') (ok' : SlotOk K own' H' x' s')
    (tr : ∀ x s, SlotOk K own H x s → (∀ s0, δ[i]? = some s0 → ∃ x0, (i < σ.length → σ[i]? = some x0) ∧ ∀ l, s.has x l → s0.has x0 l → False) → SlotOk K own' H' x s)
    (nw : ∀ l, s'.has x' l → own l = true → ∃ s0, δ[i]? = some s0 ∧ ∀ x0, (i < σ.length → σ[i]? = some x0) → s0.has x0 l) (ac : ∀ x0 l, s'.has x0 l → x0 = none ∨ x0 = x' → o0 l = false) : Ok K Hb o0 own' (σ.set i x') H' (δ.set i s') :=
  ⟨sub', ow', mine', ex', o.sl.chg i ok' tr nw, o.acc.chg i fun x0 l z => ac x0 l (Slot.hasW_has z)⟩
theorem ow_add {own : Addr → Bool} {H H2 : Hp} {l : Addr} {ob : HO} (ow : ∀ a, own a = true → H a ≠ none) (e : Ex H H2) (h2 : H2 l = some ob) : ∀ a, addOwn own l a = true → H2 a ≠ none := fun a ha z => by
  unfold addOwn at ha
  rcases Bool.or_eq_true_iff.mp ha with h | h
  · exact ow a h (e.free z)
  · have : a = l := by simpa using h
    subst this
    rw [h2] at z; cases z
theorem Ok.mineA {Hb : Hp} {o0 own : Addr → Bool} {σ : L2.St} {H : Hp} (o : Ok K Hb o0 own σ H δ) {l : Addr} (hl : H l = none) : ∀ a, addOwn own l a = true → o0 a = false → Hb a = none := fun a ha hb => by
  unfold addOwn at ha
  rcases Bool.or_eq_true_iff.mp ha with h | h
  · exact o.mine a h hb
  · have : a = l := by simpa using h
    subst this
    exact o.ex.free hl
theorem Ok.notOwn {Hb : Hp} {o0 own : Addr → Bool} {σ : L2.St} {H : Hp} (o : Ok K Hb o0 own σ H δ) {l : Addr} (hl : H l = none) : own l = false := by
  cases h : own l with
  | false => rfl
  | true => exact absurd hl (o.ow l h)
theorem Ok.not0 {Hb : Hp} {o0 own : Addr → Bool} {σ : L2.St} {H : Hp} (o : Ok K Hb o0 own σ H δ) {l : Addr} (hl : H l = none) : o0 l = false := by
  cases h : o0 l with
  | false => rfl
  | true => exact absurd (o.sub l h) (by rw [o.notOwn hl]; exact Bool.false_ne_true)
theorem set_same {α : Type} {xs : List α} {i : Nat} {x : α} (h : xs[i]? = some x) : xs.set i x = xs := by
  apply List.ext_getElem?
  intro j
  by_cases hj : i = j
  · subst hj
    rw [List.getElem?_set_self (List.getElem?_eq_some_iff.mp h).1, h]
  · rw [List.getElem?_set_ne hj]
/-- a new owned list at a place -/
theorem Ok.acc1 {Hb : Hp} {o0 own : Addr → Bool} {σ : L2.St} {H H2 : Hp} (o : Ok K Hb o0 own σ H δ) (e : Ex H H2) {l : Addr} {vs : List V} {ds : List D} {i : Nat} (hl : H l = none) (h2 : H2 l = some (.lst vs)) (r : RepL K (mask (addOwn own l) H2) ds vs) :
    Ok K Hb o0 (addOwn own l) (σ.set i (some (.ref l))) H2 (δ.set i (.acc ds)) := by
  refine o.chg i (fun a ha => addOwn_old (o.sub a ha)) (ow_add o.ow e h2) (o.mineA hl) (o.ex.trans e) ⟨l, vs, rfl, addOwn_self, h2, r⟩ (fun x s ok _ => ok.add e hl) (fun l' z y => ?_) (fun x0 l' z y => ?_)
  · have z : some (V.ref l) = some (V.ref l') := z
    cases z
    rw [o.notOwn hl] at y; cases y
  · have z : x0 = some (V.ref l') := z
    subst z
    rcases y with y | y
    · cases y
    · cases y
      exact o.not0 hl
/-- x = [..], owned alone from now on -/
theorem ds_acc (c : Ct M X W k Nm sc) {i : Nat} {s0 : Slot} {p2 p3 : Pos} (hx : At Nm δ x i s0) (hv : Loc sc x) (h : DA X W es δ (fun ds => ds.length ≤ 100000 ∧ ∃ δ', Put Nm δ x (.acc ds) i δ' ∧ N δ') (fun x => PX x δ))
    (hs : swapsWith (.List es p3) (some (.Name x p2)) pos.line X.env = pure false := by rfl) : DS X W (.Assign [.Name x p2] (.List es p3) pos) δ N R B C PX := fun Hb o0 own D' σ H o g => by
  refine sem_ps (ps_set c.nd (by rw [c.hN]; exact hx.N) (c.loc _ hv) (pe_lst pa_sem) hs (c.fn x hv)) ?_
  refine h σ H own _ (o.sy g) fun ds vs H1 ⟨hz, δ', n, hn⟩ e1 r => ⟨by rw [r.length, sizeLine_eq]; omega, fun l hl => ?_⟩
  have e2 : Ex H1 (upd H1 l (.lst vs)) := Ex.new hl
  refine g.nx (addOwn own l) _ _ δ' hn ?_
  rw [n.S]
  refine (o.mono e1).acc1 e2 hl upd_same ?_
  exact r.mono (mask_add e2 hl)
/-- an owned object is written -/
theorem Ok.wrG {Hb : Hp} {o0 own : Addr → Bool} {σ : L2.St} {H : Hp} (o : Ok K Hb o0 own σ H δ) {l : Addr} {ob : HO} {s0 s1 : Slot} {i : Nat} (hi : δ[i]? = some s0) (m0 : s0.hasW (some (.ref l)) l) (hσ : σ[i]? = some (some (.ref l))) (hl : own l = true) (ok : SlotOk K own (upd H l ob) (some (.ref l)) s1)
    (m1 : ∀ x0 l', s1.has x0 l' → x0 = some (.ref l')) : Ok K Hb o0 own σ (upd H l ob) (δ.set i s1) := by
  have h0 : o0 l = false := o.acc i _ l hi (by rw [hσ]; exact m0)
  have hs : i < σ.length := (List.getElem?_eq_some_iff.mp hσ).1
  have e := o.chg i (own' := own) (H' := upd H l ob) (x' := some (.ref l)) (s' := s1) o.sub (fun a ha => ?_) o.mine (fun a u e => ?_) ok (fun x s okx dis => ?_) (fun l' z y => ⟨s0, hi, fun x0 hx => ?_⟩) (fun x0 l' z y => ?_)
  · rw [set_same hσ] at e
    exact e
  · by_cases h : a = l
    · subst h; rw [upd_same]; exact fun z => nomatch z
    · rw [upd_ne h]; exact o.ow a ha
  · have h : a ≠ l := by
      rintro rfl
      rw [o.mine a hl h0] at e; cases e
    rw [upd_ne h]; exact o.ex a u e
  · obtain ⟨x0, h1, h2⟩ := dis s0 hi
    refine okx.other hl fun z => h2 l z ?_
    have := h1 hs
    rw [hσ] at this
    cases this
    exact Slot.hasW_has m0
  · have hx := hx hs
    rw [hσ] at hx
    cases hx
    have := m1 _ _ z
    cases this
    exact Slot.hasW_has m0
  · have q := m1 _ _ z
    subst q
    rcases y with y | y
    · cases y
    · cases y
      exact h0
/-- an owned list is written -/
theorem Ok.wr {Hb : Hp} {o0 own : Addr → Bool} {σ : L2.St} {H : Hp} (o : Ok K Hb o0 own σ H δ) {l : Addr} {vs : List V} {ds ds0 : List D} {i : Nat} (hi : δ[i]? = some (.acc ds0)) (hσ : σ[i]? = some (some (.ref l))) (hl : own l = true) (r : RepL K (mask own H) ds vs) :
    Ok K Hb o0 own σ (upd H l (.lst vs)) (δ.set i (.acc ds)) :=
  o.wrG hi rfl hσ hl ⟨l, vs, rfl, hl, upd_same, by rw [mask_upd_own hl]; exact r⟩ fun _ _ z => z
/-- x.append(e), x owned -/
theorem ds_append (c : Ct M X W k Nm sc) {i : Nat} {ds : List D} {p2 apos cpos : Pos} (hx : At Nm δ x i (.acc ds)) (hv : Vis sc x) (hz : ds.length < 100000) (h : DE X W e δ (fun d => ∃ δ', Put Nm δ x (.acc (ds ++ [d])) i δ' ∧ N δ') (fun x => PX x δ))
    (hd : (x == ("__debug__" : Str)) = false := by decide) (hcd : (x == ("__classdict__" : Str)) = false := by decide)
    (hbase : attributeBase (.Name x p2) "append" X.env (eval (.Name x p2) X.env) = eval (.Name x p2) X.env := by rfl)
    (hfew : ((backTo cpos (starEach [e] X.env)).all (fun x => !x.1) && (backToKw cpos (keywordEach [] X.env)).all (fun x => x.1.isSome)
      && decide ([e].length + ([] : List Keyword).length + (if ([] : List Keyword).isEmpty then 0 else 1) < 30)) = true := by rfl)
    (hline : (apos.endLine == cpos.line) = true := by rfl) (hs : starEach [e] X.env = (false, eval e X.env) :: starEach [] X.env := by rfl) (hplain : (backTo cpos (starEach [] X.env)).any (·.1) = false := by rfl)
    (hsw : swapsWith (.Call (.Attribute (.Name x p2) "append" apos) [e] [] cpos) none pos.line X.env = pure false := by rfl) :
    DS X W (.Expr (.Call (.Attribute (.Name x p2) "append" apos) [e] [] cpos) pos) δ N R B C PX := fun Hb o0 own D' σ H o g => by
  refine sem_psL (ps_expr (pe_bm PySem.F.plainAttrs_list PySem.F.slot_list_append PySem.F.type_list_append mt_append (pe_var (i := i) (by rw [c.hN]; exact hx.N) (c.vis _ hv) hd hcd) (pa_cons pe_sem pa_nil hs) hbase hfew hline hs hplain) hsw) fun hlen => ?_
  obtain ⟨y, h1, l, vs, rfl, h2, h3, r⟩ := o.sl.at (hx.lt c hlen) hx.S
  refine ⟨_, h1, .inl ⟨rfl, vs, SqL.of h3⟩, ?_⟩
  refine h σ H own _ (o.sy g) fun d v H1 ⟨δ', n, hn⟩ e1 r1 => ?_
  refine ⟨l, vs, v, rfl, rfl, e1 _ _ h3, by rw [r.length, sizeLine_eq]; omega, ?_⟩
  refine g.nx own _ _ δ' hn ?_
  rw [n.S]
  exact (o.mono e1).wr hx.S h1 h2 ((r.mono (mask_ex e1)).append (RepL.one r1))
theorem Ok.freeze {Hb : Hp} {o0 own : Addr → Bool} {σ : L2.St} {H : Hp} (o : Ok K Hb o0 own σ H δ) {i : Nat} {l : Addr} {vs : List V} {ds : List D} (hi : δ[i]? = some (.acc ds)) (h1 : σ[i]? = some (some (.ref l))) (h3 : H l = some (.lst vs)) (r : RepL K (mask own H) ds vs) :
    Ok K Hb o0 (fun a => own a && !(a == l)) σ H (δ.set i (.val (.lst ds))) ∧ Rep K (mask (fun a => own a && !(a == l)) H) (.lst ds) (.ref l) := by
  have hs : i < σ.length := (List.getElem?_eq_some_iff.mp h1).1
  have h0 : o0 l = false := o.acc i _ l hi (by rw [h1]; rfl)
  have le : Ex (mask own H) (mask (fun a => own a && !(a == l)) H) := mask_mono fun a z => (Bool.and_eq_true_iff.mp z).1
  have rep : Rep K (mask (fun a => own a && !(a == l)) H) (.lst ds) (.ref l) := by
    refine ⟨l, vs, rfl, SqL.of ?_, r.mono le⟩
    show (if (own l && !(l == l)) = true then none else H l) = _
    rw [show (own l && !(l == l)) = false by simp, if_neg Bool.false_ne_true]
    exact h3
  have e := o.chg i (own' := fun a => own a && !(a == l)) (H' := H) (x' := some (.ref l)) (s' := .val (.lst ds)) (fun a ha => ?_) (fun a ha => o.ow a (Bool.and_eq_true_iff.mp ha).1) (fun a ha hb => o.mine a (Bool.and_eq_true_iff.mp ha).1 hb) o.ex ⟨_, rfl, rep⟩ (fun x s okx dis => ?_) (fun _ z => z.elim) (fun _ _ z => z.elim)
  · rw [set_same h1] at e
    exact ⟨e, rep⟩
  · have : a ≠ l := by rintro rfl; rw [ha] at h0; cases h0
    simp [o.sub a ha, this]
  · obtain ⟨x0, a1, a2⟩ := dis _ hi
    refine okx.to (fun l2 b1 b2 => ⟨?_, fun _ z => z⟩) le
    have hn : l2 ≠ l := by
      rintro rfl
      refine a2 l2 b1 ?_
      have := a1 hs
      rw [h1] at this
      cases this
      rfl
    simp [b2, hn]
/-- an owned list is owned no more -/
theorem dss_freeze (c : Ct M X W k Nm sc) {i : Nat} {ds : List D} (hx : At Nm δ x i (.acc ds)) (h : ∃ δ', Put Nm δ x (.val (.lst ds)) i δ' ∧ DSs X W rest δ' N R B C PX) : DSs X W rest δ N R B C PX := by
  obtain ⟨δ', n, h⟩ := h
  intro Hb o0 own D' σ H o g pins sh I
  obtain ⟨y, h1, l, vs, rfl, h2, h3, r⟩ := o.sl.at (hx.lt c I.len) hx.S
  refine h Hb o0 (fun a => own a && !(a == l)) D' σ H ?_ g pins sh I
  rw [n.S]
  exact (o.freeze hx.S h1 h3 r).1
/-- an owned list is handed back -/
theorem ds_ret_acc (c : Ct M X W k Nm sc) {i : Nat} {ds : List D} {p2 : Pos} (h : At Nm δ x i (.acc ds)) (hv : Vis sc x) (p : R (.lst ds) (δ.set i (.val (.lst ds)))) (hd : (x == ("__debug__" : Str)) = false := by decide) (hcd : (x == ("__classdict__" : Str)) = false := by decide) :
    DS X W (.Return (some (.Name x p2)) pos) δ N R B C PX := fun Hb o0 own D' σ H o g => by
  refine sem_psL (ps_ret (pe_var (i := i) (by rw [c.hN]; exact h.N) (c.vis _ hv) hd hcd)) fun hl => ?_
  obtain ⟨y, h1, l, vs, rfl, h2, h3, r⟩ := o.sl.at (h.lt c hl) h.S
  obtain ⟨o2, r2⟩ := o.freeze h.S h1 h3 r
  exact ⟨_, h1, g.rt _ σ H _ _ _ p o2 r2⟩
/-! ### what is walked -/
/-- the walk J yields the data ds, as long as what is not owned stands -/
def Wk (K : Fr) (own : Addr → Bool) (H1 : Hp) (J : It) (ds : List D) : Prop := ∀ own' H', (∀ a, own' a = true → H' a ≠ none) → Ex (mask own H1) (mask own' H') →
  (∀ i d, ds[i]? = some d → J.go i H' ∧ ∀ y H'', J.yld i H' y H'' → Ex H' H'' ∧ Rep K (mask own' H'') d y) ∧ ∀ i, ds.length ≤ i → J.stop i H'
def semI (X : Cx) (tg iter : Expr) : TI := fun σ H R => ∀ (pins : List (Addr × Obj)) (s : Shared), Inv X pins σ H s → wpAny (model X.prog X.w) X.A (eval iter X.env) (fun v s1 => wpAny (model X.prog X.w) X.A (pyIter v) (PIE X pins σ tg R) X.xe s1) X.xe s
theorem pi_sem {tg iter : Expr} : PI X tg iter (semI X tg iter) := ⟨fun pins s _ _ _ I h => h pins s I⟩
def DI (X : Cx) (W : WX) (tg iter : Expr) (δ : List Slot) (P : List D → Prop) (PX : Xd → Prop) : Prop := ∀ σ H own (Q : It → Hp → Prop), Sy X.K W own σ H δ PX → (∀ ds J H1, P ds → Ex H H1 → Wk X.K own H1 J ds → Q J H1) → semI X tg iter σ H Q
section
variable {P : List D → Prop} {PX : Xd → Prop} {tg : Expr}
theorem di_list (h : DE X W e δ (fun d => ∃ ds, d = .lst ds ∧ P ds) PX) : DI X W tg e δ P PX := by
  intro σ H own Q S q pins s I
  refine (pi_list pe_sem).run pins s σ H Q I ?_
  refine h σ H own _ S fun d v H1 ⟨ds, hd, p⟩ e1 r => ?_
  subst hd
  obtain ⟨a, vs, rfl, h1, h2⟩ := r
  refine ⟨a, rfl, ⟨vs, mask_le.sqL h1⟩, q ds _ H1 p e1 fun own' H' ow' e' => ⟨fun i d hd => ?_, fun i hi => ⟨vs, mask_le.sqL (e'.sqL h1), by rw [h2.length]; exact hi⟩⟩⟩
  obtain ⟨v, h3, h4⟩ := h2.get hd
  refine ⟨⟨vs, v, mask_le.sqL (e'.sqL h1), h3⟩, fun y H'' hy => ?_⟩
  obtain ⟨z, hy⟩ := hy
  subst z
  have := hy vs (mask_le.sqL (e'.sqL h1))
  rw [h3] at this; cases this
  exact ⟨Ex.refl _, h4.mono e'⟩
theorem di_tup (h : DE X W e δ (fun d => ∃ ds, d = .tup ds ∧ P ds) PX) : DI X W tg e δ P PX := by
  intro σ H own Q S q pins s I
  refine (pi_tup pe_sem).run pins s σ H Q I ?_
  refine h σ H own _ S fun d v H1 ⟨ds, hd, p⟩ e1 r => ?_
  subst hd
  obtain ⟨a, vs, rfl, h1, h2⟩ := r
  refine ⟨a, rfl, ⟨vs, mask_le.sqT h1⟩, q ds _ H1 p e1 fun own' H' ow' e' => ⟨fun i d hd => ?_, fun i hi => ⟨vs, mask_le.sqT (e'.sqT h1), by rw [h2.length]; exact hi⟩⟩⟩
  obtain ⟨v, h3, h4⟩ := h2.get hd
  refine ⟨⟨vs, v, mask_le.sqT (e'.sqT h1), h3⟩, fun y H'' hy => ?_⟩
  obtain ⟨z, hy⟩ := hy
  subst z
  have := hy vs (mask_le.sqT (e'.sqT h1))
  rw [h3] at this; cases this
  exact ⟨Ex.refl _, h4.mono e'⟩
/-- the signs of a text -/
def signs (z : Str) : List D := z.cps.toList.map fun ch => .str ⟨#[ch]⟩
theorem di_str (h : DE X W e δ (fun d => ∃ z, d = .str z ∧ P (signs z)) PX) : DI X W tg e δ P PX := by
  intro σ H own Q S q pins s I
  refine (pi_str pe_sem).run pins s σ H Q I ?_
  refine h σ H own _ S fun d v H1 ⟨z, hd, p⟩ e1 r => ?_
  subst hd
  have e2 : v = .str z := r
  subst e2
  refine ⟨z, rfl, q _ _ H1 p e1 fun own' H' ow' e' => ⟨fun i d hd => ?_, fun i hi => (show z.cps.size ≤ i by simpa [signs] using hi)⟩⟩
  have hi : i < z.cps.size := by simpa [signs] using (List.getElem?_eq_some_iff.mp hd).1
  refine ⟨hi, fun y H'' hy => ?_⟩
  obtain ⟨z1, ch, h1, h2⟩ := hy
  subst z1; subst h2
  refine ⟨Ex.refl _, ?_⟩
  have : (signs z)[i]? = some (.str ⟨#[ch]⟩) := by
    unfold signs
    rw [List.getElem?_map, Array.getElem?_toList, h1]; rfl
  rw [this] at hd; cases hd
  rfl
def rangeD (lo : Int) (n : Nat) : List D := (List.range n).map fun (i : Nat) => .int (lo + (i : Int))
theorem rangeD_wk {K : Fr} {own : Addr → Bool} {H1 : Hp} {lo : Int} {n : Nat} : Wk K own H1 (Itr lo n) (rangeD lo n) := fun own' H' ow' e' => ⟨fun i d hd => by
  have hi : i < n := by simpa [rangeD] using (List.getElem?_eq_some_iff.mp hd).1
  refine ⟨hi, fun y H'' hy => ?_⟩
  obtain ⟨z, hy⟩ := hy
  subst z; subst hy
  refine ⟨Ex.refl _, ?_⟩
  have : (rangeD lo n)[i]? = some (.int (lo + (i : Int))) := by simp [rangeD, hi]
  rw [this] at hd; cases hd
  rfl, fun i hi => (show n ≤ i by simpa [rangeD] using hi)⟩
theorem di_range1 (c : Ct M X W k Nm sc) (hg : GlS sc "range") (hm : Bi M "range") (h : DE X W a δ (fun d => ∃ n, d = .int n ∧ -(2 ^ 62) ≤ n ∧ n < 2 ^ 62 ∧ P (rangeD 0 n.toNat)) PX)
    (hs : starEach [a] X.env = [(false, eval a X.env)] := by rfl) : DI X W tg (.Call (.Name "range" p) [a] [] pos) δ P PX := by
  intro σ H own Q S q pins s I
  refine (pi_range1 (c.gl _ hg) (by rw [c.hmg]; exact hm) pa_sem hs).run pins s σ H Q I ?_
  refine (da_cons (P := fun ds => ∃ n, ds = [.int n] ∧ -(2 ^ 62) ≤ n ∧ n < 2 ^ 62 ∧ P (rangeD 0 n.toNat)) ?_ hs) σ H own _ S fun ds vs H1 ⟨n, hd, h1, h2, p⟩ e1 r => ?_
  · intro σ H own Q S q
    exact h σ H own Q S fun d v H2 ⟨n, hd, h1, h2, p⟩ e2 r => q d v H2 (da_nil ⟨n, by rw [hd], h1, h2, p⟩) e2 r
  subst hd
  obtain ⟨v, rfl, rv⟩ := r.vals1
  have e2 : v = V.int n := rv
  subst e2
  exact ⟨n, rfl, h1, h2, q _ _ H1 p e1 rangeD_wk⟩
theorem di_range2 (c : Ct M X W k Nm sc) (hg : GlS sc "range") (hm : Bi M "range") (h : DE X W a δ (fun d => ∃ n, d = .int n ∧ -(2 ^ 62) ≤ n ∧ n < 2 ^ 62 ∧ DE X W b δ (fun d => ∃ m, d = .int m ∧ -(2 ^ 62) ≤ m ∧ m < 2 ^ 62 ∧ P (rangeD n (m - n).toNat)) PX) PX)
    (hs : starEach [a, b] X.env = [(false, eval a X.env), (false, eval b X.env)] := by rfl) (hs2 : starEach [b] X.env = [(false, eval b X.env)] := by rfl) : DI X W tg (.Call (.Name "range" p) [a, b] [] pos) δ P PX := by
  intro σ H own Q S q pins s I
  refine (pi_range2 (c.gl _ hg) (by rw [c.hmg]; exact hm) pa_sem hs hs2).run pins s σ H Q I ?_
  refine (da_cons (P := fun ds => ∃ n m, ds = [.int n, .int m] ∧ -(2 ^ 62) ≤ n ∧ n < 2 ^ 62 ∧ -(2 ^ 62) ≤ m ∧ m < 2 ^ 62 ∧ P (rangeD n (m - n).toNat)) ?_ (by rw [hs, hs2])) σ H own _ S fun ds vs H1 ⟨n, m, hd, h1, h2, h3, h4, p⟩ e1 r => ?_
  · intro σ H own Q S q
    refine h σ H own Q S fun d v H2 ⟨n, hd, h1, h2, p⟩ e2 r => q d v H2 ?_ e2 r
    refine da_cons ?_ hs2
    intro σ H own Q S q
    exact p σ H own Q S fun d' v' H3 ⟨m, hd', h3, h4, p'⟩ e3 r' => q d' v' H3 (da_nil ⟨n, m, by rw [hd, hd'], h1, h2, h3, h4, p'⟩) e3 r'
  subst hd
  obtain ⟨v, w, rfl, rv, rw⟩ := r.vals2
  have e2 : v = .int n := rv
  have e3 : w = .int m := rw
  subst e2; subst e3
  exact ⟨n, m, rfl, ⟨h1, h2, h3, h4⟩, q _ _ H1 p e1 rangeD_wk⟩
def enumD (n : Nat) : List D → List D
  | [] => []
  | d :: r => .tup [.int (n : Int), d] :: enumD (n + 1) r
theorem enumD_get : ∀ (ds : List D) (n i : Nat), (enumD n ds)[i]? = (ds[i]?).map fun d => .tup [.int ((n + i : Nat) : Int), d]
  | [], n, i => by simp [enumD]
  | d :: r, n, 0 => by simp [enumD]
  | d :: r, n, i + 1 => by
    simp only [enumD, List.getElem?_cons_succ, enumD_get r (n + 1) i]
    congr 2
    funext d
    rw [show n + 1 + i = n + (i + 1) by omega]
theorem enumD_len : ∀ (ds : List D) (n : Nat), (enumD n ds).length = ds.length
  | [], n => rfl
  | d :: r, n => by simp [enumD, enumD_len r (n + 1)]
theorem di_enum {tpos : Pos} {elts : List Expr} {kk : Nat} (c : Ct M X W k Nm sc) (hg : GlS sc "enumerate") (hm : Bi M "enumerate") (h : DE X W a δ (fun d => ∃ ds, d = .lst ds ∧ P (enumD 0 ds)) PX)
    (hs : starEach [a] X.env = [(false, eval a X.env)] := by rfl) : DI X W (.Tuple elts kk tpos) (.Call (.Name "enumerate" p) [a] [] pos) δ P PX := by
  intro σ H own Q S q pins s I
  refine (pi_enum (c.gl _ hg) (by rw [c.hmg]; exact hm) pa_sem hs).run pins s σ H Q I ?_
  refine (da_cons (P := fun es => ∃ ds, es = [.lst ds] ∧ P (enumD 0 ds)) ?_ hs) σ H own _ S fun es vs H1 ⟨ds, hd, p⟩ e1 r => ?_
  · intro σ H own Q S q
    exact h σ H own Q S fun d v H2 ⟨ds, hd, p⟩ e2 r => q d v H2 (da_nil ⟨ds, by rw [hd], p⟩) e2 r
  subst hd
  obtain ⟨v, rfl, a, vs, rfl, h1, h2⟩ := r.vals1
  refine ⟨a, vs, rfl, mask_le.sqL h1, q _ _ H1 p e1 fun own' H' ow' e' => ⟨fun i d hd => ?_, fun i hi => ⟨vs, mask_le.sqL (e'.sqL h1), by rw [h2.length]; rw [enumD_len] at hi; exact hi⟩⟩⟩
  rw [enumD_get] at hd
  cases hx : ds[i]? with
  | none => rw [hx] at hd; cases hd
  | some x =>
    rw [hx] at hd
    cases hd
    obtain ⟨v, h3, h4⟩ := h2.get hx
    refine ⟨⟨vs, v, mask_le.sqL (e'.sqL h1), h3⟩, fun y H'' hy => ?_⟩
    obtain ⟨T, x', rfl, hT, rfl, hy⟩ := hy
    have := hy vs (mask_le.sqL (e'.sqL h1))
    rw [h3] at this; cases this
    refine ⟨Ex.new hT, ?_⟩
    rw [mask_new ow' hT]
    exact ⟨T, _, rfl, SqT.of upd_same, _, _, rfl, by rw [Nat.zero_add]; rfl, _, _, rfl, h4.mono (e'.trans (Ex.new (mask_at hT))), rfl⟩
def zipD : List D → List D → List D
  | d :: r, e :: t => .tup [d, e] :: zipD r t
  | _, _ => []
theorem zipD_get : ∀ (ds es : List D) (i : Nat), (zipD ds es)[i]? = (ds[i]?).bind fun d => (es[i]?).map fun e => .tup [d, e]
  | [], es, i => by simp [zipD]
  | d :: r, [], i => by
    rw [show zipD (d :: r) [] = [] from rfl]
    cases hx : (d :: r)[i]? <;> simp
  | d :: r, e :: t, 0 => by simp [zipD]
  | d :: r, e :: t, i + 1 => by
    simp only [zipD, List.getElem?_cons_succ, zipD_get r t i]
theorem zipD_len : ∀ (ds es : List D), (zipD ds es).length = min ds.length es.length
  | [], es => by simp [zipD]
  | d :: r, [] => by simp [zipD]
  | d :: r, e :: t => by simp [zipD, zipD_len r t]
theorem di_zip {tpos : Pos} {elts : List Expr} {kk : Nat} (c : Ct M X W k Nm sc) (hg : GlS sc "zip") (hm : Bi M "zip") (h : DE X W a δ (fun d => ∃ ds, d = .lst ds ∧ DE X W b δ (fun d => ∃ es, d = .lst es ∧ P (zipD ds es)) PX) PX)
    (hs : starEach [a, b] X.env = (false, eval a X.env) :: starEach [b] X.env := by rfl) (hs2 : starEach [b] X.env = [(false, eval b X.env)] := by rfl) (hpl : (backTo pos (starEach [b] X.env)).any (·.1) = false := by rfl) : DI X W (.Tuple elts kk tpos) (.Call (.Name "zip" p) [a, b] [] pos) δ P PX := by
  intro σ H own Q S q pins s I
  refine (pi_zip (c.gl _ hg) (by rw [c.hmg]; exact hm) pa_sem hs hpl).run pins s σ H Q I ?_
  refine (da_cons (P := fun zs => ∃ ds es, zs = [.lst ds, .lst es] ∧ P (zipD ds es)) ?_ hs) σ H own _ S fun zs vs H1 ⟨ds, es, hd, p⟩ e1 r => ?_
  · intro σ H own Q S q
    refine h σ H own Q S fun d v H2 ⟨ds, hd, p⟩ e2 r => q d v H2 ?_ e2 r
    refine da_cons ?_ hs2
    intro σ H own Q S q
    exact p σ H own Q S fun d' v' H3 ⟨es, hd', p'⟩ e3 r' => q d' v' H3 (da_nil ⟨ds, es, by rw [hd, hd'], p'⟩) e3 r'
  subst hd
  obtain ⟨v, w, rfl, ⟨a, vs, rfl, h1, h2⟩, ⟨b, ws, rfl, h3, h4⟩⟩ := r.vals2
  refine ⟨a, b, vs, ws, rfl, mask_le.sqL h1, mask_le.sqL h3, q _ _ H1 p e1 fun own' H' ow' e' => ⟨fun i d hd => ?_, fun i hi => ⟨vs, ws, mask_le.sqL (e'.sqL h1), mask_le.sqL (e'.sqL h3), by rw [h2.length, h4.length]; rw [zipD_len] at hi; omega⟩⟩⟩
  rw [zipD_get] at hd
  cases hx : ds[i]? with
  | none => rw [hx] at hd; cases hd
  | some x =>
    cases hy : es[i]? with
    | none => rw [hx, hy] at hd; cases hd
    | some y =>
      rw [hx, hy] at hd
      cases hd
      obtain ⟨v, h5, h6⟩ := h2.get hx
      obtain ⟨w, h7, h8⟩ := h4.get hy
      refine ⟨⟨vs, ws, v, w, mask_le.sqL (e'.sqL h1), mask_le.sqL (e'.sqL h3), h5, h7⟩, fun y' H'' hy' => ?_⟩
      obtain ⟨T, x', y2, rfl, hT, rfl, hv, hw⟩ := hy'
      have z1 := hv vs (mask_le.sqL (e'.sqL h1))
      have z2 := hw ws (mask_le.sqL (e'.sqL h3))
      rw [h5] at z1; cases z1
      rw [h7] at z2; cases z2
      refine ⟨Ex.new hT, ?_⟩
      rw [mask_new ow' hT]
      have e2 := e'.trans (Ex.new (mask_at hT) (o := .tup [v, w]))
      exact ⟨T, _, rfl, SqT.of upd_same, _, _, rfl, h6.mono e2, _, _, rfl, h8.mono e2, rfl⟩
end
end
end PV

set_option Elab.async false
set_option linter.all false
set_option maxRecDepth 100000
set_option maxHeartbeats 2000000
/-! PV7: loops, comprehensions, a def's promise, its call, its body. -/
namespace PV
open PySem PySem.Spec PyProof.Rows L2
section
variable {M : Md} {X : Cx} {W : WX} {k : Nat} {Nm : List Str} {sc : Scope} {δ δ' δ1 : List Slot} {N : List Slot → Prop} {R : D → List Slot → Prop} {B C : List Slot → Prop} {PX : Xd → List Slot → Prop} {e a b d2 : Expr} {es : List Expr} {pos p : Pos} {x : Str} {st : Stmt} {rest body orelse : List Stmt} {K : Fr}

/-! ### for -/
/-- what stands fixed through a loop: all that isn't owned by the code itself -/
def fixedH (own o0 : Addr → Bool) (H : Hp) : Hp := fun a => if (own a && !o0 a) = true then none else H a
theorem fixedH_le {own o0 : Addr → Bool} {H : Hp} : Ex (fixedH own o0 H) H := fun a o h => by
  unfold fixedH at h
  split at h
  · cases h
  · exact h
theorem Ok.fix {Hb : Hp} {o0 own : Addr → Bool} {σ : L2.St} {H : Hp} (o : Ok K Hb o0 own σ H δ) : Ok K (fixedH own o0 H) o0 own σ H δ := ⟨o.sub, o.ow, fun a h1 h2 => by unfold fixedH; rw [if_pos (by rw [h1, h2]; rfl)], fixedH_le, o.sl, o.acc⟩
theorem Ok.fixEx {Hb : Hp} {o0 own : Addr → Bool} {σ : L2.St} {H : Hp} (o : Ok K Hb o0 own σ H δ) : Ex Hb (fixedH own o0 H) := fun a u h => by
  unfold fixedH
  rw [if_neg ?_]
  · exact o.ex a u h
  · intro z
    rw [Bool.and_eq_true] at z
    rw [o.mine a z.1 (by simpa using z.2)] at h; cases h
theorem Ok.unfix {Hb Hb' : Hp} {o0 own : Addr → Bool} {σ : L2.St} {H : Hp} (e : Ex Hb Hb') (o : Ok K Hb' o0 own σ H δ) : Ok K Hb o0 own σ H δ := ⟨o.sub, o.ow, fun a h1 h2 => e.free (o.mine a h1 h2), e.trans o.ex, o.sl, o.acc⟩
theorem Goal.unfix {Hb Hb' : Hp} {o0 : Addr → Bool} {D' : Ends} (e : Ex Hb Hb') (g : Goal K W Hb o0 D' N R B C PX) : Goal K W Hb' o0 D' N R B C PX :=
  ⟨fun own σ H δ h o => g.nx own σ H δ h (o.unfix e), fun own σ H δ d v h o r => g.rt own σ H δ d v h (o.unfix e) r, fun own σ H δ h o => g.bk own σ H δ h (o.unfix e), fun own σ H δ h o => g.ct own σ H δ h (o.unfix e), fun own σ H δ o => g.px own σ H δ (o.unfix e)⟩
theorem Ok.still {Hb : Hp} {o0 own own' : Addr → Bool} {σ' : L2.St} {H H' : Hp} (hs : ∀ a, o0 a = true → own a = true) (o' : Ok K (fixedH own o0 H) o0 own' σ' H' δ') : Ex (mask own H) (mask own' H') := fun a u h => by
  have h1 : own a = false := by
    cases q : own a with
    | false => rfl
    | true => unfold mask at h; rw [if_pos q] at h; cases h
  have h2 : H a = some u := mask_le a u h
  have h3 : fixedH own o0 H a = some u := by unfold fixedH; rw [h1]; exact h2
  unfold mask
  rw [if_neg ?_]
  · exact o'.ex a u h3
  · intro z
    cases q : o0 a with
    | true => rw [hs a q] at h1; cases h1
    | false => rw [o'.mine a z q] at h3; cases h3
theorem ds_for (c : Ct M X W k Nm sc) {tg iter : Expr} (I : Nat → List Slot → Prop) (h : DI X W tg iter δ (fun ds => I 0 δ ∧ (∀ i d δi, ds[i]? = some d → I i δi → ∃ δ2 T, DG M Nm sc tg d δi δ2 T ∧ DSs X W body δ2 (I (i + 1)) R N (I (i + 1)) PX) ∧ ∀ δn, I ds.length δn → N δn) (fun x => PX x δ))
    (hs : ∀ x, foldedSetIterable iter X.env x = pure x := by intro _; rfl) : DS X W (.For tg iter body [] pos) δ N R B C PX := fun Hb o0 own D' σ H o g => by
  refine sem_ps (ps_for c.po c.calm pi_sem pg_sem pss_sem hs) ?_
  refine h σ H own _ (o.sy g) fun ds J H1 ⟨h0, step, fin⟩ e1 wk => ?_
  have o1 := o.mono e1
  have eb := o1.fixEx
  refine ⟨fun i m σ' H' => m = ds.length - i ∧ i ≤ ds.length ∧ ∃ δi own', I i δi ∧ Ok X.K (fixedH own o0 H1) o0 own' σ' H' δi, ⟨ds.length, by simp, Nat.zero_le _, δ, own, h0, o1.fix⟩, ?_⟩
  rintro i m σ' H' ⟨rfl, hi, δi, own', hI, o'⟩
  obtain ⟨wk1, wk2⟩ := wk own' H' o'.ow (o'.still (Hb := Hb) o.sub)
  by_cases hlt : i < ds.length
  · have hd : ds[i]? = some ds[i] := by simp [hlt]
    obtain ⟨go, yld⟩ := wk1 i ds[i] hd
    obtain ⟨δ2, T, ⟨gg, g1, g2⟩, hb⟩ := step i ds[i] δi hd hI
    refine .inr ⟨go, fun σ3 H3 => ∃ δ3 own3, I (i + 1) δ3 ∧ Ok X.K (fixedH own o0 H1) o0 own3 σ3 H3 δ3, fun σ3 H3 ⟨δ3, own3, i3, o3⟩ => ⟨ds.length - (i + 1), by omega, rfl, hlt, δ3, own3, i3, o3⟩, fun y H2 hy => ?_⟩
    obtain ⟨e2, r⟩ := yld y H2 hy
    have o2 := o'.mono e2
    have S2 := o2.sl
    rw [c.hK] at S2 r
    intro pins s u Iv ru
    refine (g1 X W k c).run pins s σ' H2 y u _ Iv ru (g2 y σ' H2 own' o0 _ S2 o2.acc r fun σ3 S3 a3 _ => ?_)
    rw [← c.hK] at S3
    have g' := g.unfix eb
    exact hb (fixedH own o0 H1) o0 own' _ σ3 H2 ⟨o2.sub, o2.ow, o2.mine, o2.ex, S3, a3⟩
      ⟨fun own4 σ4 H4 δ4 i4 o4 => ⟨δ4, own4, i4, o4⟩, g'.rt, g'.nx, fun own4 σ4 H4 δ4 i4 o4 => ⟨δ4, own4, i4, o4⟩, g'.px⟩
  · have e2 : i = ds.length := by omega
    subst e2
    exact .inl ⟨wk2 _ (Nat.le_refl _), (g.unfix eb).nx own' σ' H' δi (fin δi hI) o'⟩

/-! ### while, by a word and a measure over the places -/
theorem ds_while (c : Ct M X W k Nm sc) (I : Nat → List Slot → Prop) (m0 : Nat) (h0 : I m0 δ)
    (h : ∀ m δi, I m δi → DT X W e δi (fun i => (i = true → DSs X W body δi (fun δ3 => ∃ m', m' < m ∧ I m' δ3) R N (fun δ3 => ∃ m', m' < m ∧ I m' δ3) PX) ∧ (i = false → N δi)) (fun x => PX x δi)) : DS X W (.While e body [] pos) δ N R B C PX := fun Hb o0 own D' σ H o g => by
  refine sem_ps (ps_while c.po pt_sem pss_sem) ?_
  refine ⟨fun m σ' H' => ∃ δi own', I m δi ∧ Ok X.K Hb o0 own' σ' H' δi, ⟨m0, δ, own, h0, o⟩, ?_⟩
  rintro m σ' H' ⟨δi, own', hI, o'⟩
  refine h m δi hI σ' H' own' _ (o'.sy g) fun i H1 ⟨p1, p2⟩ e1 => ?_
  have o1 := o'.mono e1
  cases i with
  | true =>
    rw [if_pos rfl]
    refine ⟨fun σ3 H3 => ∃ δ3 own3, (∃ m', m' < m ∧ I m' δ3) ∧ Ok X.K Hb o0 own3 σ3 H3 δ3, fun σ3 H3 ⟨δ3, own3, ⟨m', hm, i3⟩, o3⟩ => ⟨m', hm, δ3, own3, i3, o3⟩, ?_⟩
    exact p1 rfl Hb o0 own' _ σ' H1 o1 ⟨fun own4 σ4 H4 δ4 i4 o4 => ⟨δ4, own4, i4, o4⟩, g.rt, g.nx, fun own4 σ4 H4 δ4 i4 o4 => ⟨δ4, own4, i4, o4⟩, g.px⟩
  | false =>
    rw [if_neg Bool.false_ne_true]
    exact g.nx own' σ' H1 δi (p2 rfl) o1

/-! ### comprehensions -/
def wipeS (δ : List Slot) : List Nat → List Slot
  | [] => δ
  | v :: vs => (wipeS δ vs).set v .no
inductive Wp : List (Str × Nat) → List Str → List Slot → List Slot → Prop
  | nil {Na ea} : Wp [] Na ea ea
  | cons {x i ps Na ea eb ec} : Wp ps Na ea eb → Put Na eb x .no i ec → Wp ((x, i) :: ps) Na ea ec
theorem Wp.S {ps : List (Str × Nat)} {N : List Str} {δ δ' : List Slot} (h : Wp ps N δ δ') : δ' = wipeS δ (ps.map (·.2)) := by
  induction h with
  | nil => rfl
  | cons h1 h2 ih => rw [h2.S, ih]; rfl
/-- the names that a block stores -/
inductive OwnN : List (Str × NameKind) → List (Str × Nat) → Prop
  | nil : OwnN [] []
  | dot {q r s} : OwnN r s → OwnN ((Str.ofString ".0", q) :: r) s
  | loc {x i r s} : OwnN r s → OwnN ((x, .local) :: r) ((x, i) :: s)
  | cel {x i r s} : OwnN r s → OwnN ((x, .cell) :: r) ((x, i) :: s)
  | fre {x r s} : OwnN r s → OwnN ((x, .free) :: r) s
  | gim {x r s} : OwnN r s → OwnN ((x, .globalImplicit) :: r) s
  | gex {x r s} : OwnN r s → OwnN ((x, .globalExplicit) :: r) s
/-- the same, with the places forgotten -/
inductive OwnW : List (Str × NameKind) → List Str → List Slot → List (Str × Nat) → List Slot → Prop
  | nil {Na ea} : OwnW [] Na ea [] ea
  | dot {q r Na ea s eb} : OwnW r Na ea s eb → OwnW ((Str.ofString ".0", q) :: r) Na ea s eb
  | loc {x i r Na ea s eb ec} : OwnW r Na ea s eb → Put Na eb x .no i ec → OwnW ((x, .local) :: r) Na ea ((x, i) :: s) ec
  | cel {x i r Na ea s eb ec} : OwnW r Na ea s eb → Put Na eb x .no i ec → OwnW ((x, .cell) :: r) Na ea ((x, i) :: s) ec
  | fre {x r Na ea s eb} : OwnW r Na ea s eb → OwnW ((x, .free) :: r) Na ea s eb
  | gim {x r Na ea s eb} : OwnW r Na ea s eb → OwnW ((x, .globalImplicit) :: r) Na ea s eb
  | gex {x r Na ea s eb} : OwnW r Na ea s eb → OwnW ((x, .globalExplicit) :: r) Na ea s eb
theorem OwnW.wp {ns : List (Str × NameKind)} {N : List Str} {δ δ' : List Slot} {own : List (Str × Nat)} (h : OwnW ns N δ own δ') : Wp own N δ δ' := by
  induction h with
  | nil => exact .nil
  | dot _ ih => exact ih
  | loc _ h2 ih => exact .cons ih h2
  | cel _ h2 ih => exact .cons ih h2
  | fre _ ih => exact ih
  | gim _ ih => exact ih
  | gex _ ih => exact ih
theorem Slots.wipe {own : Addr → Bool} {H : Hp} {σ : L2.St} {δ : List Slot} (h : Slots K own H σ δ) : ∀ vs : List Nat, Slots K own H (L2.wipe σ vs) (wipeS δ vs)
  | [] => h
  | v :: vs => (Slots.wipe h vs).drop v none
theorem wipe_get {σ : L2.St} {j : Nat} : ∀ {vs : List Nat}, (L2.wipe σ vs)[j]? = if j ∈ vs ∧ j < σ.length then some none else σ[j]?
  | [] => by simp [L2.wipe]
  | v :: vs => by
    unfold L2.wipe
    rw [List.getElem?_set, L2.wipe_length, wipe_get (vs := vs)]
    by_cases h1 : v = j
    · subst h1
      by_cases h2 : v < σ.length
      · simp [h2]
      · have : σ[v]? = none := by simp; omega
        simp [h2, this]
    · have h1' : ¬ j = v := fun z => h1 z.symm
      simp [h1, h1']
theorem wipe_but {T vs : List Nat} {σ σ' : L2.St} (h : But T σ σ') (ht : ∀ i ∈ T, i ∈ vs) : L2.wipe σ' vs = L2.wipe σ vs := by
  apply List.ext_getElem?
  intro j
  rw [wipe_get, wipe_get, h.1]
  by_cases hj : j ∈ vs
  · by_cases hl : j < σ.length
    · simp [hj, hl]
    · have h1 : σ[j]? = none := List.getElem?_eq_none (by omega)
      have h2 : σ'[j]? = none := List.getElem?_eq_none (by rw [h.1]; omega)
      rw [h1, h2]
  · rw [h.2 j (fun z => hj (ht j z))]
theorem wipe_wipe {σ : L2.St} {vs : List Nat} : L2.wipe (L2.wipe σ vs) vs = L2.wipe σ vs := wipe_but (T := vs) ⟨L2.wipe_length σ vs, fun j h => by rw [wipe_get]; simp [h]⟩ fun i h => h
abbrev W0 : WX := fun _ _ _ _ => False
abbrev X0 : Xd → Prop := fun _ => False
theorem relS_free {sc : Scope} {x : Str} : ∀ {names : List (Str × NameKind)}, names.lookup x = some .free →
    (names.map fun (n, k) => if (k == .free && sc.kind == .function && sc.names.lookup n == some .cell) then (n, NameKind.cell) else (n, k)).lookup x = some .cell ∨
    (names.map fun (n, k) => if (k == .free && sc.kind == .function && sc.names.lookup n == some .cell) then (n, NameKind.cell) else (n, k)).lookup x = some .free
  | [], h => by simp at h
  | (n, q) :: r, h => by
    rw [List.map_cons]
    by_cases hn : (x == n) = true
    · simp only [List.lookup, hn] at h
      cases h
      by_cases hc : ((NameKind.free == .free && sc.kind == .function && sc.names.lookup n == some .cell) = true)
      · left
        simp only [hc, if_true, List.lookup, hn]
      · right
        simp only [hc, if_false, List.lookup, hn]
        simp [List.lookup, hn]
    · have hn' : (x == n) = false := by simpa using hn
      simp only [List.lookup, hn'] at h
      have ih := @relS_free sc x r h
      have e : ∀ (z : Str × NameKind) (l : List (Str × NameKind)), z.1 = n → (z :: l).lookup x = l.lookup x := fun z l hz => by
        obtain ⟨z1, z2⟩ := z
        have hz' : z1 = n := hz
        subst hz'
        simp only [List.lookup, hn']
      rw [e _ _ (by show (if _ then _ else _ : Str × NameKind).1 = n; split <;> rfl)]
      exact ih
/-- a block's place -/
def Blk (X : Cx) (scope : Scope) (X' : Cx) : Prop := ∃ (s : Shared) (H : Hp) (C : Addr) (cl : List (Str × Addr)) (fp : List Addr), X' = X.blk s H scope (compEnvC scope cl C X.env) fp
theorem Blk.ct {scope : Scope} {X' : Cx} (c : Ct M X W k Nm sc) (hkd : scope.kind = .function) (h : Blk X scope X') : Ct M X' W0 k Nm scope := by
  obtain ⟨s, H, C, cl, fp, rfl⟩ := h
  have hk : ∀ {x : Str} {q : NameKind}, q ≠ .free → scope.names.lookup x = some q → (relS scope X.env.scope).names.lookup x = some q := fun h1 h2 => lookup_relS_keep h1 h2
  have hf : ∀ {x : Str}, scope.names.lookup x = some .free → (relS scope X.env.scope).names.lookup x = some .cell ∨ (relS scope X.env.scope).names.lookup x = some .free := fun {x} h2 => relS_free h2
  refine ⟨c.room, c.calm, takes0, c.nd, c.hP, c.hw, c.hK, c.hmg, c.hb, c.hN, fun x hx => hk (by decide) hx, fun x hx => ?_, fun x hx => hk (by decide) hx, hkd, fun x hx => ?_, fun sc2 own2 hb => ?_, PassesOwn.never, fun x hx => ?_⟩
  · rcases hx with hx | hx | hx
    · exact .inl (hk (by decide) hx)
    · exact .inr (.inl (hk (by decide) hx))
    · exact .inr (hf hx)
  · rcases hx with hx | hx
    · exact .inl (hk (by decide) hx)
    · exact .inr (hk (by decide) hx)
  · have b := blkOk_by hb
    refine ⟨b.kind, b.uniq, fun p hp => ?_, fun y hy e => ?_, fun y hy e => ?_⟩
    · show X.N[p.2]? = some p.1
      rw [c.hN]; exact b.ix p hp
    · rcases b.free y hy e with q | q
      · exact .inl (hk (by decide) q)
      · exact hf q
    · show y.1 ∈ own2.map (·.1) ∨ y.1 ∉ X.N
      rw [c.hN]; exact b.own y hy e
  · rcases hx with hx | hx
    · exact .inr (hk (by decide) hx)
    · exact .inl (by show (scope.names.lookup x == some .cell) = true; have hx' : scope.names.lookup x = some .cell := hx; rw [hx']; rfl)
def semF (F : Cx → Prop) (e : Expr) : TE := fun σ H Q => ∀ X', F X' → semE X' e σ H Q
def semGF (F : Cx → Prop) (tg : Expr) : TG := fun v σ H Q => ∀ X', F X' → semG X' tg v σ H Q
def semTs (X : Cx) (ifs : List Expr) : TT := fun σ H Q => ∀ (pins : List (Addr × Obj)) (s : Shared), Inv X pins σ H s →
    wpAny (model X.prog X.w) X.A (forIn ifs true fun c r => if r = true then do let ok ← isTrue c X.env (eval c X.env); pure (ForInStep.yield ok) else pure (ForInStep.yield r)) (TP X pins σ Q) X.xe s
theorem pts_sem {ifs : List Expr} : PTs X ifs (semTs X ifs) := ⟨fun pins s _ _ _ I h => h pins s I⟩
def semTF (F : Cx → Prop) (ifs : List Expr) : TT := fun σ H Q => ∀ X', F X' → semTs X' ifs σ H Q
def DTs (X : Cx) (W : WX) (ifs : List Expr) (δ : List Slot) (P : Bool → Prop) (PX : Xd → Prop) : Prop := WT X.K W (semTs X ifs) δ P PX
theorem dts_nil {P : Bool → Prop} {PX : Xd → Prop} (h : P true) : DTs X W [] δ P PX := fun σ H own Q S q pins s I => pts_nil.run pins s σ H Q I (q _ H h (Ex.refl H))
theorem dts_one {P : Bool → Prop} {PX : Xd → Prop} (h : DT X W e δ P PX) : DTs X W [e] δ P PX := fun σ H own Q S q pins s I => (pts_one pt_sem).run pins s σ H Q I (h σ H own Q S q)
theorem wish0 {own : Addr → Bool} {H : Hp} {W : XK} : WishX K W own H X0 := ⟨fun _ h => h.elim, fun _ _ h => h.elim⟩
/-- the reading of a comprehension whose items are told by f, kept by q -/
theorem lc_read (c : Ct M X W k Nm sc) {PX : Xd → Prop} {P : List D → Prop} {tg iter elt : Expr} {ifs : List Expr} {scope : Scope} {own : List (Str × Nat)} {α : Type} (hkd : scope.kind = .function) (hw : Wp own Nm δ δ1)
    (h : DI X W tg iter δ (fun ds => ∃ (xs : List α) (emb : α → D) (q : α → Bool) (f : α → D), ds = xs.map emb ∧ xs.length ≤ 100000 ∧
      (∀ z, z ∈ xs → ∃ δ2 T, DG M Nm scope tg (emb z) δ1 δ2 T ∧ (∀ i ∈ T, i ∈ own.map (·.2)) ∧ (∀ X', Ct M X' W0 k Nm scope → DTs X' W0 ifs δ2 (fun b => b = q z) X0) ∧ (q z = true → ∀ X', Ct M X' W0 k Nm scope → DE X' W0 elt δ2 (fun y => y = f z) X0)) ∧ P ((xs.filter q).map f)) PX)
    {σ : L2.St} {H : Hp} {ow : Addr → Bool} {Q : VK} (S : Sy X.K W ow σ H δ PX)
    (hq : ∀ ds l vs H2, P ds → Ex H H2 → H l = none → H2 l = some (.lst vs) → RepL X.K (mask (addOwn ow l) H2) ds vs → Q (.ref l) H2) :
    tLc (semI X tg iter) (semGF (Blk X scope) tg) (semTF (Blk X scope) ifs) (semF (Blk X scope) elt) (own.map (·.2)) σ H Q := by
  refine h σ H ow _ S fun ds J H1 ⟨xs, emb, q, f, hds, hlen, body, fin⟩ e1 wk => ?_
  subst hds
  intro l hl
  have hlH : H l = none := e1.free hl
  have S1 := S.mono e1
  have e0 : Ex H1 (upd H1 l (.lst [])) := Ex.new hl
  have sl1 : ∀ {H' : Hp}, Ex H1 H' → Slots X.K (addOwn ow l) H' σ δ := fun {H'} e' => S1.sl.add e' hl
  let out := fun i => ((xs.take i).filter q).map f
  refine ⟨fun i m H' => m = xs.length - i ∧ i ≤ xs.length ∧ Ex H1 H' ∧ ∃ vs, H' l = some (.lst vs) ∧ RepL X.K (mask (addOwn ow l) H') (out i) vs, ⟨xs.length, by simp, Nat.zero_le _, e0, [], upd_same, rfl⟩, ?_⟩
  rintro i m H' ⟨rfl, hi, e', vs, hv, r⟩
  have ow' : ∀ a, addOwn ow l a = true → H' a ≠ none := fun a ha z => by
    unfold addOwn at ha
    rcases Bool.or_eq_true_iff.mp ha with h | h
    · exact S1.ow a h (e'.free z)
    · have : a = l := by simpa using h
      subst this
      rw [hv] at z; cases z
  obtain ⟨wk1, wk2⟩ := wk (addOwn ow l) H' ow' (mask_add e' hl)
  by_cases hlt : i < xs.length
  · have hd : (xs.map emb)[i]? = some (emb xs[i]) := by simp [hlt]
    obtain ⟨go, yld⟩ := wk1 i _ hd
    obtain ⟨δ2, T, ⟨gg, g1, g2⟩, hT, ht, hb⟩ := body xs[i] (by simp)
    have htake : xs.take (i + 1) = xs.take i ++ [xs[i]] := by simp
    refine .inr ⟨go, fun H3 => Ex H1 H3 ∧ ∃ vs, H3 l = some (.lst vs) ∧ RepL X.K (mask (addOwn ow l) H3) (out (i + 1)) vs, fun H3 ⟨e3, v3⟩ => ⟨xs.length - (i + 1), by omega, rfl, hlt, e3, v3⟩, fun y H2 hy => ?_⟩
    obtain ⟨e2, ry⟩ := yld y H2 hy
    have S2 := ((sl1 (e'.trans e2)).wipe (own.map (·.2)))
    rw [← hw.S] at S2
    rw [c.hK] at S2 ry
    intro X' hX pins s u Iv ru
    refine (g1 X' W0 k (hX.ct c hkd)).run pins s _ H2 y u _ Iv ru (g2 y _ H2 (addOwn ow l) (fun _ => false) _ S2 (fun _ _ _ _ _ => rfl) ry fun σ3 S3 _ but => ⟨?_, ?_⟩)
    · exact (wipe_but but hT).trans wipe_wipe
    · intro X3 hX3
      have c3 := hX3.ct c hkd
      have ow2 : ∀ a, addOwn ow l a = true → H2 a ≠ none := fun a ha z => ow' a ha (e2.free z)
      have S3' : Sy X3.K W0 (addOwn ow l) σ3 H2 δ2 X0 := ⟨ow2, by rw [c3.hK]; exact S3, wish0⟩
      refine ht X3 c3 σ3 H2 (addOwn ow l) _ S3' fun bb H4 hq1 e4 => ?_
      cases bb with
      | true =>
        rw [if_pos rfl]
        intro X5 hX5
        have c5 := hX5.ct c hkd
        have S5 : Sy X5.K W0 (addOwn ow l) σ3 H4 δ2 X0 := Sy.mono e4 ⟨ow2, by rw [c5.hK]; exact S3, wish0⟩
        refine hb hq1.symm X5 c5 σ3 H4 (addOwn ow l) _ S5 fun d v H5 hd e5 rv => ?_
        subst hd
        have e25 := (e2.trans e4).trans e5
        have hv5 := e25 _ _ hv
        have hz : vs.length < sizeLine := by
          rw [r.length, sizeLine_eq]
          have : (out i).length ≤ i := by
            show (((xs.take i).filter q).map f).length ≤ i
            rw [List.length_map]
            refine Nat.le_trans (List.length_filter_le _ _) ?_
            rw [List.length_take]; omega
          omega
        have ow5 : ∀ a, addOwn ow l a = true → H5 a ≠ none := fun a ha z => ow' a ha (e25.free z)
        have hm : mask (addOwn ow l) (upd H5 l (.lst (vs ++ [v]))) = mask (addOwn ow l) H5 := by
          funext a
          unfold mask upd
          by_cases ha : a = l
          · subst ha; rw [if_pos addOwn_self, if_pos addOwn_self]
          · rw [if_neg ha]
        refine ⟨vs, hv5, hz, ?_, vs ++ [v], upd_same, ?_⟩
        · intro a u ha
          have hn : a ≠ l := by rintro rfl; rw [hl] at ha; cases ha
          rw [upd_ne hn]
          exact (e'.trans e25) a u ha
        · rw [hm]
          have : out (i + 1) = out i ++ [f xs[i]] := by
            show ((xs.take (i + 1)).filter q).map f = _
            rw [htake, List.filter_append, List.filter_cons, if_pos hq1.symm]
            simp [out]
          rw [this]
          rw [c5.hK] at rv
          rw [c.hK] at r ⊢
          exact (r.mono (mask_ex e25)).append (RepL.one rv)
      | false =>
        rw [if_neg Bool.false_ne_true]
        refine ⟨(e'.trans e2).trans e4, vs, e4 _ _ (e2 _ _ hv), ?_⟩
        have : out (i + 1) = out i := by
          show ((xs.take (i + 1)).filter q).map f = _
          rw [htake, List.filter_append, List.filter_cons, if_neg (by rw [← hq1]; exact Bool.false_ne_true)]
          simp [out]
        rw [this]
        exact r.mono (mask_ex (e2.trans e4))
  · have e2 : i = xs.length := by omega
    subst e2
    refine .inl ⟨wk2 _ (by simp), hq _ l vs H' fin (e1.trans e') hlH hv ?_⟩
    have : out xs.length = (xs.filter q).map f := by simp [out]
    rw [← this]
    exact r
end
end PV

set_option Elab.async false
set_option linter.all false
set_option maxRecDepth 100000
set_option maxHeartbeats 2000000
/-! PV8: comprehensions as rules, a def's promise, its call, its body, what is raised. -/
namespace PV
open PySem PySem.Spec PyProof.Rows L2
section
variable {M : Md} {X : Cx} {W : WX} {k : Nat} {Nm : List Str} {sc : Scope} {δ δ' δ1 : List Slot} {N : List Slot → Prop} {R : D → List Slot → Prop} {B C : List Slot → Prop} {PX : Xd → List Slot → Prop} {e a b d2 : Expr} {es : List Expr} {pos p : Pos} {x : Str} {st : Stmt} {rest body orelse : List Stmt} {K : Fr}

theorem pg_blk {tg : Expr} {scope : Scope} (s : Shared) (H : Hp) (C : Addr) (cl : List (Str × Addr)) (fp : List Addr) : PG (X.blk s H scope (compEnvC scope cl C X.env) fp) tg (semGF (Blk X scope) tg) :=
  ⟨fun pins s' σ H' v u Q I r h => h (X.blk s H scope (compEnvC scope cl C X.env) fp) ⟨s, H, C, cl, fp, rfl⟩ pins s' u I r⟩
theorem pts_blk {ifs : List Expr} {scope : Scope} (s : Shared) (H : Hp) (C : Addr) (cl : List (Str × Addr)) (fp : List Addr) : PTs (X.blk s H scope (compEnvC scope cl C X.env) fp) ifs (semTF (Blk X scope) ifs) :=
  ⟨fun pins s' σ H' Q I h => h (X.blk s H scope (compEnvC scope cl C X.env) fp) ⟨s, H, C, cl, fp, rfl⟩ pins s' I⟩
theorem pe_blk {scope : Scope} (s : Shared) (H : Hp) (C : Addr) (cl : List (Str × Addr)) (fp : List Addr) : PE (X.blk s H scope (compEnvC scope cl C X.env) fp) e (semF (Blk X scope) e) :=
  ⟨fun pins s' σ H' Q I h => h (X.blk s H scope (compEnvC scope cl C X.env) fp) ⟨s, H, C, cl, fp, rfl⟩ pins s' I⟩
theorem kind_of_blk {N : List Str} {sc scope : Scope} {own : List (Str × Nat)} (h : blkC N sc scope own = true) : scope.kind = .function := (blkOk_by h).kind
/-- what a comprehension's parts ask: {α} the items' own kind, told by emb; kept by q, made by f -/
def LcB (M : Md) (k : Nat) (Nm : List Str) (scope : Scope) (own : List (Str × Nat)) (δ1 : List Slot) (tg elt : Expr) (ifs : List Expr) (α : Type) (P : List D → Prop) (ds : List D) : Prop :=
  ∃ (xs : List α) (emb : α → D) (q : α → Bool) (f : α → D), ds = xs.map emb ∧ xs.length ≤ 100000 ∧
    (∀ z, z ∈ xs → ∃ δ2 T, DG M Nm scope tg (emb z) δ1 δ2 T ∧ (∀ i ∈ T, i ∈ own.map (·.2)) ∧ (∀ X', Ct M X' W0 k Nm scope → DTs X' W0 ifs δ2 (fun b => b = q z) X0) ∧ (q z = true → ∀ X', Ct M X' W0 k Nm scope → DE X' W0 elt δ2 (fun y => y = f z) X0)) ∧ P ((xs.filter q).map f)
theorem de_lc (α : Type) (c : Ct M X W k Nm sc) {P : D → Prop} {PX : Xd → Prop} {tg iter elt : Expr} {ifs : List Expr} {scope : Scope} {own : List (Str × Nat)} (hb : blkC Nm sc scope own = true) (hw : Wp own Nm δ δ1)
    (h : DI X W tg iter δ (LcB M k Nm scope own δ1 tg elt ifs α (fun ds => P (.lst ds))) PX) (hs : ∀ x, foldedSetIterable iter X.env x = pure x := by intro _; rfl) : DE X W (.ListComp elt [⟨tg, iter, ifs, 0⟩] scope pos) δ P PX := by
  refine de_mk (pe_lc c.calm c.nd pi_sem (c.blk _ _ hb) pg_blk pts_blk pe_blk hs) ?_
  intro σ H own' Q S q
  refine lc_read (α := α) (P := fun ds => P (.lst ds)) c (kind_of_blk hb) hw h S fun ds l vs H2 p e hl h2 r => q _ _ H2 p e ?_
  have hlo : own' l = false := by
    cases z : own' l with
    | false => rfl
    | true => exact absurd hl (S.ow l z)
  refine ⟨l, vs, rfl, SqL.of (by unfold mask; rw [hlo]; exact h2), r.mono (mask_mono fun a z => addOwn_old z)⟩
/-- y = [.. for ..], plain -/
theorem ds_setLc (α : Type) (c : Ct M X W k Nm sc) {i : Nat} {s0 : Slot} {p2 : Pos} {tg iter elt : Expr} {ifs : List Expr} {scope : Scope} {own : List (Str × Nat)} (hx : At Nm δ x i s0) (hl : sc.names.lookup x = some .local) (hb : blkC Nm sc scope own = true) (hw : Wp own Nm δ δ1)
    (h : DI X W tg iter δ (LcB M k Nm scope own δ1 tg elt ifs α (fun ds => ∃ δ', Put Nm δ x (.val (.lst ds)) i δ' ∧ N δ')) (fun x => PX x δ)) (hs : ∀ x, foldedSetIterable iter X.env x = pure x := by intro _; rfl)
    (hp : (p2.line == p.line) = true := by rfl) (ha : (scope.names.any fun (n, k) => n == x && (k == .local || k == .cell)) = false := by decide +kernel) : DS X W (.Assign [.Name x p2] (.ListComp elt [⟨tg, iter, ifs, 0⟩] scope p) pos) δ N R B C PX := fun Hb o0 own' D' σ H o g => by
  refine sem_ps (ps_setLc c.calm c.nd (by rw [c.hN]; exact hx.N) (c.lcl _ hl) (sw_true c.kind (c.lcl _ hl) hp ha) pi_sem (c.blk _ _ hb) pg_blk pts_blk pe_blk hs) ?_
  refine lc_read (α := α) (P := fun ds => ∃ δ', Put Nm δ x (.val (.lst ds)) i δ' ∧ N δ') c (kind_of_blk hb) hw h (o.sy g) fun ds l vs H2 ⟨δ', n, hn⟩ e hl' h2 r => ?_
  have o2 := o.mono e
  have hlo : own' l = false := by
    cases z : own' l with
    | false => rfl
    | true => exact absurd hl' (o.ow l z)
  refine g.nx own' _ _ δ' hn ?_
  rw [n.S]
  exact ⟨o2.sub, o2.ow, o2.mine, o2.ex, o2.sl.put i ⟨l, vs, rfl, SqL.of (by unfold mask; rw [hlo]; exact h2), r.mono (mask_mono fun a z => addOwn_old z)⟩, Own0.put o2.acc i⟩
/-- y = [.. for ..], owned from then on -/
theorem ds_accLc (α : Type) (c : Ct M X W k Nm sc) {i : Nat} {s0 : Slot} {p2 : Pos} {tg iter elt : Expr} {ifs : List Expr} {scope : Scope} {own : List (Str × Nat)} (hx : At Nm δ x i s0) (hl : sc.names.lookup x = some .local) (hb : blkC Nm sc scope own = true) (hw : Wp own Nm δ δ1)
    (h : DI X W tg iter δ (LcB M k Nm scope own δ1 tg elt ifs α (fun ds => ∃ δ', Put Nm δ x (.acc ds) i δ' ∧ N δ')) (fun x => PX x δ)) (hs : ∀ x, foldedSetIterable iter X.env x = pure x := by intro _; rfl)
    (hp : (p2.line == p.line) = true := by rfl) (ha : (scope.names.any fun (n, k) => n == x && (k == .local || k == .cell)) = false := by decide +kernel) : DS X W (.Assign [.Name x p2] (.ListComp elt [⟨tg, iter, ifs, 0⟩] scope p) pos) δ N R B C PX := fun Hb o0 own' D' σ H o g => by
  refine sem_ps (ps_setLc c.calm c.nd (by rw [c.hN]; exact hx.N) (c.lcl _ hl) (sw_true c.kind (c.lcl _ hl) hp ha) pi_sem (c.blk _ _ hb) pg_blk pts_blk pe_blk hs) ?_
  refine lc_read (α := α) (P := fun ds => ∃ δ', Put Nm δ x (.acc ds) i δ' ∧ N δ') c (kind_of_blk hb) hw h (o.sy g) fun ds l vs H2 ⟨δ', n, hn⟩ e hl' h2 r => ?_
  refine g.nx (addOwn own' l) _ _ δ' hn ?_
  rw [n.S]
  exact o.acc1 e hl' h2 r

/-! ### x op= e, whole numbers -/
theorem ds_augI (c : Ct M X W k Nm sc) {i : Nat} {m : Int} {p2 : Pos} {op : Operator} {f : Int → Int → Int} (ho : PIp X op (ipI f)) (hx : At Nm δ x i (.val (.int m))) (hv : Loc sc x) (h : DE X W e δ (fun d => ∃ n, d = .int n ∧ ∃ δ', Put Nm δ x (.val (.int (f m n))) i δ' ∧ N δ') (fun x => PX x δ)) :
    DS X W (.AugAssign (.Name x p2) op e pos) δ N R B C PX := fun Hb o0 own' D' σ H o g => by
  refine sem_psL (ps_aug (i := i) c.nd (by rw [c.hN]; exact hx.N) (c.loc _ hv) pe_sem ho (c.fn x hv)) fun hlen => ?_
  obtain ⟨y, h1, v, rfl, r⟩ := o.sl.at (hx.lt c hlen) hx.S
  have e0 : v = .int m := r
  subst e0
  refine ⟨_, h1, ?_⟩
  refine h σ H own' _ (o.sy g) fun d v H2 ⟨n, hd, δ', hp, hn⟩ e2 r2 => ?_
  subst hd
  refine ⟨m, n, rfl, r2, g.nx own' _ _ δ' hn ?_⟩
  have o2 := o.mono e2
  rw [hp.S]
  exact ⟨o2.sub, o2.ow, o2.mine, o2.ex, o2.sl.put i rfl, Own0.put o2.acc i⟩
theorem ds_addI (c : Ct M X W k Nm sc) {i : Nat} {m : Int} {p2 : Pos} (hx : At Nm δ x i (.val (.int m))) (hv : Loc sc x) (h : DE X W e δ (fun d => ∃ n, d = .int n ∧ ∃ δ', Put Nm δ x (.val (.int (m + n))) i δ' ∧ N δ') (fun x => PX x δ)) :
    DS X W (.AugAssign (.Name x p2) .Add e pos) δ N R B C PX := ds_augI c ip_add hx hv h
theorem ds_subI (c : Ct M X W k Nm sc) {i : Nat} {m : Int} {p2 : Pos} (hx : At Nm δ x i (.val (.int m))) (hv : Loc sc x) (h : DE X W e δ (fun d => ∃ n, d = .int n ∧ ∃ δ', Put Nm δ x (.val (.int (m - n))) i δ' ∧ N δ') (fun x => PX x δ)) :
    DS X W (.AugAssign (.Name x p2) .Sub e pos) δ N R B C PX := ds_augI c ip_sub hx hv h

/-! ### what a def promises, over data -/
abbrev Phi := List D → (D → Prop) → (Xd → Prop) → Prop
def spD (K : Fr) (n : Nat) (F : Phi) : Sp := fun vs H Q E => ∃ own ds P PX, (∀ a, own a = true → H a ≠ none) ∧ RepL K (mask own H) ds vs ∧ ds.length = n ∧ F ds P PX ∧ (∀ d v H', P d → Ex H H' → Rep K (mask own H') d v → Q v H') ∧ WishX K E own H PX
structure DefOk (M : Md) (j : Nat) (x : Str) (n : Nat) (F : Phi) : Prop where
  ex : ∃ f fd ps, FnOk M.P M.w M.K M.mg M.base (L2.CX M.P M.w) j f fd ps (spD M.K n F) ∧ M.mg x = some (.ref f) ∧ PySem.W.keepIn M.K (.ref f) = true ∧ Binds M.K fd ps []
theorem de_call {j n : Nat} {F : Phi} (c : Ct M X W k Nm sc) (f : DefOk M j x n F) (hj : j ≤ k) (hg : GlS sc x) {P : D → Prop} {PX : Xd → Prop} (h : DA X W (e :: es) δ (fun ds => ds.length = n ∧ F ds P PX) PX)
    (hdb : (x == ("__debug__" : Str)) = false := by decide) (he : starEach (e :: es) X.env = (false, eval e X.env) :: starEach es X.env := by rfl) (hpl : (backTo pos (starEach es X.env)).any (·.1) = false := by rfl) : DE X W (.Call (.Name x p) (e :: es) [] pos) δ P PX := by
  obtain ⟨f, fd, ps, G, hm, hk, hb⟩ := f.ex
  rw [← c.hP, ← c.hw, ← c.hK, ← c.hmg, ← c.hb] at G
  rw [← c.hK] at hk hb
  rw [← c.hmg] at hm
  refine de_mk (pe_callS G (c.room.mono hj) (c.gl _ hg) hm hk hb (fun σ => passAt c.tk σ) pa_sem hdb he hpl) ?_
  intro σ H own Q S q
  refine h σ H own _ S fun ds vs H1 ⟨hl, hF⟩ e1 r => ?_
  have S1 := S.mono e1
  exact ⟨own, ds, P, PX, S1.ow, r, hl, hF, fun d v H' p e2 r2 => q d v H' p (e1.trans e2) r2, S1.wi⟩
/-- the places at a def's start -/
def startS (N : List Str) (ds : List D) : List Slot := ds.map Slot.val ++ List.replicate (N.length - ds.length) .no
theorem slots_start0 {own : Addr → Bool} {H : Hp} {N : List Str} {ds : List D} {vs : List V} (r : RepL K (mask own H) ds vs) : Slots0 K own H (start N vs) (startS N ds) := by
  have hl := r.length
  have no : ∀ (m : Nat) (x : Option V) (u : Slot) (l : Addr), (startS N ds)[m]? = some u → u.has x l → False := by
    intro m x u l hm
    unfold startS at hm
    by_cases h : m < ds.length
    · rw [List.getElem?_append_left (by simpa using h), List.getElem?_map] at hm
      cases hd : ds[m]? with
      | none => rw [hd] at hm; cases hm
      | some d => rw [hd] at hm; cases hm; exact fun z => z
    · rw [List.getElem?_append_right (by simpa using h), List.getElem?_replicate] at hm
      split at hm
      · cases hm; exact fun z => z
      · cases hm
  refine ⟨by simp [L2.start, startS, hl], fun i x s a b => ?_, fun i j x y s t l ij a b c d e f => no i x s l c e⟩
  unfold L2.start at a
  unfold startS at b
  by_cases h : i < ds.length
  · rw [List.getElem?_append_left (by simpa using h)] at b
    rw [List.getElem?_append_left (by simpa [hl] using h)] at a
    rw [List.getElem?_map] at a b
    cases hd : ds[i]? with
    | none => rw [hd] at b; cases b
    | some d =>
      obtain ⟨v, h1, h2⟩ := r.get hd
      rw [hd] at b
      rw [h1] at a
      cases a; cases b
      exact ⟨v, rfl, h2⟩
  · rw [List.getElem?_append_right (by simpa using h)] at b
    rw [List.getElem?_replicate] at b
    split at b
    · cases b; trivial
    · cases b
theorem slots_start {own : Addr → Bool} {H : Hp} {N : List Str} {ds : List D} {vs : List V} (r : RepL K (mask own H) ds vs) : Slots K own H (start N vs) (startS N ds) := ⟨[], by rw [List.append_nil]; exact slots_start0 r⟩
theorem start_own0 {N : List Str} {ds : List D} {o0 : Addr → Bool} {σ : L2.St} : Own0 o0 σ (startS N ds) := by
  intro i s l a b
  unfold startS at a
  by_cases h : i < ds.length
  · rw [List.getElem?_append_left (by simpa using h), List.getElem?_map] at a
    cases hd : ds[i]? with
    | none => rw [hd] at a; cases a
    | some d => rw [hd] at a; cases a; exact b.elim
  · rw [List.getElem?_append_right (by simpa using h), List.getElem?_replicate] at a
    split at a
    · cases a; exact b.elim
    · cases a
/-- a def's own place (no block of a comprehension) -/
structure FnB (X : Cx) : Prop where
  stk : X.stack = X.env :: X.outer
  fr : X.env.frame = some X.env.locals
  ex : X.ex = []
/-- a def's body keeps its promise -/
theorem fn_ok {M : Md} {y qual : Str} {st : Stmt} {f : Addr} {fd : FuncData} {N ps : List Str} {k n : Nat} {F : Phi} (G : Fun M.K y qual st f fd) (S : FnScope N ps (defScope st)) (hn : ps.length = n)
    (h : ∀ ds P PX, ds.length = n → F ds P PX → ∀ X W, Ct M X W k N (defScope st) → DSs X W (defBody st) (startS N ds) (fun _ => P .non) (fun d _ => P d) (fun _ => False) (fun _ => False) (fun x _ => PX x)) :
    FnOk M.P M.w M.K M.mg M.base (L2.CX M.P M.w) (k + 1) f fd ps (spD M.K n F) := by
  refine G.okX S (fun vs H Q E hh => ?_) (fun cdv A outer s H vs Q E hr hh => ?_)
  · obtain ⟨own, ds, P, PX, _, r, hl, _⟩ := hh
    rw [r.length, hl, hn]
  · obtain ⟨own, ds, P, PX, ow, r, hl, hF, hq, hw⟩ := hh
    refine ⟨_, pss_sem, ?_⟩
    have c : Ct M (cxOf (L2.CX M.P M.w) M.P M.w M.K M.mg M.base N qual (defScope st) f cdv A outer s H E) (fun cls d _ H => E cls d H) k N (defScope st) :=
      ⟨hr, rfl, takes_of rfl rfl rfl rfl, S.nd, rfl, rfl, rfl, rfl, rfl, rfl, fun x hx => hx, fun x hx => hx, fun x hx => hx, S.kind, fun x hx => hx, fun sc own hb => blkOk_by hb, passes_of rfl, fun x hx => .inl rfl⟩
    exact h ds P PX hl hF _ _ c H own own _ _ H ⟨fun a z => z, ow, fun a h1 h2 => absurd (h1.symm.trans h2) (by decide), Ex.refl H, slots_start r, start_own0⟩
      ⟨fun own' σ' H' δ' p o' => hq .non .non H' p o'.ex rfl, fun own' σ' H' δ' d v p o' r => hq d v H' p o'.ex (r.mono (mask_mono o'.sub)), fun _ _ _ _ z _ => z.elim, fun _ _ _ _ z _ => z.elim,
        fun own' σ' H' δ' o' => ⟨fun c' p H2 e => hw.pl c' p H2 (o'.ex.trans e), fun c' fs p H2 d es e h1 r => hw.fl c' fs p H2 d es (o'.ex.trans e) (mask_mono o'.sub _ _ h1) (r.mono (mask_mono o'.sub))⟩⟩
/-- the same, where the place is told -/
theorem fn_okF {M : Md} {y qual : Str} {st : Stmt} {f : Addr} {fd : FuncData} {N ps : List Str} {k n : Nat} {F : Phi} (G : Fun M.K y qual st f fd) (S : FnScope N ps (defScope st)) (hn : ps.length = n)
    (h : ∀ ds P PX, ds.length = n → F ds P PX → ∀ X W, Ct M X W k N (defScope st) → FnB X → DSs X W (defBody st) (startS N ds) (fun _ => P .non) (fun d _ => P d) (fun _ => False) (fun _ => False) (fun x _ => PX x)) :
    FnOk M.P M.w M.K M.mg M.base (L2.CX M.P M.w) (k + 1) f fd ps (spD M.K n F) := by
  refine G.okX S (fun vs H Q E hh => ?_) (fun cdv A outer s H vs Q E hr hh => ?_)
  · obtain ⟨own, ds, P, PX, _, r, hl, _⟩ := hh
    rw [r.length, hl, hn]
  · obtain ⟨own, ds, P, PX, ow, r, hl, hF, hq, hw⟩ := hh
    refine ⟨_, pss_sem, ?_⟩
    have c : Ct M (cxOf (L2.CX M.P M.w) M.P M.w M.K M.mg M.base N qual (defScope st) f cdv A outer s H E) (fun cls d _ H => E cls d H) k N (defScope st) :=
      ⟨hr, rfl, takes_of rfl rfl rfl rfl, S.nd, rfl, rfl, rfl, rfl, rfl, rfl, fun x hx => hx, fun x hx => hx, fun x hx => hx, S.kind, fun x hx => hx, fun sc own hb => blkOk_by hb, passes_of rfl, fun x hx => .inl rfl⟩
    exact h ds P PX hl hF _ _ c ⟨rfl, rfl, rfl⟩ H own own _ _ H ⟨fun a z => z, ow, fun a h1 h2 => absurd (h1.symm.trans h2) (by decide), Ex.refl H, slots_start r, start_own0⟩
      ⟨fun own' σ' H' δ' p o' => hq .non .non H' p o'.ex rfl, fun own' σ' H' δ' d v p o' r => hq d v H' p o'.ex (r.mono (mask_mono o'.sub)), fun _ _ _ _ z _ => z.elim, fun _ _ _ _ z _ => z.elim,
        fun own' σ' H' δ' o' => ⟨fun c' p H2 e => hw.pl c' p H2 (o'.ex.trans e), fun c' fs p H2 d es e h1 r => hw.fl c' fs p H2 d es (o'.ex.trans e) (mask_mono o'.sub _ _ h1) (r.mono (mask_mono o'.sub))⟩⟩
end
end PV

set_option Elab.async false
set_option linter.all false
set_option maxRecDepth 100000
set_option maxHeartbeats 2000000
/-! PV9: built-ins, methods of texts, in, comprehensions by their block's names, the end. -/
namespace PV
open PySem PySem.Spec PyProof.Rows L2
section
variable {M : Md} {X : Cx} {W : WX} {k : Nat} {Nm : List Str} {sc : Scope} {δ δ' δ1 : List Slot} {P : D → Prop} {PX : Xd → Prop} {e a b d2 : Expr} {es : List Expr} {pos p : Pos} {x : Str} {K : Fr}

theorem len_str {s : Str} (h : s.length ≤ 16777216) : D.len (.str s) = some s.length := if_pos h
/-! ### in, not in -/
def rInA (K : Fr) : R2 := fun x y H Q => rIn K false x y H Q ∨ (∃ (c : Nat) (z : Str), x = .str ⟨#[c]⟩ ∧ y = .str z ∧ Q (.bl (decide (c ∈ z.cps.toList))) H) ∨ rInD K x y H Q
def rNotInA (K : Fr) : R2 := fun x y H Q => rIn K true x y H Q ∨ (∃ (c : Nat) (z : Str), x = .str ⟨#[c]⟩ ∧ y = .str z ∧ Q (.bl (!decide (c ∈ z.cps.toList))) H) ∨ rNotInD K x y H Q
theorem Room.units65 {k : Nat} {A : Around} (r : Room k A) : A.units + 65 < cLine ∨ True := .inr trivial
theorem de_in (c : Ct M X W k Nm sc) (hu : X.A.units + 65 < cLine) (hm : behindInMarks .In b = false) (h : DR X W a δ (fun x => DR X W b δ (fun y => RW X.K (rInA X.K) x y (fun d => d.flat = true ∧ P d)) PX) PX) : DE X W (.Compare a [.In] [b] pos) δ P PX :=
  de_cmp (op_in_seq.or (op_in_sign.or (op_inD hu))) hm h
theorem de_notIn (c : Ct M X W k Nm sc) (hu : X.A.units + 65 < cLine) (hm : behindInMarks .NotIn b = false) (h : DR X W a δ (fun x => DR X W b δ (fun y => RW X.K (rNotInA X.K) x y (fun d => d.flat = true ∧ P d)) PX) PX) : DE X W (.Compare a [.NotIn] [b] pos) δ P PX :=
  de_cmp (op_notIn_seq.or (op_notIn_sign.or (op_notInD hu))) hm h
theorem dt_in {PB : Bool → Prop} (hu : X.A.units + 65 < cLine) (hm : behindInMarks .In b = false) (h : DR X W a δ (fun x => DR X W b δ (fun y => RW X.K (rInA X.K) x y (fun d => d.flat = true ∧ ∃ i, d = .bl i ∧ PB i)) PX) PX) : DT X W (.Compare a [.In] [b] pos) δ PB PX :=
  dt_cmpG (op_in_seq.or (op_in_sign.or (op_inD hu))) hm h
theorem dt_notIn {PB : Bool → Prop} (hu : X.A.units + 65 < cLine) (hm : behindInMarks .NotIn b = false) (h : DR X W a δ (fun x => DR X W b δ (fun y => RW X.K (rNotInA X.K) x y (fun d => d.flat = true ∧ ∃ i, d = .bl i ∧ PB i)) PX) PX) : DT X W (.Compare a [.NotIn] [b] pos) δ PB PX :=
  dt_cmpG (op_notIn_seq.or (op_notIn_sign.or (op_notInD hu))) hm h
theorem o_in_sign {ch : Nat} {z : Str} (p : P (.bl (decide (ch ∈ z.cps.toList)))) : RW K (rInA K) (.str ⟨#[ch]⟩) (.str z) (fun d => d.flat = true ∧ P d) := rw_or2 (rw_or1 fun v w H own Q _ a b q => ⟨ch, z, a, b, q (.bl _) _ H ⟨rfl, p⟩ (Ex.refl H) rfl⟩)
theorem o_notIn_sign {ch : Nat} {z : Str} (p : P (.bl (!decide (ch ∈ z.cps.toList)))) : RW K (rNotInA K) (.str ⟨#[ch]⟩) (.str z) (fun d => d.flat = true ∧ P d) := rw_or2 (rw_or1 fun v w H own Q _ a b q => ⟨ch, z, a, b, q (.bl _) _ H ⟨rfl, p⟩ (Ex.refl H) rfl⟩)
/-- in a list, a tuple of plain things -/
def inD (x : D) (ds : List D) : Bool := ds.any fun y => eqb y x
def D.fl : D → Bool
  | .non | .bl _ | .int _ | .str _ => true
  | _ => false
theorem fl_fv {H : Hp} {d : D} {v : V} (h : Rep K H d v) (f : d.fl = true) : v = d.fv ∧ flatV v = true := by
  cases d <;> first | (have e : v = _ := h; subst e; exact ⟨rfl, rfl⟩) | cases f
theorem eqV_eqb {H : Hp} {x y : D} {v w : V} (hx : Rep K H x v) (hy : Rep K H y w) (fx : x.fl = true) (fy : y.fl = true) : eqV v w = eqb x y := by
  obtain ⟨e1, _⟩ := fl_fv hx fx
  obtain ⟨e2, _⟩ := fl_fv hy fy
  subst e1; subst e2
  cases x <;> cases y <;> first | rfl | exact absurd fx Bool.false_ne_true | exact absurd fy Bool.false_ne_true
theorem inV_inD {H : Hp} {x : D} {v : V} (hx : Rep K H x v) (fx : x.fl = true) : ∀ {ds : List D} {vs : List V}, RepL K H ds vs → ds.all D.fl = true → inV v vs = inD x ds ∧ vs.all flatV = true
  | [], _, h, _ => by subst h; exact ⟨rfl, rfl⟩
  | d :: ds, _, h, f => by
    obtain ⟨w, r, rfl, h1, h2⟩ := h
    rw [List.all_cons, Bool.and_eq_true] at f
    obtain ⟨i1, i2⟩ := inV_inD hx fx h2 f.2
    refine ⟨?_, ?_⟩
    · show (eqV w v || inV v r) = (eqb d x || inD x ds)
      rw [eqV_eqb h1 hx f.1 fx, i1]
    · rw [List.all_cons, (fl_fv h1 f.1).2, i2]; rfl
theorem o_in_l {x : D} {ds : List D} (fx : x.fl = true) (fs : ds.all D.fl = true) (p : P (.bl (inD x ds))) : RW K (rInA K) x (.lst ds) (fun d => d.flat = true ∧ P d) := rw_or1 fun v w H own Q _ a b q => by
  obtain ⟨l, vs, rfl, h1, h2⟩ := b
  obtain ⟨i1, i2⟩ := inV_inD (a.mono mask_le) fx (h2.mono mask_le) fs
  refine ⟨l, vs, rfl, .inl (mask_le.sqL h1), (fl_fv a fx).2, i2, ?_⟩
  rw [if_neg Bool.false_ne_true, i1]
  exact q (.bl _) _ H ⟨rfl, p⟩ (Ex.refl H) rfl
theorem o_in_t {x : D} {ds : List D} (fx : x.fl = true) (fs : ds.all D.fl = true) (p : P (.bl (inD x ds))) : RW K (rInA K) x (.tup ds) (fun d => d.flat = true ∧ P d) := rw_or1 fun v w H own Q _ a b q => by
  obtain ⟨l, vs, rfl, h1, h2⟩ := b
  obtain ⟨i1, i2⟩ := inV_inD (a.mono mask_le) fx (h2.mono mask_le) fs
  refine ⟨l, vs, rfl, .inr (mask_le.sqT h1), (fl_fv a fx).2, i2, ?_⟩
  rw [if_neg Bool.false_ne_true, i1]
  exact q (.bl _) _ H ⟨rfl, p⟩ (Ex.refl H) rfl
theorem o_notIn_l {x : D} {ds : List D} (fx : x.fl = true) (fs : ds.all D.fl = true) (p : P (.bl (!inD x ds))) : RW K (rNotInA K) x (.lst ds) (fun d => d.flat = true ∧ P d) := rw_or1 fun v w H own Q _ a b q => by
  obtain ⟨l, vs, rfl, h1, h2⟩ := b
  obtain ⟨i1, i2⟩ := inV_inD (a.mono mask_le) fx (h2.mono mask_le) fs
  refine ⟨l, vs, rfl, .inl (mask_le.sqL h1), (fl_fv a fx).2, i2, ?_⟩
  rw [if_pos rfl, i1]
  exact q (.bl _) _ H ⟨rfl, p⟩ (Ex.refl H) rfl
theorem o_notIn_t {x : D} {ds : List D} (fx : x.fl = true) (fs : ds.all D.fl = true) (p : P (.bl (!inD x ds))) : RW K (rNotInA K) x (.tup ds) (fun d => d.flat = true ∧ P d) := rw_or1 fun v w H own Q _ a b q => by
  obtain ⟨l, vs, rfl, h1, h2⟩ := b
  obtain ⟨i1, i2⟩ := inV_inD (a.mono mask_le) fx (h2.mono mask_le) fs
  refine ⟨l, vs, rfl, .inr (mask_le.sqT h1), (fl_fv a fx).2, i2, ?_⟩
  rw [if_pos rfl, i1]
  exact q (.bl _) _ H ⟨rfl, p⟩ (Ex.refl H) rfl

/-! ### all, any, sum, int, str of lists told by their kind -/
theorem de_all (c : Ct M X W k Nm sc) (hg : GlS sc "all") (hm : Bi M "all") (h : DR X W e δ (fun d => ∃ bs : List Bool, d = .lst (bs.map .bl) ∧ P (.bl (bs.all id))) PX)
    (he : starEach [e] X.env = (false, eval e X.env) :: starEach [] X.env := by rfl) (hpl : (backTo pos (starEach [] X.env)).any (·.1) = false := by rfl) : DE X W (.Call (.Name "all" p) [e] [] pos) δ P PX := by
  refine de_callBR c (cr_all c.calm) hg hm (by decide +kernel) (dar_cons ?_ he) (by decide) (by decide) he hpl
  intro σ H own Q S q
  refine h σ H own _ S fun d v H1 ⟨bs, hd, p⟩ e1 r1 => q d v H1 (dar_nil ?_) e1 r1
  subst hd
  intro vs H Q r q
  obtain ⟨v, rfl, a, vs, rfl, h1, h2⟩ := r.vals1
  rw [h2.bools] at h1
  exact ⟨a, bs, rfl, h1, q (.bl _) _ H rfl p (Ex.refl H) rfl⟩
theorem de_any (c : Ct M X W k Nm sc) (hg : GlS sc "any") (hm : Bi M "any") (h : DR X W e δ (fun d => ∃ bs : List Bool, d = .lst (bs.map .bl) ∧ P (.bl (bs.any id))) PX)
    (he : starEach [e] X.env = (false, eval e X.env) :: starEach [] X.env := by rfl) (hpl : (backTo pos (starEach [] X.env)).any (·.1) = false := by rfl) : DE X W (.Call (.Name "any" p) [e] [] pos) δ P PX := by
  refine de_callBR c (cr_any c.calm) hg hm (by decide +kernel) (dar_cons ?_ he) (by decide) (by decide) he hpl
  intro σ H own Q S q
  refine h σ H own _ S fun d v H1 ⟨bs, hd, p⟩ e1 r1 => q d v H1 (dar_nil ?_) e1 r1
  subst hd
  intro vs H Q r q
  obtain ⟨v, rfl, a, vs, rfl, h1, h2⟩ := r.vals1
  rw [h2.bools] at h1
  exact ⟨a, bs, rfl, h1, q (.bl _) _ H rfl p (Ex.refl H) rfl⟩
theorem de_sum (c : Ct M X W k Nm sc) (hg : GlS sc "sum") (hm : Bi M "sum") (h : DR X W e δ (fun d => ∃ ns : List Int, d = .lst (ns.map .int) ∧ P (.int ns.sum)) PX)
    (he : starEach [e] X.env = (false, eval e X.env) :: starEach [] X.env := by rfl) (hpl : (backTo pos (starEach [] X.env)).any (·.1) = false := by rfl) : DE X W (.Call (.Name "sum" p) [e] [] pos) δ P PX := by
  refine de_callBR c (cr_sum c.calm) hg hm (by decide +kernel) (dar_cons ?_ he) (by decide) (by decide) he hpl
  intro σ H own Q S q
  refine h σ H own _ S fun d v H1 ⟨bs, hd, p⟩ e1 r1 => q d v H1 (dar_nil ?_) e1 r1
  subst hd
  intro vs H Q r q
  obtain ⟨v, rfl, a, vs, rfl, h1, h2⟩ := r.vals1
  rw [h2.ints] at h1
  exact ⟨a, bs, rfl, h1, q (.int _) _ H rfl p (Ex.refl H) rfl⟩
/-! ### methods of texts -/
theorem de_m1 {id : String} {name : Str} {apos : Pos} {r : V → List V → Hp → VK → Prop} (slot : PySem.Slot "str" name id) (ty : typeOf (.builtin id) = pure (.type "method_descriptor")) (rule : MtR X id r)
    (h : DE X W a δ (fun d => ∃ s, d = .str s ∧ DR X W e δ (fun y => ∀ w H (Q : VK), Rep X.K H y w → (∀ d u H2, d.flat = true → P d → Ex H H2 → Rep X.K H2 d u → Q u H2) → r (.str s) [w] H Q) PX) PX)
    (hs : starEach [e] X.env = [(false, eval e X.env)] := by rfl) (hbase : attributeBase a name X.env (eval a X.env) = eval a X.env := by rfl) (hline : (apos.endLine == pos.line) = true := by rfl) : DE X W (.Call (.Attribute a name apos) [e] [] pos) δ P PX := by
  refine de_mk (pe_m1 slot ty rule pe_sem pe_sem hs hbase hline) ?_
  intro σ H own Q S q
  refine h σ H own _ S fun d v H1 ⟨s, hd, h2⟩ e1 r1 => ?_
  subst hd
  have e0 : v = .str s := r1
  subst e0
  refine ⟨⟨s, rfl⟩, ?_⟩
  refine h2 σ H1 own _ (S.mono e1) fun y w H2 h3 e2 r2 => ?_
  exact h3 w H2 _ r2 fun d u H3 f p e3 r3 => q d u H3 p ((e1.trans e2).trans e3) (r3.flat f)
theorem de_join {apos : Pos} (h : DE X W a δ (fun d => ∃ s, d = .str s ∧ DR X W e δ (fun y => ∃ ys : List Str, y = .lst (ys.map .str) ∧ (ys.map (·.length)).sum + ys.length * s.length ≤ 16777216 ∧ P (.str (Txt.join s ys))) PX) PX)
    (hs : starEach [e] X.env = [(false, eval e X.env)] := by rfl) (hbase : attributeBase a "join" X.env (eval a X.env) = eval a X.env := by rfl) (hline : (apos.endLine == pos.line) = true := by rfl) : DE X W (.Call (.Attribute a "join" apos) [e] [] pos) δ P PX := by
  refine de_m1 PySem.F.slot_str_join PySem.F.type_str_join mt_join ?_ hs hbase hline
  intro σ H own Q S q
  refine h σ H own Q S fun d v H1 ⟨s, hd, h2⟩ e1 r1 => q d v H1 ⟨s, hd, ?_⟩ e1 r1
  intro σ H own Q S q
  refine h2 σ H own Q S fun y w H2 ⟨ys, hy, hz, p⟩ e2 r2 => q y w H2 ?_ e2 r2
  subst hy
  intro w H Q r q
  obtain ⟨a, vs, rfl, h1, h2⟩ := r
  rw [h2.strs] at h1
  exact ⟨s, a, ys, rfl, rfl, .inl h1, hz, q (.str _) _ H rfl p (Ex.refl H) rfl⟩
theorem DE.imp {P P' : D → Prop} (h : DE X W e δ P PX) (i : ∀ d, P d → P' d) : DE X W e δ P' PX := WE.imp h i
theorem DR.imp {P P' : D → Prop} (h : DR X W e δ P PX) (i : ∀ d, P d → P' d) : DR X W e δ P' PX := fun σ H own Q S q => h σ H own Q S fun d v H2 p => q d v H2 (i d p)
theorem filter_tt {α : Type} (xs : List α) : xs.filter (fun _ => true) = xs := List.filter_eq_self.mpr fun _ _ => rfl
/-- a comprehension without a test -/
theorem lcb_map {α : Type} {tg elt : Expr} {scope : Scope} {own : List (Str × Nat)} {P : List D → Prop} {ds : List D} (xs : List α) (emb f : α → D) (hd : ds = xs.map emb) (hl : xs.length ≤ 100000)
    (h : ∀ z, z ∈ xs → ∃ δ2 T, DG M Nm scope tg (emb z) δ1 δ2 T ∧ (∀ i ∈ T, i ∈ own.map (·.2)) ∧ ∀ X', Ct M X' W0 k Nm scope → DE X' W0 elt δ2 (fun y => y = f z) X0) (p : P (xs.map f)) : LcB M k Nm scope own δ1 tg elt [] α P ds :=
  ⟨xs, emb, fun _ => true, f, hd, hl, fun z hz => by
    obtain ⟨δ2, T, h1, h2, h3⟩ := h z hz
    exact ⟨δ2, T, h1, h2, fun _ _ => dts_nil rfl, fun _ => h3⟩, by rw [filter_tt]; exact p⟩
theorem atI_map {α : Type} {xs : List α} {emb : α → D} {i : Int} (d0 : α) (h0 : 0 ≤ i) (h1 : i < xs.length) : L2.atI (xs.map emb) i = some (emb (xs.getD i.toNat d0)) := by
  have hj : i.toNat < xs.length := by omega
  unfold L2.atI ixN
  rw [List.length_map, if_pos h0, if_pos h1]
  show (xs.map emb)[i.toNat]? = _
  rw [List.getElem?_map, List.getD_eq_getElem?_getD]
  simp [hj]
theorem o_ix_map {α : Type} {xs : List α} {emb : α → D} {i : Int} (d0 : α) (h0 : 0 ≤ i) (h1 : i < xs.length) (p : P (emb (xs.getD i.toNat d0))) : RW K (rIx K) (.lst (xs.map emb)) (.int i) P := o_ix_l (atI_map d0 h0 h1) p
theorem o_ix_sign {z : Str} {i : Int} (h0 : 0 ≤ i) (h1 : i < z.length) (h2 : z.length ≤ 16777216) (p : P (.str ⟨#[z.cps.toList.getD i.toNat 0]⟩)) : RW K (rIx K) (.str z) (.int i) P := by
  have hl : z.cps.toList.length = z.length := by simp [Str.length]
  have hj : i.toNat < z.cps.toList.length := by omega
  refine o_ix_s h2 (ch := z.cps.toList.getD i.toNat 0) ?_ p
  unfold L2.atI ixN
  rw [hl, if_pos h0, if_pos h1]
  show z.cps.toList[i.toNat]? = _
  rw [List.getD_eq_getElem?_getD, List.getElem?_eq_getElem hj]; rfl
/-! ### a comprehension, its block's names read off its scope -/
theorem de_lcN (α : Type) (c : Ct M X W k Nm sc) {tg iter elt : Expr} {ifs : List Expr} {kd : ScopeKind} {ns : List (Str × NameKind)} {ge co : Bool} {mo : List (Str × Const)} {own : List (Str × Nat)} (ho : OwnW ns Nm δ own δ1) (hb : blkC Nm sc (Scope.mk kd ns ge co mo) own = true)
    (h : DI X W tg iter δ (LcB M k Nm (Scope.mk kd ns ge co mo) own δ1 tg elt ifs α (fun ds => P (.lst ds))) PX) (hs : ∀ x, foldedSetIterable iter X.env x = pure x := by intro _; rfl) : DE X W (.ListComp elt [⟨tg, iter, ifs, 0⟩] (Scope.mk kd ns ge co mo) pos) δ P PX := de_lc α c hb ho.wp h hs
theorem ds_setLcN (α : Type) {N : List Slot → Prop} {R : D → List Slot → Prop} {B C : List Slot → Prop} {PX : Xd → List Slot → Prop} (c : Ct M X W k Nm sc) {i : Nat} {s0 : Slot} {p2 : Pos} {tg iter elt : Expr} {ifs : List Expr} {kd : ScopeKind} {ns : List (Str × NameKind)} {ge co : Bool} {mo : List (Str × Const)} {own : List (Str × Nat)} (hx : At Nm δ x i s0) (hl : sc.names.lookup x = some .local) (ho : OwnW ns Nm δ own δ1) (hb : blkC Nm sc (Scope.mk kd ns ge co mo) own = true)
    (h : DI X W tg iter δ (LcB M k Nm (Scope.mk kd ns ge co mo) own δ1 tg elt ifs α (fun ds => ∃ δ', Put Nm δ x (.val (.lst ds)) i δ' ∧ N δ')) (fun x => PX x δ)) (hs : ∀ x, foldedSetIterable iter X.env x = pure x := by intro _; rfl)
    (hp : (p2.line == p.line) = true := by rfl) (ha : (ns.any fun (n, k) => n == x && (k == .local || k == .cell)) = false := by decide +kernel) : DS X W (.Assign [.Name x p2] (.ListComp elt [⟨tg, iter, ifs, 0⟩] (Scope.mk kd ns ge co mo) p) pos) δ N R B C PX := ds_setLc α c hx hl hb ho.wp h hs hp ha
end
/-! ### which kind is which -/
theorem bt_int : bootBuiltins "int" = some (.type "int") := by decide +kernel
theorem bt_bool : bootBuiltins "bool" = some (.type "bool") := by decide +kernel
theorem bt_str : bootBuiltins "str" = some (.type "str") := by decide +kernel
theorem bt_list : bootBuiltins "list" = some (.type "list") := by decide +kernel
theorem bt_tuple : bootBuiltins "tuple" = some (.type "tuple") := by decide +kernel
theorem bt_dict : bootBuiltins "dict" = some (.type "dict") := by decide +kernel
theorem bt_set : bootBuiltins "set" = some (.type "set") := by decide +kernel
theorem bt_ValueError : bootBuiltins "ValueError" = some (.type "ValueError") := by decide +kernel
theorem kb_NoneType_int : kitB "NoneType" "int" = some false := by decide +kernel
theorem kb_NoneType_bool : kitB "NoneType" "bool" = some false := by decide +kernel
theorem kb_NoneType_str : kitB "NoneType" "str" = some false := by decide +kernel
theorem kb_NoneType_list : kitB "NoneType" "list" = some false := by decide +kernel
theorem kb_NoneType_tuple : kitB "NoneType" "tuple" = some false := by decide +kernel
theorem kb_NoneType_dict : kitB "NoneType" "dict" = some false := by decide +kernel
theorem kb_bool_int : kitB "bool" "int" = some true := by decide +kernel
theorem kb_bool_bool : kitB "bool" "bool" = some true := by decide +kernel
theorem kb_bool_str : kitB "bool" "str" = some false := by decide +kernel
theorem kb_bool_list : kitB "bool" "list" = some false := by decide +kernel
theorem kb_bool_tuple : kitB "bool" "tuple" = some false := by decide +kernel
theorem kb_bool_dict : kitB "bool" "dict" = some false := by decide +kernel
theorem kb_int_int : kitB "int" "int" = some true := by decide +kernel
theorem kb_int_bool : kitB "int" "bool" = some false := by decide +kernel
theorem kb_int_str : kitB "int" "str" = some false := by decide +kernel
theorem kb_int_list : kitB "int" "list" = some false := by decide +kernel
theorem kb_int_tuple : kitB "int" "tuple" = some false := by decide +kernel
theorem kb_int_dict : kitB "int" "dict" = some false := by decide +kernel
theorem kb_str_int : kitB "str" "int" = some false := by decide +kernel
theorem kb_str_bool : kitB "str" "bool" = some false := by decide +kernel
theorem kb_str_str : kitB "str" "str" = some true := by decide +kernel
theorem kb_str_list : kitB "str" "list" = some false := by decide +kernel
theorem kb_str_tuple : kitB "str" "tuple" = some false := by decide +kernel
theorem kb_str_dict : kitB "str" "dict" = some false := by decide +kernel
theorem kb_list_int : kitB "list" "int" = some false := by decide +kernel
theorem kb_list_bool : kitB "list" "bool" = some false := by decide +kernel
theorem kb_list_str : kitB "list" "str" = some false := by decide +kernel
theorem kb_list_list : kitB "list" "list" = some true := by decide +kernel
theorem kb_list_tuple : kitB "list" "tuple" = some false := by decide +kernel
theorem kb_list_dict : kitB "list" "dict" = some false := by decide +kernel
theorem kb_tuple_int : kitB "tuple" "int" = some false := by decide +kernel
theorem kb_tuple_bool : kitB "tuple" "bool" = some false := by decide +kernel
theorem kb_tuple_str : kitB "tuple" "str" = some false := by decide +kernel
theorem kb_tuple_list : kitB "tuple" "list" = some false := by decide +kernel
theorem kb_tuple_tuple : kitB "tuple" "tuple" = some true := by decide +kernel
theorem kb_tuple_dict : kitB "tuple" "dict" = some false := by decide +kernel
theorem kb_dict_int : kitB "dict" "int" = some false := by decide +kernel
theorem kb_dict_bool : kitB "dict" "bool" = some false := by decide +kernel
theorem kb_dict_str : kitB "dict" "str" = some false := by decide +kernel
theorem kb_dict_list : kitB "dict" "list" = some false := by decide +kernel
theorem kb_dict_tuple : kitB "dict" "tuple" = some false := by decide +kernel
theorem kb_dict_dict : kitB "dict" "dict" = some true := by decide +kernel
/-! ### the end: a law of one list of whole numbers -/
def F_law : Phi := fun ds P _ => (∃ ns : List Int, ns.length ≤ 63 ∧ ds = [.lst (ns.map .int)]) ∧ P (.bl true)
theorem walk_law {l : PySem.W.OpenLaw} {k : Nat} {q : Program} {loose : List Str} {XP : (Str → Option Value) → Heap → Prop} {YP : World → Heap → Prop} {d : DefRec} {K : Params → PySem.W.Frag} {x : Str}
    (hn : l.most = some 63) (hdf : d.params.defaults = []) (hr : Room k callerA) (hY : ∀ (w : World) (h : Heap), YP w h → (K w.params).In h)
    (F : ∀ (w : World) (mg : Str → Option Value) (fa : Addr) (h : Heap), (K w.params).In h → h.Ns mainGlobals mg → mg d.name = some (.ref fa) →
      ∃ fd : FuncData, (∀ (s : Shared) (u : Value), BindsTo s fd ⟨[u], []⟩ [(x, u)]) ∧
        ∀ base : Heap, (K w.params).In base → base.Ns mainGlobals mg → FnOk l.prog w (K w.params) mg base (L2.CX l.prog w) k fa fd [x] (spD (K w.params) 1 F_law)) :
    PySem.W.WalkO q loose XP YP l.row.toRowW d [] (fun f vs => PySem.call f vs) :=
  L2.walk_of (n := 63) (CX := fun w => L2.CX l.prog w) (sp := fun w => spD (K w.params) 1 F_law) hn (by decide) hdf hr hY F
    (fun w H a ns hl _ hS => ⟨fun _ => false, [.lst (ns.map .int)], fun d => d = .bl true, fun _ => False, fun _ z => (Bool.false_ne_true z).elim, ⟨.ref a, [], rfl, ⟨a, ns.map V.int, rfl, by rw [mask_none]; exact hS, RepL.ofInts ns⟩, rfl⟩, rfl, ⟨⟨ns, hl, rfl⟩, rfl⟩,
      fun d v H' hd _ r => by subst hd; exact r, wish0⟩)
    fun w H s e s' h => by
      obtain ⟨_, _, _, _, _, _, _, _, _, _, _, _, z⟩ := h
      exact z
end PV

set_option Elab.async false
set_option linter.all false
set_option maxRecDepth 100000
set_option maxHeartbeats 2000000
/-! PV10: dict displays -/
namespace PV
open PySem PySem.Spec PyProof.Rows L2
section
variable {M : Md} {X : Cx} {W : WX} {k : Nat} {Nm : List Str} {sc : Scope} {δ δ1 : List Slot} {P : D → Prop} {PX : Xd → Prop} {pos : Pos} {K : Fr}
/-- a fresh object is kept from view -/
theorem Sy.hide {W : WX} {own : Addr → Bool} {σ : L2.St} {H : Hp} (S : Sy K W own σ H δ PX) {p : Addr} {o : HO} (h : H p = none) : Sy K W (addOwn own p) σ (upd H p o) δ PX := by
  have e : Ex H (upd H p o) := Ex.new h
  exact ⟨ow_add S.ow e upd_same, S.sl.add e h, ⟨fun c q H2 e2 => S.wi.pl c q H2 (e.trans e2), fun c fs q H2 d es e2 hd r => S.wi.fl c fs q H2 d es (e.trans e2) (mask_mono (fun a ha => addOwn_old ha) _ _ hd) (r.mono (mask_mono fun a ha => addOwn_old ha))⟩⟩
theorem de_dnew (p : P (.dic [])) : DE X W (.Dict [] [] pos) δ P PX := by
  refine de_mk pe_dnewK ?_
  intro σ H own Q S q a ha
  refine q _ _ _ p (Ex.new ha) ?_
  rw [mask_new S.ow ha]
  exact ⟨a, [], rfl, upd_same, rfl⟩
def keyD : Key → D
  | .inl i => .int i
  | .inr s => .str s
theorem keyD_rep {H : Hp} {key : Key} {v : V} (h : Rep K H (keyD key) v) : v = kV key := by
  cases key <;> exact h
def trsOf (X : Cx) : List (Option Expr) → List Expr → List (TE × TE)
  | some a :: ks, b :: vs => (semE X a, semE X b) :: trsOf X ks vs
  | _, _ => []
def DPs (X : Cx) (W : WX) (ks : List (Option Expr)) (vs : List Expr) (δ : List Slot) (P : List (Key × D) → Prop) (PX : Xd → Prop) : Prop :=
  ∀ σ H own (Q : List (V × V) → Hp → Prop), Sy X.K W own σ H δ PX → (∀ kds es H2, P kds → Ex H H2 → RepK X.K (mask own H2) kds es → es.length ≤ ks.length → Q (es.map fun kv => (kV kv.1, kv.2)) H2) → tPairs (trsOf X ks vs) σ H Q
theorem dps_nil {P : List (Key × D) → Prop} (p : P []) : DPs X W [] [] δ P PX := fun σ H own Q S q => q [] [] H p (Ex.refl H) rfl (Nat.le_refl _)
theorem dps_cons {a b : Expr} {ks : List (Option Expr)} {vs : List Expr} {P : List (Key × D) → Prop} (h : DE X W a δ (fun x => ∃ key, x = keyD key ∧ DE X W b δ (fun y => DPs X W ks vs δ (fun r => P ((key, y) :: r)) PX) PX) PX) : DPs X W (some a :: ks) (b :: vs) δ P PX := fun σ H own Q S q => by
  refine h σ H own _ S fun d v H1 ⟨key, hd, h2⟩ e1 r1 => ?_
  subst hd
  refine h2 σ H1 own _ (S.mono e1) fun y w H2 h3 e2 r2 => ?_
  refine h3 σ H2 own _ (S.mono (e1.trans e2)) fun kds es H3 p e3 r3 hz => ?_
  have := q ((key, y) :: kds) ((key, w) :: es) H3 p (e1.trans (e2.trans e3)) ⟨w, es, rfl, r2.mono (mask_ex e3), r3⟩ (by simpa using hz)
  rw [keyD_rep r1]
  exact this
theorem pps_trs : ∀ (ks : List (Option Expr)) (vs : List Expr), ks.all (·.isSome) = true → ks.length = vs.length → PPs X pos ks vs (trsOf X ks vs)
  | [], [], _, _ => pps_nil
  | [], _ :: _, _, h => nomatch h
  | some a :: ks, b :: vs, h, l => pps_cons pe_sem pe_sem (pps_trs ks vs (by simpa using h) (by simpa using l))
  | none :: _, _, h, _ => by simp at h
  | some _ :: _, [], _, h => nomatch h
def putKD (kvs : List (Key × D)) (k : Key) (v : D) : List (Key × D) :=
  if (kvs.any fun kv => decide (kv.1 = k)) = true then kvs.map (fun kv => if kv.1 = k then (kv.1, v) else kv) else kvs ++ [(k, v)]
def mergeD (kvs more : List (Key × D)) : List (Key × D) := more.foldl (fun acc kv => putKD acc kv.1 kv.2) kvs
theorem RepK.keys {H : Hp} : ∀ {kds : List (Key × D)} {es : List (Key × V)}, RepK K H kds es → es.map (·.1) = kds.map (·.1)
  | [], es, h => by obtain rfl : es = [] := h; rfl
  | (k, d) :: r, es, h => by
    obtain ⟨v, es, rfl, h1, h2⟩ := h
    simp [h2.keys]
theorem RepK.append {H : Hp} : ∀ {kds kds' : List (Key × D)} {es es' : List (Key × V)}, RepK K H kds es → RepK K H kds' es' → RepK K H (kds ++ kds') (es ++ es')
  | [], _, es, _, h, h' => by obtain rfl : es = [] := h; exact h'
  | (k, d) :: r, _, es, _, h, h' => by
    obtain ⟨v, es, rfl, h1, h2⟩ := h
    exact ⟨v, _, rfl, h1, h2.append h'⟩
theorem RepK.mapPut {H : Hp} {key : Key} {d : D} {v : V} (hv : Rep K H d v) : ∀ {kds : List (Key × D)} {es : List (Key × V)}, RepK K H kds es → RepK K H (kds.map fun kv => if kv.1 = key then (kv.1, d) else kv) (es.map fun kv => if kv.1 = key then (kv.1, v) else kv)
  | [], es, h => by obtain rfl : es = [] := h; rfl
  | (k', d') :: r, es, h => by
    obtain ⟨w, es, rfl, h1, h2⟩ := h
    by_cases e : k' = key
    · simp only [List.map_cons, if_pos e]
      exact ⟨v, _, rfl, hv, h2.mapPut hv⟩
    · simp only [List.map_cons, if_neg e]
      exact ⟨w, _, rfl, h1, h2.mapPut hv⟩
theorem any_keys {α β : Type} {key : Key} : ∀ {kds : List (Key × α)} {es : List (Key × β)}, es.map (·.1) = kds.map (·.1) → (es.any fun kv => decide (kv.1 = key)) = (kds.any fun kv => decide (kv.1 = key))
  | [], [], _ => rfl
  | [], _ :: _, h => nomatch h
  | _ :: _, [], h => nomatch h
  | a :: r, b :: s, h => by
    simp only [List.map_cons, List.cons.injEq] at h
    simp only [List.any_cons, h.1, any_keys h.2]
theorem RepK.put {H : Hp} {key : Key} {d : D} {v : V} {kds : List (Key × D)} {es : List (Key × V)} (h : RepK K H kds es) (hv : Rep K H d v) : RepK K H (putKD kds key d) (putK es key v) := by
  unfold putKD putK
  rw [any_keys h.keys]
  split
  · exact h.mapPut hv
  · exact h.append ⟨v, [], rfl, hv, rfl⟩
theorem RepK.merge {H : Hp} : ∀ {more : List (Key × D)} {ms : List (Key × V)} {kds : List (Key × D)} {es : List (Key × V)}, RepK K H more ms → RepK K H kds es → RepK K H (mergeD kds more) (mergeK es ms)
  | [], ms, _, _, h, h' => by obtain rfl : ms = [] := h; exact h'
  | (k, d) :: r, ms, _, _, h, h' => by
    obtain ⟨v, ms, rfl, h1, h2⟩ := h
    exact h2.merge (h'.put h1)
theorem de_dict {ks : List (Option Expr)} {vs : List Expr} (h : DPs X W ks vs δ (fun kds => P (.dic (mergeD [] kds))) PX) (hall : ks.all (·.isSome) = true := by rfl) (hl : ks.length = vs.length := by rfl) (h0 : ks ≠ [] := by exact fun z => nomatch z) (h15 : ks.length ≤ 15 := by decide) : DE X W (.Dict ks vs pos) δ P PX := by
  refine de_mk (pe_disp (pps_trs ks vs hall hl) hall hl h0 h15) ?_
  intro σ H own Q S q a ha
  refine h σ _ (addOwn own a) _ (S.hide ha) fun kds es H2 p e2 r hz => ?_
  have ho : own a = false := by
    cases hb : own a with
    | false => rfl
    | true => exact absurd ha (S.ow a hb)
  have e0 : Ex H H2 := (Ex.new ha).trans e2
  have ne : ∀ x, mask (addOwn own a) H2 x ≠ none → x ≠ a := fun x hx z => by
    subst z
    exact hx (by unfold mask; rw [if_pos addOwn_self])
  refine ⟨e2 _ _ upd_same, es, rfl, ?_, ?_⟩
  · omega
  · refine q _ _ _ p (fun x o hx => ?_) ⟨a, _, rfl, ?_, RepK.merge (r.mono fun x o hx => ?_) rfl⟩
    · rw [upd_ne (ne_of_none hx ha)]
      exact e0 x o hx
    · unfold mask
      rw [ho]
      exact upd_same
    · have hne := ne x (by rw [hx]; exact fun z => nomatch z)
      unfold mask at hx ⊢
      split at hx
      · cases hx
      · rename_i hb
        rw [if_neg (by intro z; exact hb (addOwn_old z)), upd_ne hne]
        exact hx
/-- a piece of signs joined with nothing between -/
theorem len_ones (l : List Str) (h : ∀ a ∈ l, a.length = 1) : (Txt.join (Str.ofString "") l).length = l.length := PySem.W.KT.join_ones l h
theorem sum_ones : ∀ (l : List Str), (∀ a ∈ l, a.length = 1) → (l.map (·.length)).sum = l.length
  | [], _ => rfl
  | a :: r, h => by
    rw [List.map_cons, List.sum_cons, sum_ones r (fun x hx => h x (List.mem_cons_of_mem _ hx)), h a (List.mem_cons_self ..), List.length_cons]
    omega
end
end PV

set_option Elab.async false
set_option linter.all false
set_option maxRecDepth 100000
set_option maxHeartbeats 2000000
/-! PV11: texts of true signs -/
namespace PV
open PySem PySem.Spec PyProof.Rows L2
theorem ok_of {s : Str} (h : ∀ c ∈ s.cps.toList, c < 0x110000) : PyData.strOk s = true := by
  unfold PyData.strOk
  rw [Array.all_eq_true_iff_forall_mem]
  intro c hc
  exact decide_eq_true (h c (Array.mem_toList_iff.mpr hc))
theorem ok_to {s : Str} (h : PyData.strOk s = true) : ∀ c ∈ s.cps.toList, c < 0x110000 := by
  unfold PyData.strOk at h
  rw [Array.all_eq_true_iff_forall_mem] at h
  intro c hc
  exact of_decide_eq_true (h c (Array.mem_toList_iff.mp hc))
theorem ok_app {a b : Str} (h : PyData.strOk a = true) (h' : PyData.strOk b = true) : PyData.strOk (a ++ b) = true := by
  refine ok_of fun c hc => ?_
  rw [Str.cps_append, Array.toList_append, List.mem_append] at hc
  exact hc.elim (ok_to h c) (ok_to h' c)
theorem ok_cut {a : Str} (lo hi : Option Int) (h : PyData.strOk a = true) : PyData.strOk (cutS a lo hi) = true := by
  refine ok_of fun c hc => ok_to h c ?_
  exact List.mem_of_mem_drop (List.mem_of_mem_take hc)
theorem join_signs (cs : List Nat) : Txt.join (Str.ofString "") (cs.map fun c => (⟨#[c]⟩ : Str)) = ⟨cs.toArray⟩ := by
  have h := PyProof.Rows.join_plain_closes (Str.ofString "") (cs.map fun c => (⟨#[c]⟩ : Str))
  rw [beq_iff_eq] at h
  rw [h]
  have := PyProof.Rows.join_nil_signs ⟨cs.toArray⟩
  have e : PyProof.Rows.signs (⟨cs.toArray⟩ : Str) = cs.map fun c => (⟨#[c]⟩ : Str) := by
    simp [PyProof.Rows.signs]
  rw [e] at this
  have e0 : Str.ofString "" = ⟨#[]⟩ := by decide
  rw [e0]
  exact this
theorem ok_sign {s : Str} (h : PyData.strOk s = true) (j : Nat) : s.cps.toList.getD j 0 < 0x110000 := by
  by_cases hj : j < s.cps.toList.length
  · rw [List.getD_eq_getElem?_getD, List.getElem?_eq_getElem hj]
    exact ok_to h _ (List.getElem_mem hj)
  · rw [List.getD_eq_getElem?_getD, List.getElem?_eq_none (by omega)]
    exact Nat.le_of_ble_eq_true rfl
theorem DT.imp {X : Cx} {W : WX} {e : Expr} {δ : List Slot} {P P' : Bool → Prop} {PX : Xd → Prop} (h : DT X W e δ P PX) (i : ∀ b, P b → P' b) : DT X W e δ P' PX := fun σ H own Q S q => h σ H own Q S fun b H2 p => q b H2 (i b p)
section
variable {X : Cx} {W : WX} {δ : List Slot} {N : List Slot → Prop} {R : D → List Slot → Prop} {B C : List Slot → Prop} {PX : Xd → List Slot → Prop} {e : Expr} {body orelse : List Stmt} {pos : Pos}
/-- a test known to fail -/
theorem ds_ifF (h : DT X W e δ (fun b => b = false) (fun x => PX x δ)) (q : DSs X W orelse δ N R B C PX) : DS X W (.If e body orelse pos) δ N R B C PX :=
  ds_if (h.imp fun b z => by subst z; exact ⟨fun z => (Bool.false_ne_true z).elim, fun _ => q⟩)
/-- a test known to hold -/
theorem ds_ifT (h : DT X W e δ (fun b => b = true) (fun x => PX x δ)) (q : DSs X W body δ N R B C PX) : DS X W (.If e body orelse pos) δ N R B C PX :=
  ds_if (h.imp fun b z => by subst z; exact ⟨fun _ => q, fun z => (Bool.false_ne_true z.symm).elim⟩)
end
end PV

set_option Elab.async false
set_option linter.all false
set_option maxRecDepth 100000
set_option maxHeartbeats 2000000
/-! PV12: more built-ins: str, int, max, min, divmod, sorted, list, tuple -/
namespace PV
open PySem PySem.Spec PyProof.Rows L2
section
variable {M : Md} {X : Cx} {W : WX} {k : Nat} {Nm : List Str} {sc : Scope} {δ δ' δ1 : List Slot} {P : D → Prop} {PX : Xd → Prop} {e a b d2 : Expr} {es : List Expr} {pos p : Pos} {x : Str} {K : Fr}
/-- a list of new stuff is made of a call's arguments -/
theorem new_lst {own : Addr → Bool} {H : Hp} {ds : List D} {vs : List V} {Q : VK} (ow : ∀ a, own a = true → H a ≠ none) (r : RepL K (mask own H) ds vs) (p : P (.lst ds)) (q : ∀ d u H2, P d → Ex H H2 → Rep K (mask own H2) d u → Q u H2) (l : Addr) (hl : H l = none) : Q (.ref l) (upd H l (.lst vs)) := by
  refine q _ _ _ p (Ex.new hl) ?_
  rw [mask_new ow hl]
  exact ⟨l, vs, rfl, SqL.of upd_same, r.mono (Ex.new (mask_at hl))⟩
theorem new_tup {own : Addr → Bool} {H : Hp} {ds : List D} {vs : List V} {Q : VK} (ow : ∀ a, own a = true → H a ≠ none) (r : RepL K (mask own H) ds vs) (p : P (.tup ds)) (q : ∀ d u H2, P d → Ex H H2 → Rep K (mask own H2) d u → Q u H2) (l : Addr) (hl : H l = none) : Q (.ref l) (upd H l (.tup vs)) := by
  refine q _ _ _ p (Ex.new hl) ?_
  rw [mask_new ow hl]
  exact ⟨l, vs, rfl, SqT.of upd_same, r.mono (Ex.new (mask_at hl))⟩
theorem de_max2 (c : Ct M X W k Nm sc) (hg : GlS sc "max") (hm : Bi M "max") (h : DE X W a δ (fun x => ∃ i, x = .int i ∧ DE X W b δ (fun y => ∃ j, y = .int j ∧ P (.int (if j > i then j else i))) PX) PX)
    (he : starEach [a, b] X.env = (false, eval a X.env) :: starEach [b] X.env := by rfl) (he2 : starEach [b] X.env = (false, eval b X.env) :: starEach [] X.env := by rfl) (hpl : (backTo pos (starEach [b] X.env)).any (·.1) = false := by rfl) : DE X W (.Call (.Name "max" p) [a, b] [] pos) δ P PX := by
  refine de_callB c (call_max2 c.calm) hg hm (by decide +kernel) (da_cons (h.imp fun x ⟨i, hx, h2⟩ => da_cons (h2.imp fun y ⟨j, hy, p⟩ => da_nil ?_) he2) he) (by decide) (by decide) he hpl
  subst hx hy
  intro vs H own Q ow r q
  obtain ⟨v, w, rfl, r1, r2⟩ := r.vals2
  exact ⟨i, j, by rw [show v = V.int i from r1, show w = V.int j from r2], q (.int _) _ H p (Ex.refl H) rfl⟩
theorem de_min2 (c : Ct M X W k Nm sc) (hg : GlS sc "min") (hm : Bi M "min") (h : DE X W a δ (fun x => ∃ i, x = .int i ∧ DE X W b δ (fun y => ∃ j, y = .int j ∧ P (.int (if j < i then j else i))) PX) PX)
    (he : starEach [a, b] X.env = (false, eval a X.env) :: starEach [b] X.env := by rfl) (he2 : starEach [b] X.env = (false, eval b X.env) :: starEach [] X.env := by rfl) (hpl : (backTo pos (starEach [b] X.env)).any (·.1) = false := by rfl) : DE X W (.Call (.Name "min" p) [a, b] [] pos) δ P PX := by
  refine de_callB c (call_min2 c.calm) hg hm (by decide +kernel) (da_cons (h.imp fun x ⟨i, hx, h2⟩ => da_cons (h2.imp fun y ⟨j, hy, p⟩ => da_nil ?_) he2) he) (by decide) (by decide) he hpl
  subst hx hy
  intro vs H own Q ow r q
  obtain ⟨v, w, rfl, r1, r2⟩ := r.vals2
  exact ⟨i, j, by rw [show v = V.int i from r1, show w = V.int j from r2], q (.int _) _ H p (Ex.refl H) rfl⟩
theorem de_divmod (c : Ct M X W k Nm sc) (hg : GlS sc "divmod") (hm : Bi M "divmod") (h : DE X W a δ (fun x => ∃ i, x = .int i ∧ DE X W b δ (fun y => ∃ j, y = .int j ∧ CDiv i j ∧ P (.tup [.int (i / j), .int (i % j)])) PX) PX)
    (he : starEach [a, b] X.env = (false, eval a X.env) :: starEach [b] X.env := by rfl) (he2 : starEach [b] X.env = (false, eval b X.env) :: starEach [] X.env := by rfl) (hpl : (backTo pos (starEach [b] X.env)).any (·.1) = false := by rfl) : DE X W (.Call (.Name "divmod" p) [a, b] [] pos) δ P PX := by
  refine de_callB c call_divmod hg hm (by decide +kernel) (da_cons (h.imp fun x ⟨i, hx, h2⟩ => da_cons (h2.imp fun y ⟨j, hy, hj, p⟩ => da_nil ?_) he2) he) (by decide) (by decide) he hpl
  subst hx hy
  intro vs H own Q ow r q
  obtain ⟨v, w, rfl, r1, r2⟩ := r.vals2
  refine ⟨i, j, by rw [show v = V.int i from r1, show w = V.int j from r2], hj, fun l hl => ?_⟩
  exact new_tup (K := X.K) (P := P) (ds := [.int _, .int _]) ow ⟨_, _, rfl, rfl, _, _, rfl, rfl, rfl⟩ p q l hl
theorem de_int1 (c : Ct M X W k Nm sc) (hg : GlS sc "int") (hm : Bi M "int") (h : DE X W a δ (fun x => (∃ i, x = .int i ∧ P (.int i)) ∨ ∃ i, x = .bl i ∧ P (.int (if i then 1 else 0))) PX)
    (he : starEach [a] X.env = (false, eval a X.env) :: starEach [] X.env := by rfl) (hpl : (backTo pos (starEach [] X.env)).any (·.1) = false := by rfl) : DE X W (.Call (.Name "int" p) [a] [] pos) δ P PX := by
  refine de_callT c call_int1 hg hm (by decide +kernel) (da_cons (h.imp fun x hx => da_nil ?_) he) (by decide) (by decide) he hpl
  intro vs H own Q ow r q
  obtain ⟨v, rfl, r1⟩ := r.vals1
  rcases hx with ⟨i, rfl, p⟩ | ⟨i, rfl, p⟩
  · exact .inl ⟨i, by rw [show v = V.int i from r1], q (.int _) _ H p (Ex.refl H) rfl⟩
  · exact .inr ⟨i, by rw [show v = V.bl i from r1], q (.int _) _ H p (Ex.refl H) rfl⟩
/-- what str() tells of a whole number or a text -/
def strD : D → Str → Prop
  | .int i, t => i.natAbs.log2 < 1920 ∧ t = Str.ofString (toString i)
  | .str s, t => t = s
  | _, _ => False
theorem call_strA : CallR X (.type "str") (fun xs H Q => (∃ i, xs = [.int i] ∧ i.natAbs.log2 < 1920 ∧ Q (.str (toString i)) H) ∨ ∃ s, xs = [.str s] ∧ Q (.str s) H) := fun pins s σ H xs us Q I r h =>
  h.elim (call_str_int pins s σ H xs us Q I r) (SkE.call_str_str pins s σ H xs us Q I r)
theorem de_str1 (c : Ct M X W k Nm sc) (hg : GlS sc "str") (hm : Bi M "str") (h : DE X W a δ (fun x => ∃ t, strD x t ∧ P (.str t)) PX)
    (he : starEach [a] X.env = (false, eval a X.env) :: starEach [] X.env := by rfl) (hpl : (backTo pos (starEach [] X.env)).any (·.1) = false := by rfl) : DE X W (.Call (.Name "str" p) [a] [] pos) δ P PX := by
  refine de_callT c call_strA hg hm (by decide +kernel) (da_cons (h.imp fun x ⟨t, hx, p⟩ => da_nil ?_) he) (by decide) (by decide) he hpl
  intro vs H own Q ow r q
  obtain ⟨v, rfl, r1⟩ := r.vals1
  cases x with
  | int i => exact .inl ⟨i, by rw [show v = V.int i from r1], hx.1, by have := q (.str t) (.str t) H p (Ex.refl H) rfl; rw [hx.2] at this; exact this⟩
  | str s => exact .inr ⟨s, by rw [show v = V.str s from r1], by have := q (.str t) (.str t) H p (Ex.refl H) rfl; rw [show t = s from hx] at this; exact this⟩
  | _ => exact hx.elim
/-- list(xs) of a list or a tuple: anew -/
theorem de_list1 (c : Ct M X W k Nm sc) (hg : GlS sc "list") (hm : Bi M "list") (h : DE X W a δ (fun x => ∃ ds, (x = .lst ds ∨ x = .tup ds) ∧ P (.lst ds)) PX)
    (he : starEach [a] X.env = (false, eval a X.env) :: starEach [] X.env := by rfl) (hpl : (backTo pos (starEach [] X.env)).any (·.1) = false := by rfl) : DE X W (.Call (.Name "list" p) [a] [] pos) δ P PX := by
  refine de_callT c call_list_of hg hm (by decide +kernel) (da_cons (h.imp fun x ⟨ds, hx, p⟩ => da_nil ?_) he) (by decide) (by decide) he hpl
  intro vs H own Q ow r q
  obtain ⟨v, rfl, r1⟩ := r.vals1
  rcases hx with rfl | rfl
  · obtain ⟨l, ws, rfl, h1, h2⟩ := r1
    exact ⟨l, ws, rfl, .inl (mask_le.sqL h1), fun l' hl => new_lst (K := X.K) ow h2 p q l' hl⟩
  · obtain ⟨l, ws, rfl, h1, h2⟩ := r1
    exact ⟨l, ws, rfl, .inr (mask_le.sqT h1), fun l' hl => new_lst (K := X.K) ow h2 p q l' hl⟩
/-- sorted(ns), whole numbers, fewer than 64 -/
theorem de_sortedI (c : Ct M X W k Nm sc) (hg : GlS sc "sorted") (hm : Bi M "sorted") (h : DE X W a δ (fun x => ∃ ns : List Int, x = .lst (ns.map .int) ∧ ns.length < 64 ∧ ∀ ms : List Int, ms.Perm ns → ms.Pairwise (· ≤ ·) → P (.lst (ms.map .int))) PX)
    (he : starEach [a] X.env = (false, eval a X.env) :: starEach [] X.env := by rfl) (hpl : (backTo pos (starEach [] X.env)).any (·.1) = false := by rfl) : DE X W (.Call (.Name "sorted" p) [a] [] pos) δ P PX := by
  refine de_callB c cr_sorted hg hm (by decide +kernel) (da_cons (h.imp fun x ⟨ns, hx, hl, p⟩ => da_nil ?_) he) (by decide) (by decide) he hpl
  subst hx
  intro vs H own Q ow r q
  obtain ⟨v, rfl, l, ws, rfl, h1, h2⟩ := r.vals1
  rw [h2.ints] at h1
  exact ⟨l, ns, rfl, mask_le.sqL h1, hl, fun ms l' h3 h4 hl' => new_lst (K := X.K) ow (RepL.ofInts ms) (p ms h3 h4) q l' hl'⟩
/-- a, b, .. = a list -/
theorem dg_lst {ds : List D} {tgs : List Expr} {j n : Nat} {T : List Nat} {pos : Pos} (h : DGs M Nm sc tgs ds δ δ' T) (hl : ds.length = n) (hn : ∀ X : Cx, (assignEach tgs X.env).length = n := by intro _; rfl) (hst : ∀ X : Cx, (assignEach tgs X.env).findIdx? (·.1) = none := by intro _; rfl) : DG M Nm sc (.Tuple tgs j pos) (.lst ds) δ δ' T := by
  obtain ⟨u, g1, g2⟩ := h
  refine ⟨gLst M.K n u, fun X W k c => by rw [← c.hK]; exact pg_lst c.calm (g1 X W k c) (hn X) (hst X), fun v σ H own o0 Q S o r q => ?_⟩
  obtain ⟨l, ws, rfl, q1, q2⟩ := r
  exact ⟨l, ws, rfl, mask_le.sqL q1, by rw [q2.length, hl], g2 ws σ H own o0 Q S o q2 q⟩
theorem we_orT {ta tb : TE} (h : WE K W ta δ (fun x => ∃ i, x.tr = some i ∧ (i = true → P x) ∧ (i = false → WE K W tb δ P PX)) PX) : WE K W (tOrT K ta tb) δ P PX := by
  intro σ H own Q S q
  refine h σ H own _ S fun x v H1 ⟨i, hx, p1, p2⟩ e1 r => ⟨i, tr_ok (r.mono mask_le) hx, ?_⟩
  cases i with
  | true => exact iteT (q _ _ H1 (p1 rfl) e1 r)
  | false => exact iteF (p2 rfl σ H1 own _ (S.mono e1) fun d u H2 p e2 => q d u H2 p (e1.trans e2))
/-- a or b, by a's truth: the first that holds -/
theorem de_orT {rest : List Expr} (h : DE X W a δ (fun x => ∃ i, x.tr = some i ∧ (i = true → P x) ∧ (i = false → DE X W (.BoolOp .Or (b :: rest) pos) δ P PX)) PX) : DE X W (.BoolOp .Or (a :: b :: rest) pos) δ P PX :=
  de_mk (pe_orT pe_sem pe_sem) (we_orT h)
/-- a method of a text, one argument, its answer new -/
theorem de_m1n {id : String} {name : Str} {apos : Pos} {r : V → List V → Hp → VK → Prop} (slot : PySem.Slot "str" name id) (ty : typeOf (.builtin id) = pure (.type "method_descriptor")) (rule : MtR X id r)
    (h : DE X W a δ (fun d => ∃ s, d = .str s ∧ DE X W e δ (fun y => ∀ w H own (Q : VK), (∀ a, own a = true → H a ≠ none) → Rep X.K (mask own H) y w → (∀ d u H2, P d → Ex H H2 → Rep X.K (mask own H2) d u → Q u H2) → r (.str s) [w] H Q) PX) PX)
    (hs : starEach [e] X.env = [(false, eval e X.env)] := by rfl) (hbase : attributeBase a name X.env (eval a X.env) = eval a X.env := by rfl) (hline : (apos.endLine == pos.line) = true := by rfl) : DE X W (.Call (.Attribute a name apos) [e] [] pos) δ P PX := by
  refine de_mk (pe_m1 slot ty rule pe_sem pe_sem hs hbase hline) ?_
  intro σ H own Q S q
  refine h σ H own _ S fun d v H1 ⟨s, hd, h2⟩ e1 r1 => ?_
  subst hd
  have e0 : v = .str s := r1
  subst e0
  exact ⟨⟨s, rfl⟩, h2 σ H1 own _ (S.mono e1) fun y w H2 h3 e2 r2 => h3 w H2 own _ (S.mono (e1.trans e2)).ow r2 fun d u H3 p e3 => q d u H3 p ((e1.trans e2).trans e3)⟩
/-- s.split(sep) -/
theorem de_split {apos : Pos} (h : DE X W a δ (fun d => ∃ s, d = .str s ∧ DE X W e δ (fun y => ∃ t : Str, y = .str t ∧ (t.length == 0) = false ∧ s.length + 2 ≤ 16777216 ∧ P (.lst ((Txt.split s t).map .str))) PX) PX)
    (hs : starEach [e] X.env = [(false, eval e X.env)] := by rfl) (hbase : attributeBase a "split" X.env (eval a X.env) = eval a X.env := by rfl) (hline : (apos.endLine == pos.line) = true := by rfl) : DE X W (.Call (.Attribute a "split" apos) [e] [] pos) δ P PX := by
  refine de_m1n PySem.F.slot_str_split PySem.F.type_str_split mt_split (h.imp fun d ⟨s, hd, h2⟩ => ⟨s, hd, h2.imp fun y ⟨t, hy, h0, hz, p⟩ => ?_⟩) hs hbase hline
  subst hy
  intro w H own Q ow r q
  obtain rfl : w = .str t := r
  exact ⟨s, t, rfl, rfl, h0, by rw [sizeLine_eq]; exact hz, fun l hl => new_lst (K := X.K) ow (RepL.ofStrs _) p q l hl⟩
end
end PV

set_option Elab.async false
set_option linter.all false
set_option maxRecDepth 100000
set_option maxHeartbeats 2000000
/-! PV13: instances that stay as they are: fields read, methods called -/
namespace PV
open PySem PySem.Spec PyProof.Rows L2
section
variable {M : Md} {X : Cx} {W : WX} {k : Nat} {Nm : List Str} {sc : Scope} {δ δ' δ1 : List Slot} {P : D → Prop} {PX : Xd → Prop} {e a b d2 o : Expr} {es : List Expr} {pos p apos : Pos} {x m : Str} {K : Fr}
/-- o.f -/
theorem de_fld (c : Ct M X W k Nm sc) {f : Str} (h : DE X W o δ (fun x => ∃ C fs d, x = .obj C fs ∧ Cls M.K C ∧ NoAttr M.K C f ∧ fs.lookup f = some d ∧ P d) PX) (hb : attributeBase o f X.env (eval o X.env) = eval o X.env := by rfl) : DE X W (.Attribute o f pos) δ P PX := by
  refine de_mk (pe_fld pe_sem hb) ?_
  intro σ H own Q S q
  refine h σ H own _ S fun x v H1 ⟨C, fs, d, hx, hc, hn, hl, p⟩ e1 r => ?_
  subst hx
  obtain ⟨l, dx, es, rfl, h1, h2⟩ := r
  obtain ⟨w, hw, rw'⟩ := h2.lookup hl
  exact ⟨l, C, dx, es, w, rfl, mask_le _ _ h1, by rw [c.hK]; exact hc, by rw [c.hK]; exact hn, hw, q d w H1 p e1 rw'⟩
/-- a method's promise -/
structure MethOk (M : Md) (C : Addr) (j : Nat) (m : Str) (n : Nat) (F : Phi) : Prop where
  ex : ∃ f fd ps, FnOk M.P M.w M.K M.mg M.base (L2.CX M.P M.w) j f fd ps (spD M.K n F) ∧ Meth M.K C m f ∧ Binds M.K fd ps []
theorem wish_false {E : XK} {own : Addr → Bool} {H : Hp} : WishX K E own H (fun _ => False) := ⟨fun _ z => z.elim, fun _ _ z => z.elim⟩
/-- o.m(e, ..), which lets nothing out -/
theorem de_meth {j n : Nat} {F : Phi} {C : Addr} (c : Ct M X W k Nm sc) (cl : Cls M.K C) (f : MethOk M C j m n F) (hj : j ≤ k) (h : DE X W o δ (fun x => ∃ fs, x = .obj C fs ∧ fs.lookup m = none ∧ DA X W (e :: es) δ (fun ds => ds.length + 1 = n ∧ F (x :: ds) P (fun _ => False)) PX) PX) {pl : Sem Bool}
    (hst : starEach (e :: es) X.env = (false, eval e X.env) :: starEach es X.env := by rfl) (hpl : (backTo pos (starEach es X.env)).any (·.1) = false := by rfl)
    (ht : eval (.Call (.Attribute o m apos) (e :: es) [] pos) X.env = (do
      let ov ← eval o X.env
      standAt apos.atName
      let (f, first) ← holding [ov] (getMethod ov m pl)
      callWith pos f first (backTo pos (starEach (e :: es) X.env)) (backToKw pos (keywordEach [] X.env))) := by rfl) : DE X W (.Call (.Attribute o m apos) (e :: es) [] pos) δ P PX := by
  obtain ⟨fa, fd, ps, G, hm, hb⟩ := f.ex
  rw [← c.hK] at cl hm hb
  rw [← c.hP, ← c.hw, ← c.hK, ← c.hmg, ← c.hb] at G
  refine de_mk (pe_meth pe_sem cl hm G (c.room.mono hj) hb .nil (E := fun _ _ _ => False) ?_ pa_sem hst hpl ht) ?_
  · intro pins σ H s u s' _ z
    obtain ⟨_, _, _, _, _, _, _, _, _, _, _, _, z⟩ := z
    exact z.elim
  · intro σ H own Q S q
    refine h σ H own _ S fun x v H1 ⟨fs, hx, hl, h2⟩ e1 r => ?_
    subst hx
    have r0 := r
    obtain ⟨l, dx, es', rfl, h1, h2'⟩ := r
    refine ⟨l, dx, es', rfl, mask_le _ _ h1, h2'.lookupN hl, ?_⟩
    refine h2 σ H1 own _ (S.mono e1) fun ds vs H2 ⟨hn, hF⟩ e2 r2 => ?_
    rw [List.append_nil]
    exact ⟨own, .obj C fs :: ds, P, _, (S.mono (e1.trans e2)).ow, ⟨_, _, rfl, r0.mono (mask_ex e2), r2⟩, by rw [List.length_cons]; exact hn, hF, fun d v H' p e3 r3 => q d v H' p ((e1.trans e2).trans e3) r3, wish_false⟩
end
end PV

set_option Elab.async false
set_option linter.all false
set_option maxRecDepth 100000
set_option maxHeartbeats 2000000
/-! PV14: an instance under construction: its fields stored and read; what __init__ promises -/
namespace PV
open PySem PySem.Spec PyProof.Rows L2
section
variable {M : Md} {X : Cx} {W : WX} {k : Nat} {Nm : List Str} {sc : Scope} {δ δ' δ1 : List Slot} {P : D → Prop} {PX : Xd → Prop} {e a b d2 o : Expr} {es : List Expr} {pos p apos : Pos} {x m : Str} {K : Fr}
/-- self.f = e, a value -/
theorem ds_fld (c : Ct M X W k Nm sc) {i : Nat} {l C : Addr} {fs : List (Str × D)} {f : Str} {p2 : Pos} {N : List Slot → Prop} {R : D → List Slot → Prop} {B C' : List Slot → Prop} {PX : Xd → List Slot → Prop} (hx : At Nm δ x i (.ins l C fs)) (hv : Vis sc x) (cl : Cls M.K C) (na : NoAttr M.K C f) (hz : fs.length < 1000)
    (h : DE X W e δ (fun d => ∃ δ', Put Nm δ x (.ins l C (putFD f d fs)) i δ' ∧ N δ') (fun x => PX x δ)) (hd : (x == ("__debug__" : Str)) = false := by decide) (hcd : (x == ("__classdict__" : Str)) = false := by decide)
    (hs : swapsWith e (some (.Attribute (.Name x p2) f p)) pos.line X.env = pure false := by rfl) : DS X W (.Assign [.Attribute (.Name x p2) f p] e pos) δ N R B C' PX := fun Hb o0 own D' σ H o g => by
  refine sem_psL (ps_fld (pe_var (i := i) (by rw [c.hN]; exact hx.N) (c.vis _ hv) hd hcd) pe_sem hs) fun hlen => ?_
  refine h σ H own _ (o.sy g) fun d v H1 ⟨δ', n, hn⟩ e1 r => ?_
  have o1 := o.mono e1
  obtain ⟨y, h1, dx, es, rfl, h2, h3, h4⟩ := o1.sl.at (hx.lt c hlen) hx.S
  refine ⟨_, h1, l, C, dx, es, rfl, h3, by rw [c.hK]; exact cl, by rw [c.hK]; exact na, by rw [h4.length]; exact hz, ?_⟩
  refine g.nx own _ _ δ' hn ?_
  rw [n.S]
  refine o1.wrG hx.S rfl h1 h2 ⟨dx, _, rfl, h2, upd_same, ?_⟩ fun _ _ z => z
  rw [mask_upd_own h2]
  exact h4.put r
/-- self.f, read -/
theorem de_selfld (c : Ct M X W k Nm sc) {i : Nat} {l C : Addr} {fs : List (Str × D)} {f : Str} {p2 : Pos} {d : D} (hx : At Nm δ x i (.ins l C fs)) (hv : Vis sc x) (cl : Cls M.K C) (na : NoAttr M.K C f) (hl : fs.lookup f = some d) (p : P d)
    (hd : (x == ("__debug__" : Str)) = false := by decide) (hcd : (x == ("__classdict__" : Str)) = false := by decide) (hb : attributeBase (.Name x p2) f X.env (eval (.Name x p2) X.env) = eval (.Name x p2) X.env := by rfl) : DE X W (.Attribute (.Name x p2) f pos) δ P PX := by
  intro σ H own Q S q
  refine sem_peL (pe_fld (pe_var (i := i) (by rw [c.hN]; exact hx.N) (c.vis _ hv) hd hcd) hb) fun hlen => ?_
  obtain ⟨y, h1, dx, es, rfl, h2, h3, h4⟩ := S.sl.at (hx.lt c hlen) hx.S
  obtain ⟨v, hw, r⟩ := h4.lookup hl
  exact ⟨_, h1, l, C, dx, es, v, rfl, h3, by rw [c.hK]; exact cl, by rw [c.hK]; exact na, hw, q d v H p (Ex.refl H) r⟩
end
end PV

set_option Elab.async false
set_option linter.all false
set_option maxRecDepth 100000
set_option maxHeartbeats 2000000
/-! PV15: what __init__ promises; an instance made -/
namespace PV
open PySem PySem.Spec PyProof.Rows L2
section
variable {M : Md} {X : Cx} {W : WX} {k : Nat} {Nm : List Str} {sc : Scope} {δ δ' δ1 : List Slot} {P : D → Prop} {PX : Xd → Prop} {e a b d2 o : Expr} {es : List Expr} {pos p apos : Pos} {x m : Str} {K : Fr}
/-- the heap without one address -/
def but (x : Addr) (H : Hp) : Hp := fun a => if a = x then none else H a
theorem but_ne {x a : Addr} {H : Hp} (h : a ≠ x) : but x H a = H a := if_neg h
theorem but_ex {x : Addr} {H : Hp} : Ex (but x H) H := fun a o h => by
  unfold but at h
  split at h
  · cases h
  · exact h
abbrev PhiI := List D → (List (Str × D) → Prop) → (Xd → Prop) → Prop
/-- self is fresh, ours, without fields; behind it stand the fields -/
def spI (K : Fr) (C : Addr) (n : Nat) (F : PhiI) : Sp := fun vs H Q E => ∃ own x dx ws ds P PX, vs = .ref x :: ws ∧ own x = false ∧ (∀ a, own a = true → H a ≠ none) ∧ H x = some (.ins C dx []) ∧ RepL K (mask (addOwn own x) H) ds ws ∧ ds.length + 1 = n ∧ F ds P PX ∧
  (∀ fs es dx' H', P fs → Ex (but x H) H' → H' x = some (.ins C dx' es) → RepF K (mask own H') fs es → Q .non H') ∧ WishX K E own (but x H) PX
theorem startS_has {N : List Str} {ds : List D} (m : Nat) (u : Slot) (x : Option V) (l : Addr) (hm : (startS N ds)[m]? = some u) : ¬ u.has x l := by
  unfold startS at hm
  by_cases h : m < ds.length
  · rw [List.getElem?_append_left (by simpa using h), List.getElem?_map] at hm
    cases hd : ds[m]? with
    | none => rw [hd] at hm; cases hm
    | some d => rw [hd] at hm; cases hm; exact fun z => z
  · rw [List.getElem?_append_right (by simpa using h), List.getElem?_replicate] at hm
    split at hm
    · cases hm; exact fun z => z
    · cases hm
/-- one slot told anew, no other is ours -/
theorem Slots.tell {own : Addr → Bool} {H : Hp} {σ : L2.St} {i : Nat} {v : Option V} {s : Slot} (S : Slots K own H σ δ) (nm : ∀ (m : Nat) (u : Slot) (x : Option V) (l : Addr), δ[m]? = some u → ¬ u.has x l) (hσ : σ[i]? = some v) (ok : SlotOk K own H v s) : Slots K own H σ (δ.set i s) := by
  obtain ⟨γ, h⟩ := S
  have e := h.chg i ok (fun _ _ _ _ _ _ o => o) fun l _ j x s _ _ b c => nm j s x l b c
  have hs : i < σ.length := (List.getElem?_eq_some_iff.mp hσ).1
  rw [set_same (by rw [app_get hs]; exact hσ)] at e
  exact ⟨γ, e⟩
def startI (N : List Str) (l C : Addr) (ds : List D) : List Slot := (startS N (.opq (.ref l) :: ds)).set 0 (.ins l C [])
theorem init_ok {M : Md} {y qual : Str} {st : Stmt} {f C : Addr} {fd : FuncData} {N ps : List Str} {k n : Nat} {F : PhiI} (G : Fun M.K y qual st f fd) (S : FnScope N ps (defScope st)) (hn : ps.length = n)
    (h : ∀ l ds P PX, ds.length + 1 = n → F ds P PX → ∀ X W, Ct M X W k N (defScope st) → DSs X W (defBody st) (startI N l C ds) (fun δ => ∃ fs, δ[0]? = some (.ins l C fs) ∧ P fs) (fun _ _ => False) (fun _ => False) (fun _ => False) (fun x _ => PX x)) :
    FnOk M.P M.w M.K M.mg M.base (L2.CX M.P M.w) (k + 1) f fd ps (spI M.K C n F) := by
  refine G.okX S (fun vs H Q E hh => ?_) (fun cdv A outer s H vs Q E hr hh => ?_)
  · obtain ⟨own, x, dx, ws, ds, P, PX, rfl, _, _, _, r, hl, _⟩ := hh
    rw [List.length_cons, r.length, hl, hn]
  · obtain ⟨own, x, dx, ws, ds, P, PX, rfl, hx, ow, he, r, hl, hF, hq, hw⟩ := hh
    refine ⟨_, pss_sem, ?_⟩
    have c : Ct M (cxOf (L2.CX M.P M.w) M.P M.w M.K M.mg M.base N qual (defScope st) f cdv A outer s H E) (fun cls d _ H => E cls d H) k N (defScope st) :=
      ⟨hr, rfl, takes_of rfl rfl rfl rfl, S.nd, rfl, rfl, rfl, rfl, rfl, rfl, fun x hx => hx, fun x hx => hx, fun x hx => hx, S.kind, fun x hx => hx, fun sc own hb => blkOk_by hb, passes_of rfl, fun x hx => .inl rfl⟩
    have s0 : Slots M.K (addOwn own x) H (L2.start N (.ref x :: ws)) (startS N (.opq (.ref x) :: ds)) := slots_start ⟨_, _, rfl, rfl, r⟩
    have h0 : (L2.start N (.ref x :: ws))[0]? = some (some (.ref x)) := rfl
    have s1 := s0.tell (s := .ins x C []) startS_has h0 ⟨dx, [], rfl, addOwn_self, he, rfl⟩
    refine h x ds P PX hl hF _ _ c (but x H) own (addOwn own x) _ _ H ⟨fun a z => addOwn_old z, fun a z => ?_, fun a z1 z2 => ?_, but_ex, s1, fun i s l a b => ?_⟩
      ⟨fun own' σ' H' δ' ⟨fs, p0, p⟩ o' => ?_, fun _ _ _ _ _ _ z => z.elim, fun _ _ _ _ z _ => z.elim, fun _ _ _ _ z _ => z.elim, fun own' σ' H' δ' o' => ?_⟩
    · by_cases hz : a = x
      · subst hz; rw [he]; exact fun z => nomatch z
      · refine ow a ?_
        unfold addOwn at z
        simpa [hz] using z
    · have : a = x := by
        unfold addOwn at z1
        simpa [z2] using z1
      subst this
      exact if_pos rfl
    · have e := (start_own0 (o0 := own) (σ := L2.start N (.ref x :: ws)) (N := N) (ds := .opq (.ref x) :: ds)).chg 0 (x' := some (.ref x)) (s' := .ins x C []) fun x0 l' z y => by
        have z : x0 = some (V.ref l') := z
        subst z
        rcases y with y | y
        · cases y
        · cases y
          exact hx
      rw [set_same h0] at e
      exact e i s l a b
    · obtain ⟨y, dx', es, rfl, y2, y3, y4⟩ := o'.sl.any p0
      exact hq fs es dx' H' p o'.ex y3 (y4.mono (mask_mono o'.sub))
    · exact ⟨fun c' p H2 e => hw.pl c' p H2 (o'.ex.trans e), fun c' fs p H2 d es e h1 r => hw.fl c' fs p H2 d es (o'.ex.trans e) (mask_mono o'.sub _ _ h1) (r.mono (mask_mono o'.sub))⟩
end
end PV

set_option Elab.async false
set_option linter.all false
set_option maxRecDepth 100000
set_option maxHeartbeats 2000000
/-! PV16: an instance made by its class's call -/
namespace PV
open PySem PySem.Spec PyProof.Rows L2
section
variable {M : Md} {X : Cx} {W : WX} {k : Nat} {Nm : List Str} {sc : Scope} {δ δ' δ1 : List Slot} {P : D → Prop} {PX : Xd → Prop} {e a b d2 o : Expr} {es : List Expr} {pos p apos : Pos} {x m : Str} {K : Fr}
structure MkOk (M : Md) (C : Addr) (j n : Nat) (F : PhiI) : Prop where
  ex : ∃ f fd ps, FnOk M.P M.w M.K M.mg M.base (L2.CX M.P M.w) j f fd ps (spI M.K C n F) ∧ Mk M.K C f ∧ Binds M.K fd ps []
/-- C(e, ..), which lets nothing out -/
theorem de_make {j n : Nat} {F : PhiI} {C : Addr} (c : Ct M X W k Nm sc) (f : MkOk M C j n F) (hj : j + 1 ≤ k) (hg : GlS sc x) (hm : M.mg x = some (.ref C)) (h : DA X W (e :: es) δ (fun ds => ds.length + 1 = n ∧ F ds (fun fs => P (.obj C fs)) (fun _ => False)) PX)
    (hdb : (x == ("__debug__" : Str)) = false := by decide) (he : starEach (e :: es) X.env = (false, eval e X.env) :: starEach es X.env := by rfl) (hpl : (backTo pos (starEach es X.env)).any (·.1) = false := by rfl) : DE X W (.Call (.Name x p) (e :: es) [] pos) δ P PX := by
  obtain ⟨fa, fd, ps, G, hM, hb⟩ := f.ex
  rw [← c.hK] at hM hb
  rw [← c.hmg] at hm
  rw [← c.hP, ← c.hw, ← c.hK, ← c.hmg, ← c.hb] at G
  refine de_mk (pe_make hM G (c.room.mono hj) (c.gl _ hg) hm hb .nil (E := fun _ _ _ => False) ?_ pa_sem hdb he hpl) ?_
  · intro pins σ H s u s' _ z
    obtain ⟨_, _, _, _, _, _, _, _, _, _, _, _, z⟩ := z
    exact z.elim
  · intro σ H own Q S q
    refine h σ H own _ S fun ds vs H1 ⟨hn, hF⟩ e1 r l dx hl hd hne => ?_
    have S1 := S.mono e1
    have e2 : Ex H1 (upd (upd H1 dx (.own l)) l (.ins C dx [])) := fun a u z => by
      rw [upd_ne (ne_of_none z hl), upd_ne (ne_of_none z hd)]
      exact z
    have ho : own l = false := by
      cases hb : own l with
      | false => rfl
      | true => exact absurd hl (S1.ow l hb)
    rw [List.append_nil]
    refine ⟨own, l, dx, vs, ds, _, _, rfl, ho, fun a z y => S1.ow a z (e2.free y), upd_same, r.mono (mask_add e2 hl), hn, hF, fun fs es' dx' H' p e3 h1 r1 => ⟨rfl, ?_⟩, wish_false⟩
    have e4 : Ex H1 H' := fun a u z => by
      refine e3 a u ?_
      rw [but_ne (ne_of_none z hl)]
      exact e2 a u z
    refine q (.obj C fs) _ H' p (e1.trans e4) ⟨l, dx', es', rfl, ?_, r1⟩
    unfold mask
    rw [ho]
    exact h1
end
end PV

set_option Elab.async false
set_option linter.all false
set_option maxRecDepth 100000
set_option maxHeartbeats 2000000
/-! PV17: fresh lists, owned lists written by place -/
namespace PV
open PySem PySem.Spec PyProof.Rows L2
section
variable {M : Md} {X : Cx} {W : WX} {k : Nat} {Nm : List Str} {sc : Scope} {δ δ' δ1 : List Slot} {P : D → Prop} {PX : Xd → Prop} {e a b d2 o : Expr} {es : List Expr} {pos p apos : Pos} {x m : Str} {K : Fr}
/-- a new list that nobody else holds -/
def WF (K : Fr) (W : WX) (t : TE) (δ : List Slot) (P : List D → Prop) (PX : Xd → Prop) : Prop := ∀ σ H own (Q : VK), Sy K W own σ H δ PX → (∀ ds l vs H2, P ds → Ex H H2 → H l = none → H2 l = some (.lst vs) → RepL K (mask (addOwn own l) H2) ds vs → Q (.ref l) H2) → t σ H Q
def DF (X : Cx) (W : WX) (e : Expr) (δ : List Slot) (P : List D → Prop) (PX : Xd → Prop) : Prop := WF X.K W (semE X e) δ P PX
theorem not_own {own : Addr → Bool} {H : Hp} {l : Addr} (ow : ∀ a, own a = true → H a ≠ none) (hl : H l = none) : own l = false := by
  cases z : own l with
  | false => rfl
  | true => exact absurd hl (ow l z)
theorem DF.de {P : D → Prop} (h : DF X W e δ (fun ds => P (.lst ds)) PX) : DE X W e δ P PX := by
  intro σ H own Q S q
  refine h σ H own Q S fun ds l vs H2 p e2 hl h2 r => q _ _ H2 p e2 ⟨l, vs, rfl, SqL.of ?_, r.mono (mask_mono fun a z => addOwn_old z)⟩
  unfold mask
  rw [not_own S.ow hl]
  exact h2
theorem DF.imp {P P' : List D → Prop} (h : DF X W e δ P PX) (i : ∀ d, P d → P' d) : DF X W e δ P' PX := fun σ H own Q S q => h σ H own Q S fun ds l vs H2 p => q ds l vs H2 (i ds p)
theorem df_lst {P : List D → Prop} (h : DA X W es δ (fun ds => ds.length ≤ 100000 ∧ P ds) PX) : DF X W (.List es pos) δ P PX := by
  intro σ H own Q S q
  refine sem_pe (pe_lst pa_sem) ?_
  refine h σ H own _ S fun ds vs H1 ⟨hz, p⟩ e1 r => ⟨by rw [r.length, sizeLine_eq]; omega, fun l hl => ?_⟩
  exact q ds l vs _ p (e1.trans (Ex.new hl)) (e1.free hl) upd_same (r.mono (mask_add (Ex.new hl) hl))
theorem df_rep {p2 : Pos} {P : List D → Prop} (h : DA X W es δ (fun ds => ds.length ≤ 100 ∧ DE X W b δ (fun y => ∃ n, y = .int n ∧ 0 ≤ n ∧ n < 100000 ∧ P (List.replicate n.toNat ds).flatten) PX) PX) : DF X W (.BinOp (.List es p2) .Mult b pos) δ P PX := by
  intro σ H own Q S q
  refine sem_pe (pe_op op_rep (pe_lst pa_sem) pe_sem) ?_
  refine h σ H own _ S fun ds vs H1 ⟨h2, hb⟩ e1 r => ?_
  have hl := r.length
  refine ⟨by rw [hl, sizeLine_eq]; omega, fun l hl1 => ?_⟩
  have e2 : Ex H1 (upd H1 l (.lst vs)) := Ex.new hl1
  refine hb σ _ own _ (S.mono (e1.trans e2)) fun y v H2 ⟨n, hy, h0, h1, p⟩ e3 ry => ?_
  subst hy
  refine ⟨l, n, vs, rfl, ry, e3 _ _ upd_same, by omega, by omega, ?_, fun p' hp => ?_⟩
  · have : ds.length * n.toNat ≤ 100 * 100000 := Nat.mul_le_mul h2 (by omega)
    rw [hl, sizeLine_eq]; omega
  · have e4 := e2.trans e3
    refine q _ p' _ _ p (e1.trans (e4.trans (Ex.new hp))) ((e1.trans e4).free hp) upd_same ?_
    exact ((r.mono (mask_ex e4)).mono (mask_add (Ex.new hp) hp)).rep _
theorem de_repE {p2 : Pos} (h : DA X W es δ (fun ds => ds.length ≤ 100 ∧ DE X W b δ (fun y => ∃ n, y = .int n ∧ 0 ≤ n ∧ n < 100000 ∧ P (.lst (List.replicate n.toNat ds).flatten)) PX) PX) : DE X W (.BinOp (.List es p2) .Mult b pos) δ P PX := (df_rep h).de
/-- x = a new list, owned -/
theorem ds_accF (c : Ct M X W k Nm sc) {i : Nat} {s0 : Slot} {p2 : Pos} {N : List Slot → Prop} {R : D → List Slot → Prop} {B C : List Slot → Prop} {PX : Xd → List Slot → Prop} (hx : At Nm δ x i s0) (hv : Loc sc x) (h : DF X W e δ (fun ds => ∃ δ', Put Nm δ x (.acc ds) i δ' ∧ N δ') (fun x => PX x δ))
    (hs : swapsWith e (some (.Name x p2)) pos.line X.env = pure false := by rfl) : DS X W (.Assign [.Name x p2] e pos) δ N R B C PX := fun Hb o0 own D' σ H o g => by
  refine sem_ps (ps_set c.nd (by rw [c.hN]; exact hx.N) (c.loc _ hv) pe_sem hs (c.fn x hv)) ?_
  refine h σ H own _ (o.sy g) fun ds l vs H2 ⟨δ', n, hn⟩ e2 hl h2 r => ?_
  refine g.nx (addOwn own l) _ _ δ' hn ?_
  rw [n.S]
  exact o.acc1 e2 hl h2 r
/-! by place -/
def rGetL (K : Fr) : V → V → Hp → VK → Prop := fun x y H Q => ∃ p xs i v, x = .ref p ∧ y = .int i ∧ SqL K H p xs ∧ 0 ≤ i ∧ L2.atI xs i = some v ∧ Q v H
theorem get_list : PGet X (rGetL X.K) := by
  intro pins s σ H o i ov iv Q I ro ri h
  obtain ⟨p, xs, i, z, rfl, rfl, hq, h0, he, q⟩ := h
  cases ro
  obtain ⟨t, rfl⟩ := ri
  obtain ⟨its, r, pl, hz⟩ := I.list hq
  obtain ⟨j, h1, h2, h3, h4, h5⟩ := atI_get he
  obtain ⟨w, ew, rw'⟩ := r.get h2
  have hl := r.length
  have hn := line63
  have hj : i.toNat = j := by
    rw [seqIndex_of h0 h5] at h1
    exact Option.some.inj h1
  exact PyProof.Rows.getItem_listL pl.isList h0 (by omega) (by rw [hj]; exact ew) ⟨z, H, I, rw', q⟩
theorem atI_set {ds : List D} {j : Nat} {m : D} (h : ds[j]? = some m) : L2.atI ds (j : Int) = some m := atI_nat h
theorem ixN_nat {n j : Nat} (h : j < n) : L2.ixN n (j : Int) = some j := by
  unfold L2.ixN
  rw [if_pos (by omega), if_pos (by omega)]; simp
/-- x[b] = e, x owned -/
theorem ds_setIx (c : Ct M X W k Nm sc) {i : Nat} {ds : List D} {p2 tpos : Pos} {N : List Slot → Prop} {R : D → List Slot → Prop} {B C : List Slot → Prop} {PX : Xd → List Slot → Prop} (hx : At Nm δ x i (.acc ds)) (hv : Vis sc x)
    (h : DE X W e δ (fun z => DE X W b δ (fun y => ∃ j : Int, y = .int j ∧ 0 ≤ j ∧ j < ds.length ∧ ∃ δ', Put Nm δ x (.acc (ds.set j.toNat z)) i δ' ∧ N δ') (fun x => PX x δ)) (fun x => PX x δ))
    (hd : (x == ("__debug__" : Str)) = false := by decide) (hcd : (x == ("__classdict__" : Str)) = false := by decide)
    (ha : ∀ v, assign (.Subscript (.Name x p2) b tpos) X.env v = (do
      let ov ← holding [v] (eval (.Name x p2) X.env)
      let iv ← holding [v, ov] (eval b X.env)
      standAt tpos
      holding [v, ov, iv] (setItem ov iv v)
      release [v, ov, iv] []) := by intro _; rfl)
    (hs : swapsWithSole [.Subscript (.Name x p2) b tpos] e pos.line X.env = pure false := by rfl) (hw : swappedStores [.Subscript (.Name x p2) b tpos] e X.env = pure none := by rfl)
    (h1 : (assignEach [.Subscript (.Name x p2) b tpos] X.env).map (·.2) = [assign (.Subscript (.Name x p2) b tpos) X.env] := by rfl) : DS X W (.Assign [.Subscript (.Name x p2) b tpos] e pos) δ N R B C PX := fun Hb o0 own D' σ H o g => by
  refine sem_psL (ps_asg pe_sem (pg_sub (pe_var (i := i) (by rw [c.hN]; exact hx.N) (c.vis _ hv) hd hcd) pe_sem set_list ha) hs hw h1) fun hlen => ?_
  refine h σ H own _ (o.sy g) fun z v H1 h2 e1 r1 => ?_
  have o1 := o.mono e1
  obtain ⟨y, g1, l, vs, rfl, g2, g3, r⟩ := o1.sl.at (hx.lt c hlen) hx.S
  refine ⟨_, g1, ?_⟩
  refine h2 σ H1 own _ (o1.sy g) fun y v2 H2 ⟨j, hy, j0, j1, δ', n, hn⟩ e2 r2 => ?_
  subst hy
  obtain ⟨j, rfl⟩ : ∃ n : Nat, j = n := ⟨j.toNat, by omega⟩
  refine ⟨l, vs, j, j, rfl, r2, e2 _ _ g3, ?_, ?_⟩
  · exact ixN_nat (by rw [r.length]; omega)
  · refine g.nx own _ _ δ' hn ?_
    rw [n.S]
    exact (o1.mono e2).wr hx.S g1 g2 ((r.mono (mask_ex e2)).set j (r1.mono (mask_ex e2)))
/-- x[b] op= e, x owned, whole numbers -/
theorem ds_augIx (c : Ct M X W k Nm sc) {op : Operator} {f : Int → Int → Int} (ho : PIp X op (ipI f)) {i : Nat} {ds : List D} {p2 tpos : Pos} {N : List Slot → Prop} {R : D → List Slot → Prop} {B C : List Slot → Prop} {PX : Xd → List Slot → Prop} (hx : At Nm δ x i (.acc ds)) (hv : Vis sc x)
    (h : DE X W b δ (fun y => ∃ j n : Int, y = .int j ∧ 0 ≤ j ∧ ds[j.toNat]? = some (.int n) ∧ DE X W e δ (fun z => ∃ n2, z = .int n2 ∧ ∃ δ', Put Nm δ x (.acc (ds.set j.toNat (.int (f n n2)))) i δ' ∧ N δ') (fun x => PX x δ)) (fun x => PX x δ))
    (hd : (x == ("__debug__" : Str)) = false := by decide) (hcd : (x == ("__classdict__" : Str)) = false := by decide)
    (ha : ∀ ov iv new, augStore b ov iv new = (do holding [new, ov, iv] (setItem ov iv new); release [new, ov, iv] []; pure .next) := by intros; rfl) : DS X W (.AugAssign (.Subscript (.Name x p2) b tpos) op e pos) δ N R B C PX := fun Hb o0 own D' σ H o g => by
  refine sem_psL (ps_augS (pe_var (i := i) (by rw [c.hN]; exact hx.N) (c.vis _ hv) hd hcd) pe_sem get_list pe_sem ho set_list ha) fun hlen => ?_
  obtain ⟨y, g1, l, vs, rfl, g2, g3, r⟩ := o.sl.at (hx.lt c hlen) hx.S
  refine ⟨_, g1, ?_⟩
  refine h σ H own _ (o.sy g) fun y v1 H1 ⟨j, n, hy, j0, hj, h2⟩ e1 r1 => ?_
  subst hy
  obtain ⟨j, rfl⟩ : ∃ n : Nat, j = n := ⟨j.toNat, by omega⟩
  have hj' : ds[j]? = some (.int n) := by simpa using hj
  have o1 := o.mono e1
  obtain ⟨u, hu, ru⟩ := r.atI (atI_set hj')
  refine ⟨l, vs, j, u, rfl, r1, SqL.of (e1 _ _ g3), j0, hu, ?_⟩
  refine h2 σ H1 own _ (o1.sy g) fun z w H2 ⟨n2, hz, δ', nn, hn⟩ e2 r2 => ?_
  subst hz
  refine ⟨n, n2, ru, r2, l, vs, j, j, rfl, r1, e2 _ _ (e1 _ _ g3), ?_, ?_⟩
  · have := (List.getElem?_eq_some_iff.mp hj').1
    exact ixN_nat (by rw [r.length]; exact this)
  · refine g.nx own _ _ δ' hn ?_
    rw [nn.S]
    exact (o1.mono e2).wr hx.S g1 g2 ((r.mono (mask_ex (e1.trans e2))).set j rfl)
theorem ds_addIx (c : Ct M X W k Nm sc) {i : Nat} {ds : List D} {p2 tpos : Pos} {N : List Slot → Prop} {R : D → List Slot → Prop} {B C : List Slot → Prop} {PX : Xd → List Slot → Prop} (hx : At Nm δ x i (.acc ds)) (hv : Vis sc x)
    (h : DE X W b δ (fun y => ∃ j n : Int, y = .int j ∧ 0 ≤ j ∧ ds[j.toNat]? = some (.int n) ∧ DE X W e δ (fun z => ∃ n2, z = .int n2 ∧ ∃ δ', Put Nm δ x (.acc (ds.set j.toNat (.int (n + n2)))) i δ' ∧ N δ') (fun x => PX x δ)) (fun x => PX x δ))
    (hd : (x == ("__debug__" : Str)) = false := by decide) (hcd : (x == ("__classdict__" : Str)) = false := by decide)
    (ha : ∀ ov iv new, augStore b ov iv new = (do holding [new, ov, iv] (setItem ov iv new); release [new, ov, iv] []; pure .next) := by intros; rfl) : DS X W (.AugAssign (.Subscript (.Name x p2) b tpos) .Add e pos) δ N R B C PX := ds_augIx c ip_add hx hv h hd hcd ha
/-- len(set(ns)), unlike whole numbers -/
theorem de_lenSet {p2 q : Pos} (c : Ct M X W k Nm sc) (hg : GlS sc "len") (hm : Bi M "len") (hg2 : GlS sc "set") (hm2 : Bi M "set") (h : DE X W a δ (fun x => ∃ ns : List Int, x = .lst (ns.map .int) ∧ ns.Nodup ∧ ns.length ≤ 4000 ∧ P (.int (ns.length : Nat))) PX)
    (na : starEach [a] X.env = (false, eval a X.env) :: starEach [] X.env := by rfl) : DE X W (.Call (.Name "len" p) [.Call (.Name "set" p2) [a] [] q] [] pos) δ P PX := by
  refine de_mk (RZ.pe_lenSetI (c.gl _ hg) (by rw [c.hmg]; exact hm) (c.gl _ hg2) (by rw [c.hmg]; exact hm2) pe_sem c.calm na) ?_
  intro σ H own Q S q
  refine h σ H own _ S fun x v H1 ⟨ns, hx, hn, hl, p⟩ e1 r => ?_
  subst hx
  obtain ⟨l, ws, rfl, h1, h2⟩ := r
  rw [h2.ints] at h1
  exact ⟨l, ns, rfl, mask_le.sqL h1, hn, hl, q _ _ H1 p e1 rfl⟩
/-- a copy of a list -/
theorem df_list1 {P : List D → Prop} (c : Ct M X W k Nm sc) (hg : GlS sc "list") (hm : Bi M "list") (h : DE X W a δ (fun x => ∃ ds, (x = .lst ds ∨ x = .tup ds) ∧ P ds) PX)
    (he : starEach [a] X.env = (false, eval a X.env) :: starEach [] X.env := by rfl) (hpl : (backTo pos (starEach [] X.env)).any (·.1) = false := by rfl) : DF X W (.Call (.Name "list" p) [a] [] pos) δ P PX := by
  intro σ H own Q S q
  refine sem_pe (pe_callTy call_list_of (c.gl _ hg) (by rw [c.hmg]; exact hm) (by decide +kernel) (pa_cons pe_sem pa_nil he) (by decide) (by decide) he hpl) ?_
  refine h σ H own _ S fun x v H1 ⟨ds, hx, p⟩ e1 r1 => ?_
  rcases hx with rfl | rfl
  · obtain ⟨l, ws, rfl, h1, h2⟩ := r1
    exact ⟨l, ws, rfl, .inl (mask_le.sqL h1), fun l' hl => q ds l' ws _ p (e1.trans (Ex.new hl)) (e1.free hl) upd_same (h2.mono (mask_add (Ex.new hl) hl))⟩
  · obtain ⟨l, ws, rfl, h1, h2⟩ := r1
    exact ⟨l, ws, rfl, .inr (mask_le.sqT h1), fun l' hl => q ds l' ws _ p (e1.trans (Ex.new hl)) (e1.free hl) upd_same (h2.mono (mask_add (Ex.new hl) hl))⟩
end
end PV

set_option Elab.async false
set_option linter.all false
set_option maxRecDepth 100000
set_option maxHeartbeats 2000000
/-! PV18: short ways: a name set by what is wanted of it, lists turned about, methods without arguments -/
namespace PV
open PySem PySem.Spec PyProof.Rows L2
section
variable {M : Md} {X : Cx} {W : WX} {k : Nat} {Nm : List Str} {sc : Scope} {δ δ' δ1 : List Slot} {P : D → Prop} {PX : Xd → Prop} {e a b d2 o : Expr} {es : List Expr} {pos p apos : Pos} {x m : Str} {K : Fr}
theorem lkz {α : Type} {f : Str} {d : α} {r : List (Str × α)} : List.lookup f ((f, d) :: r) = some d := by
  simp [List.lookup]
theorem lks {α : Type} {f g : Str} {d : α} {q : Option α} {r : List (Str × α)} (h : (f == g) = false) (hr : List.lookup f r = q) : List.lookup f ((g, d) :: r) = q := by
  simp only [List.lookup, h]
  exact hr
theorem lkn {α : Type} {f : Str} : List.lookup f ([] : List (Str × α)) = none := rfl
/-- name = e, told by a property; then the rest -/
theorem dss_set {i : Nat} {s0 : Slot} {p2 : Pos} {rest : List Stmt} {N : List Slot → Prop} {R : D → List Slot → Prop} {B C : List Slot → Prop} {PX : Xd → List Slot → Prop} (c : Ct M X W k Nm sc) (Q : D → Prop) (hx : At Nm δ x i s0) (hv : Loc sc x)
    (h : DE X W e δ Q (fun x => PX x δ)) (h2 : ∀ d, Q d → ∃ δ', Put Nm δ x (.val d) i δ' ∧ DSs X W rest δ' N R B C PX) (hs : swapsWithSole [.Name x p2] e pos.line X.env = pure false := by rfl) (hw : swappedStores [.Name x p2] e X.env = pure none := by rfl)
    (h1 : (assignEach [.Name x p2] X.env).map (·.2) = [assign (.Name x p2) X.env] := by rfl) : DSs X W (.Assign [.Name x p2] e pos :: rest) δ N R B C PX := by
  refine dss_cons (ds_asg c (h.imp fun d hd => ?_) hs hw h1)
  obtain ⟨δ', n, r⟩ := h2 d hd
  exact ⟨δ', _, dg_name n hv, r⟩
theorem DS.imp {st : Stmt} {N N' : List Slot → Prop} {R : D → List Slot → Prop} {B C : List Slot → Prop} {PX : Xd → List Slot → Prop} (h : DS X W st δ N R B C PX) (i : ∀ δ', N δ' → N' δ') : DS X W st δ N' R B C PX := fun Hb o0 own D' σ H o g =>
  h Hb o0 own D' σ H o ⟨fun own σ H δ' n => g.nx own σ H δ' (i δ' n), g.rt, g.bk, g.ct, g.px⟩
/-- a statement behind which J stands; then the rest -/
theorem dss_mid {st : Stmt} {rest : List Stmt} {N : List Slot → Prop} {R : D → List Slot → Prop} {B C : List Slot → Prop} {PX : Xd → List Slot → Prop} (J : List Slot → Prop) (h : DS X W st δ J R B C PX) (h2 : ∀ δ', J δ' → DSs X W rest δ' N R B C PX) : DSs X W (st :: rest) δ N R B C PX :=
  dss_cons (h.imp h2)
/-- a test of which nothing is known -/
theorem ds_ifA {body orelse : List Stmt} {N : List Slot → Prop} {R : D → List Slot → Prop} {B C : List Slot → Prop} {PX : Xd → List Slot → Prop} (h : DT X W e δ (fun _ => True) (fun x => PX x δ)) (h1 : DSs X W body δ N R B C PX) (h2 : DSs X W orelse δ N R B C PX) : DS X W (.If e body orelse pos) δ N R B C PX :=
  ds_if (h.imp fun _ _ => ⟨fun _ => h1, fun _ => h2⟩)
theorem putFD_new {f : Str} {d : D} : ∀ {fs : List (Str × D)}, fs.lookup f = none → putFD f d fs = fs ++ [(f, d)]
  | [], _ => rfl
  | (g, x) :: r, h => by
    by_cases e : g = f
    · subst e
      rw [lkz] at h; cases h
    · unfold putFD
      rw [if_neg e, putFD_new (fs := r) ?_]
      · rfl
      · have e' : (f == g) = false := beq_eq_false_iff_ne.mpr (Ne.symm e)
        simpa [List.lookup, e'] using h
/-- self.f = e, a field not yet there -/
theorem ds_fldN {C : Addr} (c : Ct M X W k Nm sc) {i : Nat} {l : Addr} {fs : List (Str × D)} {f : Str} {p2 : Pos} {N : List Slot → Prop} {R : D → List Slot → Prop} {B C' : List Slot → Prop} {PX : Xd → List Slot → Prop} (hx : At Nm δ x i (.ins l C fs)) (hv : Vis sc x) (cl : Cls M.K C) (na : NoAttr M.K C f) (hn : fs.lookup f = none) (hz : fs.length < 1000)
    (h : DE X W e δ (fun d => ∃ δ', Put Nm δ x (.ins l C (fs ++ [(f, d)])) i δ' ∧ N δ') (fun x => PX x δ)) (hd : (x == ("__debug__" : Str)) = false := by decide) (hcd : (x == ("__classdict__" : Str)) = false := by decide)
    (hs : swapsWith e (some (.Attribute (.Name x p2) f p)) pos.line X.env = pure false := by rfl) : DS X W (.Assign [.Attribute (.Name x p2) f p] e pos) δ N R B C' PX :=
  ds_fld c hx hv cl na hz (h.imp fun d hd => by rw [putFD_new hn]; exact hd) hd hcd hs
theorem de_revL {n : Nat} {p1 p2 p3 : Pos} (h : DE X W e δ (fun x => ∃ ds, x = .lst ds ∧ P (.lst ds.reverse)) PX) : DE X W (.Subscript e (.Slice none none (some (.UnaryOp .USub (.Constant (.int 1) n p1) p2)) p3) pos) δ P PX := by
  refine de_mk (pe_revL pe_sem) ?_
  intro σ H own Q S q
  refine h σ H own _ S fun x v H1 ⟨ds, hx, p⟩ e1 r1 => ?_
  subst hx
  obtain ⟨l, ws, rfl, h1, h2⟩ := r1
  exact ⟨l, ws, rfl, mask_le.sqL h1, fun l' hl => new_lst (K := X.K) (S.mono e1).ow h2.reverse p (fun d u H2 p2 e2 => q d u H2 p2 (e1.trans e2)) l' hl⟩
/-- o.m(e, ..), which lets nothing out -/
theorem de_methN {j n : Nat} {F : Phi} {C : Addr} (c : Ct M X W k Nm sc) (f : MethOk M C j m n F) (cl : Cls M.K C) (hj : j ≤ k) (h : DE X W o δ (fun x => ∃ fs, x = .obj C fs ∧ fs.lookup m = none ∧ DA X W (e :: es) δ (fun ds => ds.length + 1 = n ∧ F (x :: ds) P (fun _ => False)) PX) PX) {pl : Sem Bool}
    (hst : starEach (e :: es) X.env = (false, eval e X.env) :: starEach es X.env := by rfl) (hpl : (backTo pos (starEach es X.env)).any (·.1) = false := by rfl)
    (ht : eval (.Call (.Attribute o m apos) (e :: es) [] pos) X.env = (do
      let ov ← eval o X.env
      standAt apos.atName
      let (f, first) ← holding [ov] (getMethod ov m pl)
      callWith pos f first (backTo pos (starEach (e :: es) X.env)) (backToKw pos (keywordEach [] X.env))) := by rfl) : DE X W (.Call (.Attribute o m apos) (e :: es) [] pos) δ P PX := de_meth c cl f hj h hst hpl ht
/-- o.m(), which lets nothing out -/
theorem de_meth0 {j : Nat} {F : Phi} {C : Addr} (c : Ct M X W k Nm sc) (f : MethOk M C j m 1 F) (cl : Cls M.K C) (hj : j ≤ k) (h : DE X W o δ (fun x => ∃ fs, x = .obj C fs ∧ fs.lookup m = none ∧ F [x] P (fun _ => False)) PX) {pl : Sem Bool}
    (ht : eval (.Call (.Attribute o m apos) [] [] pos) X.env = (do
      let ov ← eval o X.env
      standAt apos.atName
      let (f, first) ← holding [ov] (getMethod ov m pl)
      callWith pos f first (backTo pos (starEach [] X.env)) (backToKw pos (keywordEach [] X.env))) := by rfl) : DE X W (.Call (.Attribute o m apos) [] [] pos) δ P PX := by
  obtain ⟨fa, fd, ps, G, hm, hb⟩ := f.ex
  rw [← c.hK] at cl hm hb
  rw [← c.hP, ← c.hw, ← c.hK, ← c.hmg, ← c.hb] at G
  refine de_mk (pe_meth0 pe_sem cl hm G (c.room.mono hj) hb .nil (E := fun _ _ _ => False) ?_ ht) ?_
  · intro pins σ H s u s' _ z
    obtain ⟨_, _, _, _, _, _, _, _, _, _, _, _, z⟩ := z
    exact z.elim
  · intro σ H own Q S q
    refine h σ H own _ S fun x v H1 ⟨fs, hx, hl, hF⟩ e1 r => ?_
    subst hx
    have r0 := r
    obtain ⟨l, dx, es', rfl, h1, h2'⟩ := r
    refine ⟨l, dx, es', rfl, mask_le _ _ h1, h2'.lookupN hl, ?_⟩
    exact ⟨own, [.obj C fs], P, _, (S.mono e1).ow, ⟨_, _, rfl, r0, rfl⟩, rfl, hF, fun d v H' p e3 r3 => q d v H' p (e1.trans e3) r3, wish_false⟩
/-- C(e, ..), its place told first -/
theorem de_makeN {j n : Nat} {F : PhiI} {C : Addr} (c : Ct M X W k Nm sc) (hm : M.mg x = some (.ref C)) (f : MkOk M C j n F) (hj : j + 1 ≤ k) (hg : GlS sc x) (h : DA X W (e :: es) δ (fun ds => ds.length + 1 = n ∧ F ds (fun fs => P (.obj C fs)) (fun _ => False)) PX)
    (hdb : (x == ("__debug__" : Str)) = false := by decide) (he : starEach (e :: es) X.env = (false, eval e X.env) :: starEach es X.env := by rfl) (hpl : (backTo pos (starEach es X.env)).any (·.1) = false := by rfl) : DE X W (.Call (.Name x p) (e :: es) [] pos) δ P PX := de_make c f hj hg hm h hdb he hpl
theorem enumD_map {α : Type} (f : α → D) : ∀ (xs : List α) (n : Nat), enumD n (xs.map f) = (xs.zipIdx n).map fun z => .tup [.int (z.2 : Int), f z.1]
  | [], _ => rfl
  | a :: r, n => by
    rw [List.map_cons, List.zipIdx_cons, List.map_cons, ← enumD_map f r (n + 1)]
    rfl
theorem zipD_map {α β : Type} (f : α → D) (g : β → D) : ∀ (xs : List α) (ys : List β), zipD (xs.map f) (ys.map g) = (xs.zip ys).map fun z => .tup [f z.1, g z.2]
  | [], _ => by simp [zipD]
  | _ :: _, [] => by simp [zipD]
  | a :: r, b :: s => by
    rw [List.map_cons, List.map_cons, List.zip_cons_cons, List.map_cons, ← zipD_map f g r s]
    rfl
theorem rangeD_map (lo : Int) (n : Nat) : rangeD lo n = (List.range n).map fun (i : Nat) => .int (lo + (i : Int)) := rfl
theorem cut_map {α : Type} (f : α → D) (xs : List α) (lo hi : Option Int) : cutD (xs.map f) lo hi = ((xs.drop (HT.sIx xs.length 0 lo)).take (HT.sIx xs.length xs.length hi - HT.sIx xs.length 0 lo)).map f := by
  unfold cutD
  rw [List.length_map, List.map_take, List.map_drop]
theorem cut_from {α : Type} (f : α → D) (xs : List α) (n : Nat) : cutD (xs.map f) (some (n : Int)) none = (xs.drop n).map f := by
  rw [cut_map]
  congr 1
  have h : HT.sIx xs.length 0 (some (n : Int)) = min n xs.length := by
    unfold HT.sIx
    simp only
    first | omega | (split <;> omega) | skip
  have h2 : HT.sIx xs.length xs.length none = xs.length := by unfold HT.sIx; rfl
  rw [h, h2]
  rw [List.take_of_length_le (by rw [List.length_drop]; omega)]
  by_cases hn : n ≤ xs.length
  · rw [Nat.min_eq_left hn]
  · rw [Nat.min_eq_right (by omega), List.drop_of_length_le (Nat.le_refl _), List.drop_of_length_le (by omega)]
theorem inD_int (i : Int) : ∀ ns : List Int, inD (.int i) (ns.map .int) = ns.contains i
  | [] => rfl
  | a :: r => by
    show (eqb (.int a) (.int i) || inD (.int i) (r.map .int)) = _
    rw [inD_int i r, List.contains_cons]
    congr 1
    show (a == i) = (i == a)
    rw [Bool.eq_iff_iff, beq_iff_eq, beq_iff_eq]
    exact eq_comm
theorem fl_ints : ∀ ns : List Int, (ns.map D.int).all D.fl = true
  | [] => rfl
  | a :: r => by
    rw [List.map_cons, List.all_cons, fl_ints r]
    rfl
theorem okN_ints (n : Nat) (ns : List Int) : okN (n + 1) (.lst (ns.map .int)) = true := by
  show (ns.map D.int).all (okN n) = true
  rw [List.all_eq_true]
  intro d hd
  obtain ⟨i, _, rfl⟩ := List.mem_map.mp hd
  cases n <;> rfl
theorem eqb_int2 {a b : Int} : eqb (.int a) (.int b) = (a == b) := rfl
theorem eqb_ints : ∀ {xs ys : List Int}, eqb (.lst (xs.map .int)) (.lst (ys.map .int)) = decide (xs = ys)
  | [], [] => rfl
  | [], _ :: _ => rfl
  | _ :: _, [] => rfl
  | a :: r, b :: s => by
    have h := @eqb_ints r s
    show ((a == b) && eqb (.lst (r.map .int)) (.lst (s.map .int))) = _
    rw [h, Bool.eq_iff_iff]
    simp
end
end PV

set_option Elab.async false
set_option linter.all false
set_option maxRecDepth 100000
set_option maxHeartbeats 2000000
/-! PV19: defs with defaults -/
namespace PV
open PySem PySem.Spec PyProof.Rows L2
section
variable {M : Md} {X : Cx} {W : WX} {k : Nat} {Nm : List Str} {sc : Scope} {δ δ' δ1 : List Slot} {P : D → Prop} {PX : Xd → Prop} {e a b d2 o : Expr} {es : List Expr} {pos p apos : Pos} {x m : Str} {K : Fr}
theorem init_okD {dvs : List V} {kws : List (Str × V)} {M : Md} {y qual : Str} {st : Stmt} {f C : Addr} {fd : FuncData} {N ps : List Str} {k n : Nat} {F : PhiI} (G : FunD M.K y qual (defArgs st) (defBody st) (defScope st) dvs kws f fd) (S : FnScope N ps (defScope st)) (hn : ps.length = n)
    (h : ∀ l ds P PX, ds.length + 1 = n → F ds P PX → ∀ X W, Ct M X W k N (defScope st) → DSs X W (defBody st) (startI N l C ds) (fun δ => ∃ fs, δ[0]? = some (.ins l C fs) ∧ P fs) (fun _ _ => False) (fun _ => False) (fun _ => False) (fun x _ => PX x)) :
    FnOk M.P M.w M.K M.mg M.base (L2.CX M.P M.w) (k + 1) f fd ps (spI M.K C n F) := by
  refine G.ok (CX := L2.CX M.P M.w) S (fun vs H Q E hh => ?_) (fun cdv A outer s H vs Q E hr hh => ?_)
  · obtain ⟨own, x, dx, ws, ds, P, PX, rfl, _, _, _, r, hl, _⟩ := hh
    rw [List.length_cons, r.length, hl, hn]
  · obtain ⟨own, x, dx, ws, ds, P, PX, rfl, hx, ow, he, r, hl, hF, hq, hw⟩ := hh
    refine ⟨_, pss_sem, ?_⟩
    have c : Ct M (cxOf (L2.CX M.P M.w) M.P M.w M.K M.mg M.base N qual (defScope st) f cdv A outer s H E) (fun cls d _ H => E cls d H) k N (defScope st) :=
      ⟨hr, rfl, takes_of rfl rfl rfl rfl, S.nd, rfl, rfl, rfl, rfl, rfl, rfl, fun x hx => hx, fun x hx => hx, fun x hx => hx, S.kind, fun x hx => hx, fun sc own hb => blkOk_by hb, passes_of rfl, fun x hx => .inl rfl⟩
    have s0 : Slots M.K (addOwn own x) H (L2.start N (.ref x :: ws)) (startS N (.opq (.ref x) :: ds)) := slots_start ⟨_, _, rfl, rfl, r⟩
    have h0 : (L2.start N (.ref x :: ws))[0]? = some (some (.ref x)) := rfl
    have s1 := s0.tell (s := .ins x C []) startS_has h0 ⟨dx, [], rfl, addOwn_self, he, rfl⟩
    refine h x ds P PX hl hF _ _ c (but x H) own (addOwn own x) _ _ H ⟨fun a z => addOwn_old z, fun a z => ?_, fun a z1 z2 => ?_, but_ex, s1, fun i s l a b => ?_⟩
      ⟨fun own' σ' H' δ' ⟨fs, p0, p⟩ o' => ?_, fun _ _ _ _ _ _ z => z.elim, fun _ _ _ _ z _ => z.elim, fun _ _ _ _ z _ => z.elim, fun own' σ' H' δ' o' => ?_⟩
    · by_cases hz : a = x
      · subst hz; rw [he]; exact fun z => nomatch z
      · refine ow a ?_
        unfold addOwn at z
        simpa [hz] using z
    · have : a = x := by
        unfold addOwn at z1
        simpa [z2] using z1
      subst this
      exact if_pos rfl
    · have e := (start_own0 (o0 := own) (σ := L2.start N (.ref x :: ws)) (N := N) (ds := .opq (.ref x) :: ds)).chg 0 (x' := some (.ref x)) (s' := .ins x C []) fun x0 l' z y => by
        have z : x0 = some (V.ref l') := z
        subst z
        rcases y with y | y
        · cases y
        · cases y
          exact hx
      rw [set_same h0] at e
      exact e i s l a b
    · obtain ⟨y, dx', es, rfl, y2, y3, y4⟩ := o'.sl.any p0
      exact hq fs es dx' H' p o'.ex y3 (y4.mono (mask_mono o'.sub))
    · exact ⟨fun c' p H2 e => hw.pl c' p H2 (o'.ex.trans e), fun c' fs p H2 d es e h1 r => hw.fl c' fs p H2 d es (o'.ex.trans e) (mask_mono o'.sub _ _ h1) (r.mono (mask_mono o'.sub))⟩
theorem fn_okD {dvs : List V} {kws : List (Str × V)} {M : Md} {y qual : Str} {st : Stmt} {f : Addr} {fd : FuncData} {N ps : List Str} {k n : Nat} {F : Phi} (G : FunD M.K y qual (defArgs st) (defBody st) (defScope st) dvs kws f fd) (S : FnScope N ps (defScope st)) (hn : ps.length = n)
    (h : ∀ ds P PX, ds.length = n → F ds P PX → ∀ X W, Ct M X W k N (defScope st) → DSs X W (defBody st) (startS N ds) (fun _ => P .non) (fun d _ => P d) (fun _ => False) (fun _ => False) (fun x _ => PX x)) :
    FnOk M.P M.w M.K M.mg M.base (L2.CX M.P M.w) (k + 1) f fd ps (spD M.K n F) := by
  refine G.ok (CX := L2.CX M.P M.w) S (fun vs H Q E hh => ?_) (fun cdv A outer s H vs Q E hr hh => ?_)
  · obtain ⟨own, ds, P, PX, _, r, hl, _⟩ := hh
    rw [r.length, hl, hn]
  · obtain ⟨own, ds, P, PX, ow, r, hl, hF, hq, hw⟩ := hh
    refine ⟨_, pss_sem, ?_⟩
    have c : Ct M (cxOf (L2.CX M.P M.w) M.P M.w M.K M.mg M.base N qual (defScope st) f cdv A outer s H E) (fun cls d _ H => E cls d H) k N (defScope st) :=
      ⟨hr, rfl, takes_of rfl rfl rfl rfl, S.nd, rfl, rfl, rfl, rfl, rfl, rfl, fun x hx => hx, fun x hx => hx, fun x hx => hx, S.kind, fun x hx => hx, fun sc own hb => blkOk_by hb, passes_of rfl, fun x hx => .inl rfl⟩
    exact h ds P PX hl hF _ _ c H own own _ _ H ⟨fun a z => z, ow, fun a h1 h2 => absurd (h1.symm.trans h2) (by decide), Ex.refl H, slots_start r, start_own0⟩
      ⟨fun own' σ' H' δ' p o' => hq .non .non H' p o'.ex rfl, fun own' σ' H' δ' d v p o' r => hq d v H' p o'.ex (r.mono (mask_mono o'.sub)), fun _ _ _ _ z _ => z.elim, fun _ _ _ _ z _ => z.elim,
        fun own' σ' H' δ' o' => ⟨fun c' p H2 e => hw.pl c' p H2 (o'.ex.trans e), fun c' fs p H2 d es e h1 r => hw.fl c' fs p H2 d es (o'.ex.trans e) (mask_mono o'.sub _ _ h1) (r.mono (mask_mono o'.sub))⟩⟩
theorem fund_mk {K : PySem.W.Frag} {x qual : Str} {st : Stmt} {f T : Addr} {oc : Value} {od an : Option Addr} {osl : Array (Option Value)} {kV doc pm cdv ct : Value} {oT : Obj} {dvs : List V} {its : List Value} (l : K.lookup f = some ⟨oc, od, .func (PySem.W.fnOf x qual (defArgs st) (defBody st) (defScope st) (.ref T) kV doc pm an cdv ct), osl⟩)
    (c : PySem.W.codeIn K cdv qual = true) (k : PySem.W.keepIn K (.ref f) = true) (lT : K.lookup T = some oT) (dT : ∃ n, oT.data = .seq its.toArray n) (ne : dvs ≠ []) (r : Vals dvs its) : FunD K x qual (defArgs st) (defBody st) (defScope st) dvs [] f (PySem.W.fnOf x qual (defArgs st) (defBody st) (defScope st) (.ref T) kV doc pm an cdv ct) := by
  obtain ⟨n, dT⟩ := dT
  exact ⟨⟨oc, od, _, kV, doc, pm, an, cdv, ct, osl, rfl, l, c, .inr ⟨ne, T, oT, its, n, rfl, lT, dT, r⟩, .inl rfl⟩, k⟩
end
end PV

set_option Elab.async false
set_option linter.all false
set_option maxRecDepth 100000
set_option maxHeartbeats 4000000
/-! PV20: a caught exception that is kept -/
namespace PV
open PySem PySem.Spec PyProof.Rows L2
section
variable {X : Cx} {pins : List (Addr × Obj)} {σ : L2.St} {H : Hp} {s : Shared}
theorem Xcx.base0 (I : L2.Inv X pins σ H s) (hex : X.ex = []) {a : Addr} (n : s.heap.get? a = none) : X.s_0.heap.get? a = none := by
  cases q : X.s_0.heap.get? a with
  | none => rfl
  | some o =>
    obtain ⟨o2, q2⟩ := I.base.there a o q (by rw [hex]; exact fun z => nomatch z)
    rw [n] at q2; cases q2
/-- what an address must be, so that it may be tracked from now on -/
structure Apart (X : Cx) (pins : List (Addr × Obj)) (a : Addr) : Prop where
  zero : X.s_0.heap.get? a = none
  loc : a ≠ X.env.locals
  cel : ∀ x c, X.env.cells.lookup x = some c → c ≠ a
  pin : ∀ p ∈ X.pn ++ pins, p.1 ≠ a
theorem Apart.of (I : L2.Inv X pins σ H s) (hex : X.ex = []) {a : Addr} (n : s.heap.get? a = none) : Apart X pins a := by
  have no : ∀ b o, s.heap.get? b = some o → b ≠ a := fun b o e z => by rw [z, n] at e; cases e
  refine ⟨Xcx.base0 I hex n, fun z => ?_, fun x c e => ?_, fun p hp => ?_⟩
  · obtain ⟨m, ⟨o, _, _, e, _⟩, _⟩ := I.loc
    exact no _ o e z.symm
  · obtain ⟨v, o, e2, _⟩ := I.cell x c e
    exact no c o e2
  · exact no p.1 p.2 (I.pin p hp).1
theorem Inv.track (I : L2.Inv X pins σ H s) {a : Addr} {u : HO} (f : Apart X pins a) (na : H a = none) (ok : ObjOk X.prog X.w (upd H a u) s.heap a u) : L2.Inv X pins σ (upd H a u) s := by
  have ne : ∀ b o, H b = some o → b ≠ a := fun b o e z => by rw [z, na] at e; cases e
  have nz : ∀ b o, X.s_0.heap.get? b = some o → b ≠ a := fun b o e z => by rw [z, f.zero] at e; cases e
  have B := I.base
  refine ⟨I.ok, I.os, I.bare, ⟨B.keep, B.slot, fun b o e n hx => ?_, B.there, fun b xs e => ?_, fun b o v e => ?_, fun b ps e => ?_⟩, I.loc, I.cell, ?_, fun x c e => ?_, fun p hp => ?_, fun b o e => ?_, I.len⟩
  · rw [upd_ne (nz b o e)]; exact B.free b o e n hx
  · have z := B.tups b xs e
    rw [upd_ne (ne _ _ z)]; exact z
  · have z := B.frzs b o v e
    rw [upd_ne (ne _ _ z)]; exact z
  · obtain ⟨more, z⟩ := B.tbls b ps e
    exact ⟨more, by rw [upd_ne (ne _ _ z)]; exact z⟩
  · rw [upd_ne (Ne.symm f.loc)]; exact I.free
  · rw [upd_ne (f.cel x c e)]; exact I.freeC x c e
  · obtain ⟨p1, p2, p3⟩ := I.pin p hp
    exact ⟨p1, by rw [upd_ne (f.pin p hp)]; exact p2, p3⟩
  · by_cases hb : b = a
    · subst hb
      rw [upd_same] at e
      cases e
      exact ok
    · rw [upd_ne hb] at e
      exact (I.hok b o e).stay (fun _ _ _ q => q) (fun c q => by rw [upd_ne (ne _ _ q)]; exact q) fun c xs q => by rw [upd_ne (ne _ _ q)]; exact q
def excOf (a : Addr) (cls : Value) (d : Option Addr) : HO := .ext fun h => ∃ oe, h.get? a = some oe ∧ oe.cls = cls ∧ oe.dict = d ∧ ∃ vs, oe.data = .fields vs
theorem excOf_ok {P : Program} {w : World} {H : Hp} {h : Heap} {a : Addr} {cls : Value} {d : Option Addr} {oe : Obj} {vs : Array Value} (e : h.get? a = some oe) (z : Zc cls d oe) (k : oe.data = .fields vs) : ObjOk P w H h a (excOf a cls d) :=
  ⟨⟨oe, e, z.1, z.2, vs, k⟩, ⟨oe, e⟩, fun h1 h2 ⟨o, q1, q2⟩ k2 => ⟨o, k2 o q1, q2⟩⟩
/-- the except clause's wish where the exception is kept -/
def wKeep (K : Fr) (c : Value) (z i : Nat) (ts : Addr → TS) (Wout : WX) (D : Ends) : WX := fun cls d σ H => σ.length = z →
  ∃ b, PySem.W.exmOne K cls c = some b ∧
    (b = true → ∀ a, H a = none → ts a ⟨fun σ' H' => D.nx (σ'.set i none) H', D.rt, fun σ' H' => D.bk (σ'.set i none) H', fun σ' H' => D.ct (σ'.set i none) H'⟩ (σ.set i (some (.ref a))) (upd H a (excOf a cls d))) ∧
    (b = false → Wout cls d σ H)
end
section
variable {X : Cx} {x n : Str} {c : Value} {i : Nat} {body suite : List Stmt} {b₀ : Stmt} {np pos pos' : Pos} {tb : WX → TS} {ts : Addr → TS} {Wout : WX}
theorem ps_try_keep (fb : FnB X) (hN : X.N.Nodup) (hi : X.N[i]? = some n) (hln : X.env.kindOf n = some .local) (hc : Names X x c) (tk : Takes X Wout)
    (hb : ∀ W pn xe, Takes (X.tr pn xe) W → PassesOwn (model X.prog X.w) X.A X.env xe → PSs (X.tr pn xe) body (tb W))
    (hsu : ∀ a pn, PSs (X.suite a pn) (b₀ :: suite) (ts a)) :
    PS X (.Try body [.ExceptHandler (some (.Name x np)) (some n) (b₀ :: suite) pos'] [] [] pos) (fun D σ H => tb (wKeep X.K c X.N.length i ts Wout D) D σ H) := by
  refine ⟨fun pins s σ H D I q0 => ?_⟩
  have ok := I.ok
  have frm : X.A.frames = some (X.env :: X.outer) := ok.frames.trans (congrArg some fb.stk)
  have lc : Loc X.env.scope n := Or.inl hln
  let hds : List ExceptHandler := [.ExceptHandler (some (.Name x np)) (some n) (b₀ :: suite) pos']
  let look : Value → Shared → Prop := fun v t =>
    wpAny (model X.prog X.w) X.A (noteFrame v X.env) (fun _ t2 =>
      wpAny (model X.prog X.w) X.A (setFlight v none) (fun _ t3 =>
        wpAny (model X.prog X.w) X.A (handleBy v X.env hds) (SP X pins D) X.xe t3) X.xe t2) X.xe t
  have caught : ∀ v t, XE (X.tr (X.pn ++ pins) look) (wKeep X.K c X.N.length i ts Wout D) v t → look v t := by
    rintro v t ⟨a, B, t0, pins', σ', H', cls, d, rfl, J', inB, up, sky, na, hos, hag, wish⟩
    obtain ⟨b, hb1, yes, no⟩ := wish J'.len
    have J : L2.Inv X pins σ' H' t0 := J'.ofTry ok
    have sk : Sky B (X.env :: X.outer) a (Zc cls d) X.env.locals t.heap := by
      have z : X.stack = X.env :: X.outer := fb.stk
      rw [← z]; exact sky
    show wpAny (model X.prog X.w) X.A (noteFrame (.ref a) X.env) _ _ _
    refine Sky.land Zc.steady frm fb.fr sk fun g3 fly3 u3 => ?_
    obtain ⟨e3, w3, get3, z3, dat3⟩ := fly3.there
    have J3 : L2.Inv X pins σ' H' { t with heap := g3 } := J.landed inB fly3.1 (up.trans u3) hos hag
    have notF : a ∉ frs (X.env :: X.outer) := fun hm => by
      obtain ⟨_, o', eq', nf⟩ := fly3.2.2.1.mem hm
      cases get3.symm.trans eq'
      exact nf _ dat3
    have n0 : t0.heap.get? a = none := by
      cases q : t0.heap.get? a with
      | none => rfl
      | some o =>
        have z := inB a o q (by rw [fb.stk]; exact notF)
        rw [fly3.2.1] at z; cases z
    have ap : Apart X pins a := Apart.of J fb.ex n0
    have T3 := Inv.track J3 ap na (excOf_ok (H := upd H' a (excOf a cls d)) get3 z3 dat3)
    have S3 : L2.Inv (X.suite a (X.pn ++ pins)) [] σ' (upd H' a (excOf a cls d)) { t with heap := g3 } :=
      ⟨ok.suite _ _, T3.os, T3.bare, T3.base, T3.loc, T3.cell, T3.free, T3.freeC, fun p hp => T3.pin p (by simpa using hp), T3.hok, T3.len⟩
    refine wpAny_handleBy_cons (codeAny_handlers_test ?_) (fun q => nomatch q)
    have lt : PySem.W.Looks (model X.prog X.w) g3 (typeOf (.ref a)) cls := fun _ _ _ _ k q => wpAny_typeOf_ref (k _ _ get3) (by rw [z3.1]; exact q)
    have lm := PySem.W.exm_one (M := model X.prog X.w) J3.kIn lt hb1
    have name : ∀ {Q : Value → Shared → Prop} {E : Value → Shared → Prop}, Q c { t with heap := g3 } → wpAny (model X.prog X.w) (X.A.mark (some (.ref a))) (eval (.Name x np) X.env) Q E { t with heap := g3 } := by
      intro Q E q
      obtain ⟨g1, g2, m1 | ⟨m1, m2, m3⟩⟩ := hc
      · exact ld_glob (X := X.suite a (X.pn ++ pins)) S3 g1 m1 q g2
      · exact ld_blt (X := X.suite a (X.pn ++ pins)) S3 g1 m1 m2 q m3 g2
    refine name (lm.here ?_)
    cases b with
    | true =>
      refine codeAny_handlers_suite_as (HandSPX.lands_againZ fly3 fun g4 fly4 u4 => ?_)
      obtain ⟨e4, w4, get4, z4, dat4⟩ := fly4.there
      have J4 : L2.Inv X pins σ' H' { t with heap := g4 } := J.landed inB fly4.1 ((up.trans u3).trans u4) hos hag
      have T4 := Inv.track J4 ap na (excOf_ok (H := upd H' a (excOf a cls d)) get4 z4 dat4)
      have S4 : L2.Inv (X.suite a (X.pn ++ pins)) [] σ' (upd H' a (excOf a cls d)) { t with heap := g4 } :=
        ⟨ok.suite _ _, T4.os, T4.bare, T4.base, T4.loc, T4.cell, T4.free, T4.freeC, fun p hp => T4.pin p (by simpa using hp), T4.hok, T4.len⟩
      have back : ∀ {σ6 : L2.St} {H6 : Hp} {t6 : Shared}, L2.Inv (X.suite a (X.pn ++ pins)) [] σ6 H6 t6 → L2.Inv X pins σ6 H6 t6 := fun V =>
        ⟨ok, V.os, V.bare, V.base, V.loc, V.cell, V.free, V.freeC, fun p hp => V.pin p (by simpa using hp), V.hok, V.len⟩
      refine store_ok (X := X.suite a (X.pn ++ pins)) (v := .ref a) S4 hN hi lc rfl (fun t5 S5 => ?_) (.inr hln)
      refine wpAny_mono ((hsu a (X.pn ++ pins)).run [] t5 _ _ _ S5 (yes rfl a na)) (fun f t6 fin => ?_) (fun _ _ z => z.elim)
      have gone : ∀ {σ6 : L2.St} {H6 : Hp} {Q : Shared → Prop}, L2.Inv (X.suite a (X.pn ++ pins)) [] σ6 H6 t6 → (∀ t7, L2.Inv X pins (σ6.set i none) H6 t7 → Q t7) →
          wpAny (model X.prog X.w) X.A (do bindName X.env n .none; unbindBehindTheSuite X.env n pos') (fun _ t7 => Q t7) X.xe t6 := fun V hq => gone_ok (back V) hN hi hln hq
      cases f with
      | next => obtain ⟨_, _, V, q⟩ := fin; exact gone V fun _ V7 => ⟨_, _, V7, q⟩
      | brk => obtain ⟨_, _, V, q⟩ := fin; exact gone V fun _ V7 => ⟨_, _, V7, q⟩
      | cont => obtain ⟨_, _, V, q⟩ := fin; exact gone V fun _ V7 => ⟨_, _, V7, q⟩
      | ret u => obtain ⟨_, _, _, V, r, q⟩ := fin; exact gone V fun _ V7 => ⟨_, _, _, V7, r, q⟩
    | false =>
      show wpAny (model X.prog X.w) X.A (handleBy (.ref a) X.env []) _ _ _
      refine wpAny_handleBy_nil ?_
      obtain ⟨_, _, _, oe, vs, T, oT, ts', he, hz, hd, h1, hr⟩ := id fly3
      unfold PySem.passOn
      refine wpAny_bind (wpAny_field he hd h1 ?_)
      have nn : ¬ ((Value.ref T == Value.none) = true) := by simp
      rw [if_neg nn]
      have out : wpAny (model X.prog X.w) X.A (setFlight (.ref a) X.env.frame) (fun _ t4 => wpAny (model X.prog X.w) X.A (throw (.ref a) : Sem Flow) (SP X pins D) X.xe t4) X.xe { t with heap := g3 } := by
        rw [fb.fr]
        refine HandSPX.setFlight_upZ fly3 fun g4 held4 u4 => wpAny_throw (tk _ _ ?_)
        refine ⟨a, B, t0, pins, σ', H', cls, d, rfl, J, inB, (up.trans u3).trans u4, ?_, na, hos, hag, no rfl⟩
        rw [fb.stk]
        exact .inr (.inr held4)
      first
        | exact wpAny_bind (wpAny_pure (wpAny_bind out))
        | exact wpAny_bind out
  refine wpAny_Try_except ?_
  have run := (hb (wKeep X.K c X.N.length i ts Wout D) (X.pn ++ pins) look caught PassesOwn.looking).run [] s σ H D (I.toTry _) q0
  refine wpAny_mono run (fun f t fin => ?_) (fun _ _ z => z)
  cases f with
  | next => obtain ⟨_, _, V, q⟩ := fin; exact wpAny_execs_nil ⟨_, _, V.ofTry ok, q⟩
  | brk => obtain ⟨_, _, V, q⟩ := fin; exact ⟨_, _, V.ofTry ok, q⟩
  | cont => obtain ⟨_, _, V, q⟩ := fin; exact ⟨_, _, V.ofTry ok, q⟩
  | ret u => obtain ⟨_, _, _, V, r, q⟩ := fin; exact ⟨_, _, _, V.ofTry ok, r, q⟩
end
def Xd.cls : Xd → Value
  | .plain c => c
  | .flds c _ => c
/-- an exception of an own class, as data -/
def Xd.dat : Xd → D
  | .plain (.ref C) => .exc C false []
  | .flds (.ref C) fs => .exc C true fs
  | _ => .non
theorem set3 {α : Type} (l : List α) (i j : Nat) (a b c : α) : ((l.set i a).set j b).set i c = (l.set j b).set i c := by
  by_cases h : i = j
  · subst h; simp
  · rw [List.set_comm _ _ h, List.set_set]
section
variable {M : Md} {X : Cx} {W : WX} {k : Nat} {Nm : List Str} {sc : Scope} {δ δ' δ1 : List Slot} {N : List Slot → Prop} {R : D → List Slot → Prop} {B C : List Slot → Prop} {PX : Xd → List Slot → Prop} {body : List Stmt} {pos p1 p2 p3 np pos' : Pos} {x n y : Str}
/-- try: body, except x as n: y = n -/
theorem ds_tryKeep (c : Ct M X W k Nm sc) (fb : FnB X) {i j : Nat} {CC : Addr} (hn : Nm[i]? = some n) (hln : sc.names.lookup n = some .local) (hy : Nm[j]? = some y) (hyl : sc.names.lookup y = some .local) (hg : GlS sc x) (hm : M.mg x = some (.ref CC))
    (hb : ∀ X' W', Ct M X' W' k Nm sc → FnB X' → DSs X' W' body δ N R B C (fun xd δx => ∃ E, xd.cls = .ref E ∧ ∃ b, PySem.W.exmOne M.K (.ref E) (.ref CC) = some b ∧ (b = true → N ((δx.set j (.val xd.dat)).set i .no)) ∧ (b = false → PX xd δx)))
    (hdb : (x == ("__debug__" : Str)) = false := by decide) (hd : (n == ("__debug__" : Str)) = false := by decide) (hcd : (n == ("__classdict__" : Str)) = false := by decide)
    (hs : ∀ X' : Cx, swapsWith (.Name n p2) (some (.Name y p1)) p3.line X'.env = pure false := by intro _; rfl) : DS X W (.Try body [.ExceptHandler (some (.Name x np)) (some n) [.Assign [.Name y p1] (.Name n p2) p3] pos'] [] [] pos) δ N R B C PX := by
  intro Hb o0 own D' σ H o g
  have hnX : X.N[i]? = some n := by rw [c.hN]; exact hn
  have hyX : X.N[j]? = some y := by rw [c.hN]; exact hy
  have nm : Names X x (.ref CC) := ⟨c.gl _ hg, hdb, .inl (by rw [c.hmg]; exact hm)⟩
  refine sem_ps (ps_try_keep (tb := fun W1 D1 σ1 H1 => ∀ pn xe, Takes (X.tr pn xe) W1 → PassesOwn (model X.prog X.w) X.A X.env xe → semSs (X.tr pn xe) body D1 σ1 H1) (ts := fun _ => tAsg (tVar i) (gName j)) fb c.nd hnX (c.lcl _ hln) nm c.tk
    (fun W1 pn xe tk1 po1 => ⟨fun pins s σ1 H1 D1 I q => q pn xe tk1 po1 pins s I⟩) fun a pn => pss_one (ps_set (X := X.suite a pn) c.nd hyX (.inl (c.lcl _ hyl)) (pe_var (X := X.suite a pn) hnX (c.vis _ (.inl hln)) hd hcd) (hs _) (.inr (c.lcl _ hyl)))) ?_
  intro pn xe tk1 po1
  have c1 : Ct M (X.tr pn xe) (wKeep X.K (.ref CC) X.N.length i (fun _ => tAsg (tVar i) (gName j)) W D') k Nm sc :=
    ⟨c.room, c.calm, tk1, c.nd, c.hP, c.hw, c.hK, c.hmg, c.hb, c.hN, c.gl, c.vis, c.lcl, c.kind, c.loc, c.blk, po1, c.fn⟩
  refine hb (X.tr pn xe) _ c1 ⟨fb.stk, fb.fr, fb.ex⟩ Hb o0 own D' σ H o ⟨g.nx, g.rt, g.bk, g.ct, fun own' σ' H' δx o' => ?_⟩
  have key : ∀ (xd : Xd) (H2 : Hp) (dd : Option Addr), (∃ E, xd.cls = .ref E ∧ ∃ b, PySem.W.exmOne M.K (.ref E) (.ref CC) = some b ∧ (b = true → N ((δx.set j (.val xd.dat)).set i .no)) ∧ (b = false → PX xd δx)) → Ex H' H2 →
      (∀ a (H3 : Hp), H2 a = none → H3 = upd H2 a (excOf a xd.cls dd) → Rep X.K (mask own' H3) xd.dat (.ref a)) → (PX xd δx → W xd.cls dd σ' H2) →
      wKeep X.K (.ref CC) X.N.length i (fun _ => tAsg (tVar i) (gName j)) W D' xd.cls dd σ' H2 := by
    rintro xd H2 dd ⟨E, hE, b, hb1, yes, no⟩ e2 rep out hz
    refine ⟨b, by rw [hE, c.hK]; exact hb1, fun hbt a ha => ?_, fun hbf => out (no hbf)⟩
    have hil : i < σ'.length := by rw [hz]; exact (List.getElem?_eq_some_iff.mp hnX).1
    refine ⟨.ref a, by rw [List.getElem?_set_self hil], ?_⟩
    show D'.nx (((σ'.set i (some (.ref a))).set j (some (.ref a))).set i none) _
    rw [set3]
    have e3 : Ex H' (upd H2 a (excOf a xd.cls dd)) := e2.trans (Ex.new ha)
    have o3 := o'.mono e3
    refine g.nx own' _ _ _ (yes hbt) ⟨o3.sub, o3.ow, o3.mine, o3.ex, (o3.sl.put j (rep a _ ha rfl)).drop i none, Own0.drop (Own0.put o3.acc j) i none⟩
  have nm : ∀ {H2 : Hp} {a : Addr}, Ex H' H2 → H2 a = none → own' a = false := fun {H2 a} e2 ha => by
    cases z : own' a with
    | false => rfl
    | true => exact absurd (e2.free ha) (o'.ow a z)
  refine ⟨fun cc p H2 e2 => ?_, fun cc fs p H2 d es e2 hd2 hr => ?_⟩
  · refine key (.plain cc) H2 none p e2 (fun a H3 ha h3 => ?_) fun q => (g.px own' σ' H' δx o').pl cc q H2 e2
    obtain ⟨E, hE, _⟩ := p
    have hE : cc = .ref E := hE
    subst hE h3
    refine ⟨a, rfl, .inl ⟨rfl, ?_⟩⟩
    show mask own' (upd H2 a (excOf a (.ref E) none)) a = some (excHO a E none)
    unfold mask
    rw [nm e2 ha, if_neg Bool.false_ne_true]
    exact upd_same
  · refine key (.flds cc fs) H2 (some d) p e2 (fun a H3 ha h3 => ?_) fun q => (g.px own' σ' H' δx o').fl cc fs q H2 d es e2 hd2 hr
    obtain ⟨E, hE, _⟩ := p
    have hE : cc = .ref E := hE
    subst hE h3
    have ex3 : Ex (mask own' H2) (mask own' (upd H2 a (excOf a (.ref E) (some d)))) := mask_ex (Ex.new ha)
    refine ⟨a, rfl, .inr ⟨rfl, d, es, ?_, ex3 _ _ hd2, hr.mono ex3⟩⟩
    unfold mask
    rw [nm e2 ha, if_neg Bool.false_ne_true]
    exact upd_same
end
end PV

set_option Elab.async false
set_option linter.all false
set_option maxRecDepth 100000
set_option maxHeartbeats 4000000
/-! PV21: exceptions asked, raised, let out by methods; lists counted and searched -/
namespace PV
open PySem PySem.Spec PyProof.Rows L2
/-- isinstance of a kept exception without fields -/
def rIsK (K : Fr) : List V → Hp → VK → Prop := fun xs H Q => ∃ (a E : Addr) (cc : V) (cv : Value) (b : Bool), xs = [.ref a, cc] ∧ H a = some (excHO a E none) ∧ ExcC K E ∧ (∀ u, RelV cc u → u = cv) ∧ PySem.W.kitOne K (.ref E) cv = some b ∧ Q (.bl b) H
theorem call_isK {X : Cx} : CallR X (.builtin "isinstance") (rIsK X.K) := by
  intro pins s σ H xs us Q I r h
  obtain ⟨a, E, cc, cv, b, rfl, hH, C, hcv, e, q⟩ := h
  cases r with
  | cons rx rr =>
    cases rr with
    | cons rt rr =>
      cases rr
      cases rx
      have ec := hcv _ rt
      subst ec
      obtain ⟨⟨oe, g1, g2, g3, vs, g4⟩, _⟩ := I.hok a _ hH
      have J : PySem.W.InstAt s.heap a oe E none := by
        obtain ⟨oc, od, oda, osl⟩ := oe
        dsimp only at g2 g3 g4
        subst g2 g3 g4
        exact ⟨g1, rfl, rfl, trivial⟩
      refine PySem.W.kia_one (PySem.W.handS_kitx_exc C.hg C.hk C.hs C.hd C.ha C.hn C.ht C.hm) I.kIn J e (fun z => nomatch z) fun tk => ?_
      exact ⟨.bl b, H, I.tok tk, rfl, q⟩
section
variable {M : Md} {X : Cx} {W : WX} {k : Nat} {Nm : List Str} {sc : Scope} {δ δ' δ1 : List Slot} {P : D → Prop} {PX : Xd → Prop} {e a b d2 o : Expr} {es : List Expr} {pos p apos : Pos} {x m : Str} {K : Fr}
/-- what is known of isinstance(e, C) for e of the class E -/
structure IsK (M : Md) (E : Addr) (cv : V) (b : Bool) : Prop where
  c : ExcC M.K E
  k : ∃ v : Value, (∀ u, RelV cv u → u = v) ∧ PySem.W.kitOne M.K (.ref E) v = some b
theorem de_isiE {p2 : Pos} (c : Ct M X W k Nm sc) (hg : GlS sc "isinstance") (hm : Bi M "isinstance")
    (h : DR X W e δ (fun d => DE X W b δ (fun t => ∃ E cv r, d = .exc E false [] ∧ t = .opq cv ∧ IsK M E cv r ∧ P (.bl r)) PX) PX)
    (he : starEach [e, b] X.env = (false, eval e X.env) :: starEach [b] X.env := by rfl) (he2 : starEach [b] X.env = (false, eval b X.env) :: starEach [] X.env := by rfl) (hpl : (backTo pos (starEach [b] X.env)).any (·.1) = false := by rfl) :
    DE X W (.Call (.Name "isinstance" p) [e, b] [] pos) δ P PX := by
  refine de_callBR c call_isK hg hm (by decide +kernel) ?_ (by decide) (by decide) he hpl
  refine dar_cons ?_ he
  refine h.imp fun d hd => ?_
  refine dar_cons (dr_of (hd.imp fun t ht => dar_nil ?_)) he2
  obtain ⟨E, cv, r, rfl, rfl, ⟨C, v, hv, hk⟩, pr⟩ := ht
  intro vs H Q rr q
  obtain ⟨v1, v2, rfl, ⟨aa, rfl, ha | ha⟩, rb⟩ := rr.vals2
  · obtain rfl : v2 = cv := rb
    refine ⟨aa, E, v2, v, r, rfl, ha.2, by rw [c.hK]; exact C, hv, by rw [c.hK]; exact hk, q (.bl r) _ H rfl pr (Ex.refl H) rfl⟩
  · exact (Bool.false_ne_true ha.1).elim
/-- the class of one's own, as a thing -/
def ClD (M : Md) (x : Str) (C : Addr) : Prop := M.mg x = some (.ref C)
theorem de_cls {C : Addr} (c : Ct M X W k Nm sc) (g : ClD M x C) (hg : GlS sc x) (p : P (.opq (.ref C))) (hd : (x == ("__debug__" : Str)) = false := by decide) : DE X W (.Name x pos) δ P PX :=
  de_glob (d := .opq (.ref C)) c ⟨.ref C, .ref C, g, rfl, fun _ => rfl⟩ hg p hd
/-! raise -/
structure EX (M : Md) (x : Str) (C : Addr) : Prop where
  ml : M.mg x = some (.ref C)
  ex : PySem.W.excIn M.K C [.type "ValueError", .type "Exception", .type "BaseException", .type "object"] "ValueError.__new__" = true
  kp : PySem.W.keepIn M.K (.ref C) = true
  sb : PySem.W.subIn M.K (.ref C) (.type "BaseException") = some true
  ty : PySem.W.typeIn M.K (.ref C) = some (.type "type")
theorem ds_raise {C : Addr} {j : Nat} {t : Str} {p1 p2 p3 : Pos} {N : List Slot → Prop} {R : D → List Slot → Prop} {B C' : List Slot → Prop} {PX : Xd → List Slot → Prop} (c : Ct M X W k Nm sc) (h : EX M x C) (hg : GlS sc x) (q : PX (.plain (.ref C)) δ) (hdb : (x == ("__debug__" : Str)) = false := by decide) :
    DS X W (.Raise (some (.Call (.Name x p1) [.Constant (.str t) j p2] [] p3)) none pos) δ N R B C' PX := fun Hb o0 own D' σ H o g => by
  obtain ⟨h1, h2, h3, h4, h5⟩ := h
  rw [← c.hK] at h2 h3 h4 h5
  rw [← c.hmg] at h1
  refine sem_ps (ps_raise c.calm c.tk (pmk_own PySem.F.excBase_ValueError h2 h1 h3 (raises_own h4 h5) (c.gl _ hg) hdb)) ?_
  exact (o.sy g).wi.pl (.ref C) q H (Ex.refl H)
/-! methods -/
theorem de_methX {j n : Nat} {F : Phi} {C : Addr} (c : Ct M X W k Nm sc) (f : MethOk M C j m n F) (cl : Cls M.K C) (hj : j ≤ k) (h : DE X W o δ (fun x => ∃ fs, x = .obj C fs ∧ fs.lookup m = none ∧ DA X W (e :: es) δ (fun ds => ds.length + 1 = n ∧ F (x :: ds) P PX) PX) PX) {pl : Sem Bool}
    (hst : starEach (e :: es) X.env = (false, eval e X.env) :: starEach es X.env := by rfl) (hpl : (backTo pos (starEach es X.env)).any (·.1) = false := by rfl)
    (ht : eval (.Call (.Attribute o m apos) (e :: es) [] pos) X.env = (do
      let ov ← eval o X.env
      standAt apos.atName
      let (f, first) ← holding [ov] (getMethod ov m pl)
      callWith pos f first (backTo pos (starEach (e :: es) X.env)) (backToKw pos (keywordEach [] X.env))) := by rfl) : DE X W (.Call (.Attribute o m apos) (e :: es) [] pos) δ P PX := by
  obtain ⟨fa, fd, ps, G, hm, hb⟩ := f.ex
  rw [← c.hK] at cl hm hb
  rw [← c.hP, ← c.hw, ← c.hK, ← c.hmg, ← c.hb] at G
  intro σ H own Q S q pins s I
  -- the receiver, then the arguments, then the call
  have h1 : semE X o σ H fun v H1 => ∃ (l dx : Addr) (es' : List (Str × V)), v = .ref l ∧ H1 l = some (.ins C dx es') ∧ es'.lookup m = none ∧ semA X (e :: es) σ H1 fun vs H2 => spD X.K n F (.ref l :: vs) H2 Q (fun cls d H => W cls d σ H) := by
    refine h σ H own _ S fun x v H1 ⟨fs, hx, hl, h2⟩ e1 r => ?_
    subst hx
    have r0 := r
    obtain ⟨l, dx, es', rfl, g1, g2⟩ := r
    refine ⟨l, dx, es', rfl, mask_le _ _ g1, g2.lookupN hl, ?_⟩
    refine h2 σ H1 own _ (S.mono e1) fun ds vs H2 ⟨hn, hF⟩ e2 r2 => ?_
    exact ⟨own, .obj C fs :: ds, P, PX, (S.mono (e1.trans e2)).ow, ⟨_, _, rfl, r0.mono (mask_ex e2), r2⟩, by rw [List.length_cons]; exact hn, hF, fun d v H' p e3 r3 => q d v H' p ((e1.trans e2).trans e3) r3, (S.mono (e1.trans e2)).wi⟩
  refine PySem.W.methodCall_KW (pl := pl) (thn (h1 pins s I) fun u s1 ⟨v, H1, I1, rx, l, dx, es', hv, ea, hl, q1⟩ => ?_) ht
  subst hv
  obtain rfl : u = Value.ref l := rx
  refine getmeth_ok I1 ea cl hm hl ?_
  refine PySem.W.callWith_K (first := [.ref l]) (h₀ := X.base) I.ok.mod.kin hm.kp (thn (q1 pos pins s1 I1) fun us s2 ⟨vs, H2, I2, r, q2⟩ => ⟨I2.kIn, ?_⟩) hst hpl
  exact run_fnS (E := fun σ cls d H => W cls d σ H) (us := .ref l :: us) (vs := .ref l :: vs) G (c.room.mono hj) hb (passAt c.tk σ) I2 (.cons rfl r) q2
/-- what C() promises, with the values of the parameters that may lack -/
structure MkOkD (M : Md) (C : Addr) (j n : Nat) (F : PhiI) (dv : List D) : Prop where
  ex : ∃ f fd ps us vs, FnOk M.P M.w M.K M.mg M.base (L2.CX M.P M.w) j f fd ps (spI M.K C n F) ∧ Mk M.K C f ∧ Binds M.K fd ps us ∧ Vals vs us ∧ ∀ H, RepL M.K H dv vs
theorem MkOk.d {C : Addr} {j n : Nat} {F : PhiI} (h : MkOk M C j n F) : MkOkD M C j n F [] := by
  obtain ⟨f, fd, ps, G, hM, hb⟩ := h.ex
  exact ⟨f, fd, ps, [], [], G, hM, hb, .nil, fun _ => rfl⟩
theorem make_at {pins : List (Addr × Obj)} {σ : L2.St} {H : Hp} {s : Shared} {Q : VK} {C f : Addr} {fd : FuncData} {ps : List Str} {sp : Sp} {us ds : List Value} {vs dvs : List V} {E : XK} {j : Nat} (mk : Mk X.K C f) (G : FnOk X.prog X.w X.K X.mg X.base (L2.CX X.prog X.w) j f fd ps sp)
    (hr : Room (j + 1) X.A) (hb : Binds X.K fd ps ds) (hd : Vals dvs ds) (out : PassesAt (L2.CX X.prog X.w) X σ E) (I : L2.Inv X pins σ H s) (r : Vals vs us)
    (h : ∀ x dx, H x = none → H dx = none → dx ≠ x → sp (.ref x :: (vs ++ dvs)) (upd (upd H dx (.own x)) x (.ins C dx [])) (fun v H2 => v = .non ∧ Q (.ref x) H2) E) :
    wpAny (model X.prog X.w) X.A (call (.ref C) us) (EP X pins σ Q) X.xe s := by
  let z := s.heap.objs.size
  have hz := h (z + 1) z (I.hok.fresh (Nat.le_succ z)) (I.hok.fresh (Nat.le_refl z)) (Nat.ne_of_lt (Nat.lt_succ_self z))
  have J := Inv.made (C := C) I
  have rr : Vals (V.ref (z + 1) :: (vs ++ dvs)) (Value.ref (z + 1) :: (us ++ ds)) := .cons rfl (r.append hd)
  have len : (Value.ref (z + 1) :: us ++ ds).length = ps.length := (G.len _ _ _ _ hz ▸ rr.length).symm
  have body := G.run _ X.stack _ _ ⟨Value.ref (z + 1) :: us, []⟩ (Value.ref (z + 1) :: (us ++ ds)) _ _ E (hr.make C us []) (J.env0.make C us []) (hb _ (Value.ref (z + 1) :: us) J.kIn len) rr hz
  refine wpAny_call (make_map (f := f) I.kIn mk.makes mk.init (beq_iff_eq.mp mk.fn) (codeAny_mono body fun res s' q => ?_))
  match res, q with
  | .error e, q => exact out pins _ _ e s' J q
  | .ok (.ret u), q =>
    obtain ⟨v, H', I3, rv, ev, q3⟩ := J.after q
    subst ev
    exact ⟨rv, V.ref (z + 1), H', I3, rfl, q3⟩
/-- C(e, ..): also what it refuses -/
theorem de_makeX {j n : Nat} {F : PhiI} {C : Addr} {dv : List D} (c : Ct M X W k Nm sc) (hm : M.mg x = some (.ref C)) (f : MkOkD M C j n F dv) (hj : j + 1 ≤ k) (hg : GlS sc x) (h : DA X W (e :: es) δ (fun ds => (ds ++ dv).length + 1 = n ∧ F (ds ++ dv) (fun fs => P (.obj C fs)) PX) PX)
    (hdb : (x == ("__debug__" : Str)) = false := by decide) (he : starEach (e :: es) X.env = (false, eval e X.env) :: starEach es X.env := by rfl) (hpl : (backTo pos (starEach es X.env)).any (·.1) = false := by rfl) : DE X W (.Call (.Name x p) (e :: es) [] pos) δ P PX := by
  obtain ⟨fa, fd, ps, us0, vs0, G, hM, hb, hv, hrep⟩ := f.ex
  rw [← c.hK] at hM hb hrep
  rw [← c.hmg] at hm
  rw [← c.hP, ← c.hw, ← c.hK, ← c.hmg, ← c.hb] at G
  intro σ H own Q S q pins s I
  have h1 : semA X (e :: es) σ H fun vs H1 => ∀ l dx, H1 l = none → H1 dx = none → dx ≠ l → spI X.K C n F (.ref l :: (vs ++ vs0)) (upd (upd H1 dx (.own l)) l (.ins C dx [])) (fun v H2 => v = .non ∧ Q (.ref l) H2) (fun cls d H => W cls d σ H) := by
    refine h σ H own _ S fun ds vs H1 ⟨hn, hF⟩ e1 r l dx hl hd hne => ?_
    have S1 := S.mono e1
    have e2 : Ex H1 (upd (upd H1 dx (.own l)) l (.ins C dx [])) := fun a u z => by
      rw [upd_ne (ne_of_none z hl), upd_ne (ne_of_none z hd)]
      exact z
    have ho : own l = false := not_own S1.ow hl
    have eb : Ex H1 (but l (upd (upd H1 dx (.own l)) l (.ins C dx []))) := fun a u z => by
      rw [but_ne (ne_of_none z hl)]
      exact e2 a u z
    refine ⟨own, l, dx, vs ++ vs0, ds ++ dv, fun fs => P (.obj C fs), PX, rfl, ho, fun a z y => S1.ow a z (e2.free y), upd_same, (r.append (hrep _)).mono (mask_add e2 hl), hn, hF, fun fs es' dx' H' p e3 g1 r1 => ⟨rfl, ?_⟩, S1.wi.mono eb⟩
    refine q (.obj C fs) _ H' p (e1.trans (eb.trans e3)) ⟨l, dx', es', rfl, ?_, r1⟩
    unfold mask
    rw [ho]
    exact g1
  refine wpAny_Call_Name_kw (ld_glob I (c.gl _ hg) hm ?_ hdb)
  refine PySem.W.callWith_K (h₀ := X.base) I.ok.mod.kin hM.kp (thn (h1 pos pins s I) fun us s1 ⟨vs, H1, I1, r, q1⟩ => ⟨I1.kIn, ?_⟩) he hpl
  exact make_at hM G (c.room.mono hj) hb hv (passAt c.tk σ) I1 r q1
end
end PV

set_option Elab.async false
set_option linter.all false
set_option maxRecDepth 100000
set_option maxHeartbeats 4000000
/-! PV22: lists of truths counted and searched; refused calls, names -/
namespace PV
open PySem PySem.Spec PyProof.Rows L2
theorem countP_eqU {x : V} : ∀ {xs : List V} {us : List Value}, Vals xs us → xs.all flatV = true → us.countP (eqU x) = xs.countP fun y => eqV y x
  | _, _, .nil, _ => rfl
  | y :: xs, u :: us, .cons r t, f => by
    rw [List.all_cons, Bool.and_eq_true] at f
    rw [List.countP_cons, List.countP_cons, countP_eqU t f.2, eqU_of r f.1]
def rCntV (K : Fr) : V → List V → Hp → VK → Prop := fun x xs H Q => ∃ (a : Addr) (ys : List V) (y : V), x = V.ref a ∧ xs = [y] ∧ SqL K H a ys ∧ flatV y = true ∧ ys.all flatV = true ∧ Q (.int (ys.countP (fun z => eqV z y) : Nat)) H
theorem mt_countV {X : Cx} : MtR X "list.count" (rCntV X.K) := by
  intro pins s σ H x xs v us Q I rx rxs h
  obtain ⟨a, ys, y, rfl, rfl, hs, fy, fys, q⟩ := h
  cases rx
  obtain ⟨uy, rfl, ry⟩ := rxs.one
  obtain ⟨its, rv, ⟨⟨cls, dd, data, sl⟩, n, ho, hc, hdn, hd⟩, hlen⟩ := I.list hs
  dsimp only at hc hd
  subst hc hd
  have cnt : its.toArray.toList.countP (eqU y) = ys.countP fun z => eqV z y := countP_eqU rv fys
  refine call_meets PySem.F.slot_list_count ⟨_, ho, rfl⟩ PySem.F.entry_list_count (PySem.F.args_list_count_2 _ _) (SeqAt.list_countAt a its.toArray n dd sl uy (eqU y)) ⟨ho, fun u hu => mem_eqAt ry fy rv fys u (by simpa using hu), ?_⟩
  rw [cnt]
  exact ⟨.int _, H, I.tok _, ⟨_, rfl⟩, q⟩
section
variable {M : Md} {X : Cx} {W : WX} {k : Nat} {Nm : List Str} {sc : Scope} {δ δ' δ1 : List Slot} {P : D → Prop} {PX : Xd → Prop} {e a b d2 o : Expr} {es : List Expr} {pos p apos : Pos} {x m : Str} {K : Fr}
theorem vals_bools : ∀ bs : List Bool, (bs.map V.bl).all flatV = true
  | [] => rfl
  | _ :: r => by rw [List.map_cons, List.all_cons, vals_bools r]; rfl
theorem countP_bools (b : Bool) : ∀ bs : List Bool, (bs.map V.bl).countP (fun z => eqV z (.bl b)) = bs.count b
  | [] => rfl
  | c :: r => by
    rw [List.map_cons, List.countP_cons, List.count_cons, countP_bools b r]
    rfl
/-- bs.count(b) -/
theorem de_countB (h : DR X W a δ (fun x => ∃ bs : List Bool, x = .lst (bs.map .bl) ∧ DE X W e δ (fun y => ∃ b, y = .bl b ∧ P (.int (bs.count b : Nat))) PX) PX)
    (hbase : attributeBase a "count" X.env (eval a X.env) = eval a X.env := by rfl)
    (hfew : ((backTo pos (starEach [e] X.env)).all (fun x => !x.1) && (backToKw pos (keywordEach [] X.env)).all (fun x => x.1.isSome)
      && decide ([e].length + ([] : List Keyword).length + (if ([] : List Keyword).isEmpty then 0 else 1) < 30)) = true := by rfl)
    (hline : (apos.endLine == pos.line) = true := by rfl) (hs : starEach [e] X.env = (false, eval e X.env) :: starEach [] X.env := by rfl) (hplain : (backTo pos (starEach [] X.env)).any (·.1) = false := by rfl) : DE X W (.Call (.Attribute a "count" apos) [e] [] pos) δ P PX := by
  refine de_mk (pe_bm PySem.F.plainAttrs_list PySem.F.slot_list_count PySem.F.type_list_count mt_countV pe_sem (pa_cons pe_sem pa_nil hs) hbase hfew hline hs hplain) ?_
  intro σ H own Q S q
  refine h σ H own _ S fun x v H1 ⟨bs, hx, h2⟩ e1 r => ?_
  subst hx
  obtain ⟨l, ws, rfl, h1, h3⟩ := r
  rw [h3.bools] at h1
  refine ⟨.inl ⟨rfl, _, h1⟩, ?_⟩
  refine h2 σ H1 own _ (S.mono e1) fun y w H2 ⟨b, hy, p⟩ e2 r2 => ?_
  subst hy
  obtain rfl : w = .bl b := r2
  refine ⟨l, bs.map .bl, .bl b, rfl, rfl, e2.sqL h1, rfl, vals_bools bs, ?_⟩
  rw [countP_bools]
  exact q (.int _) _ H2 p (e1.trans e2) rfl
/-- bs.index(b), the first at j -/
theorem de_indexB (h : DR X W a δ (fun x => ∃ bs : List Bool, x = .lst (bs.map .bl) ∧ DE X W e δ (fun y => ∃ b j, y = .bl b ∧ bs[j]? = some b ∧ (∀ m, m < j → bs[m]? = some (!b)) ∧ P (.int (j : Nat))) PX) PX)
    (hbase : attributeBase a "index" X.env (eval a X.env) = eval a X.env := by rfl)
    (hfew : ((backTo pos (starEach [e] X.env)).all (fun x => !x.1) && (backToKw pos (keywordEach [] X.env)).all (fun x => x.1.isSome)
      && decide ([e].length + ([] : List Keyword).length + (if ([] : List Keyword).isEmpty then 0 else 1) < 30)) = true := by rfl)
    (hline : (apos.endLine == pos.line) = true := by rfl) (hs : starEach [e] X.env = (false, eval e X.env) :: starEach [] X.env := by rfl) (hplain : (backTo pos (starEach [] X.env)).any (·.1) = false := by rfl) : DE X W (.Call (.Attribute a "index" apos) [e] [] pos) δ P PX := by
  refine de_mk (pe_bm PySem.F.plainAttrs_list PySem.F.slot_list_index PySem.F.type_list_index mt_index pe_sem (pa_cons pe_sem pa_nil hs) hbase hfew hline hs hplain) ?_
  intro σ H own Q S q
  refine h σ H own _ S fun x v H1 ⟨bs, hx, h2⟩ e1 r => ?_
  subst hx
  obtain ⟨l, ws, rfl, h1, h3⟩ := r
  rw [h3.bools] at h1
  refine ⟨.inl ⟨rfl, _, h1⟩, ?_⟩
  refine h2 σ H1 own _ (S.mono e1) fun y w H2 ⟨b, j, hy, hj, hno, p⟩ e2 r2 => ?_
  subst hy
  obtain rfl : w = .bl b := r2
  refine ⟨l, bs.map .bl, .bl b, j, .bl b, rfl, rfl, e2.sqL h1, rfl, vals_bools bs, by rw [List.getElem?_map, hj]; rfl, by cases b <;> rfl, fun m z hm hz => ?_, q (.int _) _ H2 p (e1.trans e2) rfl⟩
  rw [List.getElem?_map, hno m hm] at hz
  cases hz
  cases b <;> rfl
end
end PV

set_option Elab.async false
set_option linter.all false
set_option maxRecDepth 100000
set_option maxHeartbeats 4000000
/-! PV23: calls whose answer is flat: what is owned may be handed in to be read -/
namespace PV
open PySem PySem.Spec PyProof.Rows L2
section
variable {M : Md} {X : Cx} {W : WX} {k : Nat} {Nm : List Str} {sc : Scope} {δ δ' δ1 : List Slot} {P : D → Prop} {PX : Xd → Prop} {e a b d2 o : Expr} {es : List Expr} {pos p apos : Pos} {x m : Str} {K : Fr}
theorem WishX.plain {K : Fr} {W : XK} {own own' : Addr → Bool} {H : Hp} (h : WishX K W own H PX) : WishX K W own' H (fun x => (∃ c, x = .plain c) ∧ PX x) :=
  ⟨fun c p H2 e2 => h.pl c p.2 H2 e2, fun c fs p => by obtain ⟨⟨c', z⟩, _⟩ := p; cases z⟩
theorem de_callW {j n : Nat} {F : Phi} (c : Ct M X W k Nm sc) (f : DefOk M j x n F) (hj : j ≤ k) (hg : GlS sc x) (h : DAR X W (e :: es) δ (fun ds => ds.length = n ∧ F ds (fun d => d.flat = true ∧ P d) (fun x => (∃ c, x = .plain c) ∧ PX x)) PX)
    (hdb : (x == ("__debug__" : Str)) = false := by decide) (he : starEach (e :: es) X.env = (false, eval e X.env) :: starEach es X.env := by rfl) (hpl : (backTo pos (starEach es X.env)).any (·.1) = false := by rfl) : DE X W (.Call (.Name x p) (e :: es) [] pos) δ P PX := by
  obtain ⟨f, fd, ps, G, hm, hk, hb⟩ := f.ex
  rw [← c.hP, ← c.hw, ← c.hK, ← c.hmg, ← c.hb] at G
  rw [← c.hK] at hk hb
  rw [← c.hmg] at hm
  refine de_mk (pe_callS G (c.room.mono hj) (c.gl _ hg) hm hk hb (fun σ => passAt c.tk σ) pa_sem hdb he hpl) ?_
  intro σ H own Q S q
  refine h σ H own _ S fun ds vs H1 ⟨hl, hF⟩ e1 r => ?_
  have S1 := S.mono e1
  refine ⟨fun _ => false, ds, _, _, fun _ z => (Bool.false_ne_true z).elim, by rw [mask_none]; exact r, hl, hF, fun d v H' p e2 r2 => q d v H' p.2 (e1.trans e2) (r2.flat p.1), S1.wi.plain⟩
end
end PV

set_option Elab.async false
set_option linter.all false
set_option maxRecDepth 100000
set_option maxHeartbeats 4000000
/-! PV24: -x, tuple(xs) -/
namespace PV
open PySem PySem.Spec PyProof.Rows L2
section
variable {M : Md} {X : Cx} {W : WX} {k : Nat} {Nm : List Str} {sc : Scope} {δ δ' δ1 : List Slot} {P : D → Prop} {PX : Xd → Prop} {e a b d2 o : Expr} {es : List Expr} {pos p apos : Pos} {x m : Str} {K : Fr}
theorem de_neg (h : DE X W a δ (fun x => ∃ i, x = .int i ∧ P (.int (-i))) PX) : DE X W (.UnaryOp .USub a pos) δ P PX := by
  refine de_mk (pe_un un_neg pe_sem) (we_un (h.imp fun x ⟨i, hx, p⟩ => ?_))
  subst hx
  intro v H own Q ow r q
  exact ⟨i, r, q (.int (-i)) _ H p (Ex.refl H) rfl⟩
theorem de_tuple1 (c : Ct M X W k Nm sc) (hg : GlS sc "tuple") (hm : Bi M "tuple") (h : DE X W a δ (fun x => ∃ ds, x = .lst ds ∧ P (.tup ds)) PX)
    (he : starEach [a] X.env = (false, eval a X.env) :: starEach [] X.env := by rfl) (hpl : (backTo pos (starEach [] X.env)).any (·.1) = false := by rfl) : DE X W (.Call (.Name "tuple" p) [a] [] pos) δ P PX := by
  refine de_callT c call_tuple_of hg hm (by decide +kernel) (da_cons (h.imp fun x ⟨ds, hx, p⟩ => da_nil ?_) he) (by decide) (by decide) he hpl
  subst hx
  intro vs H own Q ow r q
  obtain ⟨v, rfl, l, ws, rfl, h1, h2⟩ := r.vals1
  exact ⟨l, ws, rfl, .inl ⟨mask_le.sqL h1, fun l' hl => new_tup (K := X.K) ow h2 p q l' hl⟩⟩
end
theorem kit_mk {K : Fr} {E C : Addr} {b : Bool} (h1 : PySem.W.hasDictIn K C = true) (h2 : PySem.W.typeIn K (.ref C) = some (.type "type")) (h3 : PySem.W.subIn K (.ref E) (.ref C) = some b) (h4 : PySem.W.subIn K (.ref E) (.ref E) = some true) : PySem.W.kitOne K (.ref E) (.ref C) = some b := by
  obtain ⟨cd, hc, _⟩ := PySem.W.any_some h1
  have hk : PySem.W.kitCls K (.ref E) (.ref C) = some b := by
    show (if ((PySem.W.clsIn K C).isSome && PySem.W.typeIn K (.ref C) == some (.type "type")) = true then PySem.W.subIn K (.ref E) (.ref C) else none) = some b
    rw [hc, h2]
    exact h3
  unfold PySem.W.kitOne
  by_cases e : (Value.ref E == Value.ref C) = true
  · have e' : E = C := Value.ref.inj (beq_iff_eq.mp e)
    subst e'
    rw [h3] at h4
    rw [if_pos e, h4]
  · rw [if_neg e]
    exact hk
theorem kit_ve {K : Fr} {E : Addr} {b : Bool} (h3 : PySem.W.subIn K (.ref E) (.type "ValueError") = some b) : PySem.W.kitOne K (.ref E) (.type "ValueError") = some b := by
  have e : ¬ ((Value.ref E == Value.type "ValueError") = true) := by
    intro z
    have z' : Value.ref E = Value.type "ValueError" := beq_iff_eq.mp z
    cases z'
  have m : PySem.W.kitMeta "ValueError" = true := by decide +kernel
  unfold PySem.W.kitOne
  rw [if_neg e]
  show (if PySem.W.kitMeta "ValueError" = true then PySem.W.subIn K (.ref E) (.type "ValueError") else none) = some b
  rw [if_pos m]
  exact h3
end PV

set_option Elab.async false
set_option linter.all false
set_option maxRecDepth 100000
set_option maxHeartbeats 4000000
/-! PV25: methods whose answer is a new list -/
namespace PV
open PySem PySem.Spec PyProof.Rows L2
abbrev PhiL := List D → (List D → Prop) → (Xd → Prop) → Prop
def spL (K : Fr) (n : Nat) (F : PhiL) : Sp := fun vs H Q E => ∃ own ds P PX, (∀ a, own a = true → H a ≠ none) ∧ RepL K (mask own H) ds vs ∧ ds.length = n ∧ F ds P PX ∧
  (∀ es l us H', P es → Ex H H' → H l = none → H' l = some (.lst us) → RepL K (mask (addOwn own l) H') es us → Q (.ref l) H') ∧ WishX K E own H PX
structure GoalL (K : Fr) (W : WX) (Hb : Hp) (o0 : Addr → Bool) (D' : Ends) (P : List D → Prop) (PX : Xd → List Slot → Prop) : Prop where
  rt : ∀ es l us H, P es → Ex Hb H → Hb l = none → H l = some (.lst us) → RepL K (mask (addOwn o0 l) H) es us → D'.rt (.ref l) H
  px : ∀ own σ H δ, Ok K Hb o0 own σ H δ → WishX K (fun c d H => W c d σ H) own H (fun x => PX x δ)
/-- a body that ends with a new list -/
def LSs (X : Cx) (W : WX) (st : List Stmt) (δ : List Slot) (P : List D → Prop) (PX : Xd → List Slot → Prop) : Prop := ∀ Hb o0 own (D' : Ends) σ H, Ok X.K Hb o0 own σ H δ → GoalL X.K W Hb o0 D' P PX → semSs X st D' σ H
section
variable {M : Md} {X : Cx} {W : WX} {k : Nat} {Nm : List Str} {sc : Scope} {δ δ' δ1 : List Slot} {e a b d2 o : Expr} {es : List Expr} {pos p apos : Pos} {x m : Str} {K : Fr} {st : Stmt} {rest : List Stmt}
theorem ls_cons {P : List D → Prop} {PX : Xd → List Slot → Prop} (h : DS X W st δ (fun δ' => LSs X W rest δ' P PX) (fun _ _ => False) (fun _ => False) (fun _ => False) PX) : LSs X W (st :: rest) δ P PX := by
  intro Hb o0 own D' σ H o g
  refine sem_pss (pss_cons ps_sem pss_sem) ?_
  exact h Hb o0 own { D' with nx := semSs X rest D' } σ H o ⟨fun own' σ' H' δ' h' o' => h' Hb o0 own' D' σ' H' o' g, fun _ _ _ _ _ _ z => z.elim, fun _ _ _ _ z => z.elim, fun _ _ _ _ z => z.elim, g.px⟩
theorem ls_ret {P : List D → Prop} {PX : Xd → List Slot → Prop} (h : DF X W e δ P (fun x => PX x δ)) : LSs X W [.Return (some e) pos] δ P PX := by
  intro Hb o0 own D' σ H o g
  refine sem_pss (pss_cons (ps_ret pe_sem) pss_nil) ?_
  refine h σ H own _ ⟨o.ow, o.sl, g.px own σ H δ o⟩ fun ds l vs H2 p e2 hl h2 r => ?_
  refine g.rt ds l vs H2 p (o.ex.trans e2) (o.ex.free hl) h2 (r.mono (mask_mono fun a z => ?_))
  unfold addOwn at z ⊢
  by_cases ha : a = l
  · simp [ha]
  · simp [ha] at z ⊢
    exact o.sub a z
theorem df_lc (α : Type) (c : Ct M X W k Nm sc) {P : List D → Prop} {PX : Xd → Prop} {tg iter elt : Expr} {ifs : List Expr} {scope : Scope} {own : List (Str × Nat)} (hb : blkC Nm sc scope own = true) (hw : Wp own Nm δ δ1)
    (h : DI X W tg iter δ (LcB M k Nm scope own δ1 tg elt ifs α P) PX) (hs : ∀ x, foldedSetIterable iter X.env x = pure x := by intro _; rfl) : DF X W (.ListComp elt [⟨tg, iter, ifs, 0⟩] scope pos) δ P PX := by
  intro σ H own' Q S q
  refine sem_pe (pe_lc c.calm c.nd pi_sem (c.blk _ _ hb) pg_blk pts_blk pe_blk hs) ?_
  exact lc_read (α := α) (P := P) c (kind_of_blk hb) hw h S fun ds l vs H2 p e hl h2 r => q ds l vs H2 p e hl h2 r
theorem df_lcN (α : Type) (c : Ct M X W k Nm sc) {P : List D → Prop} {PX : Xd → Prop} {tg iter elt : Expr} {ifs : List Expr} {kd : ScopeKind} {ns : List (Str × NameKind)} {ge co : Bool} {mo : List (Str × Const)} {own : List (Str × Nat)} (ho : OwnW ns Nm δ own δ1) (hb : blkC Nm sc (Scope.mk kd ns ge co mo) own = true)
    (h : DI X W tg iter δ (LcB M k Nm (Scope.mk kd ns ge co mo) own δ1 tg elt ifs α P) PX) (hs : ∀ x, foldedSetIterable iter X.env x = pure x := by intro _; rfl) : DF X W (.ListComp elt [⟨tg, iter, ifs, 0⟩] (Scope.mk kd ns ge co mo) pos) δ P PX := df_lc α c hb ho.wp h hs
theorem fn_okL {M : Md} {y qual : Str} {st : Stmt} {f : Addr} {fd : FuncData} {N ps : List Str} {k n : Nat} {F : PhiL} (G : Fun M.K y qual st f fd) (S : FnScope N ps (defScope st)) (hn : ps.length = n)
    (h : ∀ ds P PX, ds.length = n → F ds P PX → ∀ X W, Ct M X W k N (defScope st) → LSs X W (defBody st) (startS N ds) P (fun x _ => PX x)) :
    FnOk M.P M.w M.K M.mg M.base (L2.CX M.P M.w) (k + 1) f fd ps (spL M.K n F) := by
  refine G.okX S (fun vs H Q E hh => ?_) (fun cdv A outer s H vs Q E hr hh => ?_)
  · obtain ⟨own, ds, P, PX, _, r, hl, _⟩ := hh
    rw [r.length, hl, hn]
  · obtain ⟨own, ds, P, PX, ow, r, hl, hF, hq, hw⟩ := hh
    refine ⟨_, pss_sem, ?_⟩
    have c : Ct M (cxOf (L2.CX M.P M.w) M.P M.w M.K M.mg M.base N qual (defScope st) f cdv A outer s H E) (fun cls d _ H => E cls d H) k N (defScope st) :=
      ⟨hr, rfl, takes_of rfl rfl rfl rfl, S.nd, rfl, rfl, rfl, rfl, rfl, rfl, fun x hx => hx, fun x hx => hx, fun x hx => hx, S.kind, fun x hx => hx, fun sc own hb => blkOk_by hb, passes_of rfl, fun x hx => .inl rfl⟩
    exact h ds P PX hl hF _ _ c H own own _ _ H ⟨fun a z => z, ow, fun a h1 h2 => absurd (h1.symm.trans h2) (by decide), Ex.refl H, slots_start r, start_own0⟩
      ⟨fun es l us H' p e hl h2 r => hq es l us H' p e hl h2 r,
        fun own' σ' H' δ' o' => ⟨fun c' p H2 e => hw.pl c' p H2 (o'.ex.trans e), fun c' fs p H2 d es e h1 r => hw.fl c' fs p H2 d es (o'.ex.trans e) (mask_mono o'.sub _ _ h1) (r.mono (mask_mono o'.sub))⟩⟩
/-- a new list, read as a list -/
theorem fnL_of {M : Md} {f : Addr} {fd : FuncData} {ps : List Str} {k n : Nat} {F : PhiL} {F' : Phi} (G : FnOk M.P M.w M.K M.mg M.base (L2.CX M.P M.w) k f fd ps (spL M.K n F)) (h : ∀ ds P PX, F' ds P PX → F ds (fun es => P (.lst es)) PX) : FnOk M.P M.w M.K M.mg M.base (L2.CX M.P M.w) k f fd ps (spD M.K n F') := by
  refine G.imp fun vs H Q E hh => ?_
  obtain ⟨own, ds, P, PX, ow, r, hl, hF, hq, hw⟩ := hh
  refine ⟨own, ds, _, PX, ow, r, hl, h ds P PX hF, fun es l us H' p e hl h2 r => ?_, hw⟩
  refine hq (.lst es) (.ref l) H' p e ⟨l, us, rfl, SqL.of ?_, r.mono (mask_mono fun a z => addOwn_old z)⟩
  unfold mask
  rw [not_own ow hl]
  exact h2
structure MethOkL (M : Md) (C : Addr) (j : Nat) (m : Str) (n : Nat) (F : PhiL) : Prop where
  ex : ∃ f fd ps, FnOk M.P M.w M.K M.mg M.base (L2.CX M.P M.w) j f fd ps (spL M.K n F) ∧ Meth M.K C m f ∧ Binds M.K fd ps []
/-- o.m(e, ..): a new list -/
theorem df_methL {P : List D → Prop} {PX : Xd → Prop} {j n : Nat} {F : PhiL} {C : Addr} (c : Ct M X W k Nm sc) (f : MethOkL M C j m n F) (cl : Cls M.K C) (hj : j ≤ k) (h : DE X W o δ (fun x => ∃ fs, x = .obj C fs ∧ fs.lookup m = none ∧ DA X W (e :: es) δ (fun ds => ds.length + 1 = n ∧ F (x :: ds) P PX) PX) PX) {pl : Sem Bool}
    (hst : starEach (e :: es) X.env = (false, eval e X.env) :: starEach es X.env := by rfl) (hpl : (backTo pos (starEach es X.env)).any (·.1) = false := by rfl)
    (ht : eval (.Call (.Attribute o m apos) (e :: es) [] pos) X.env = (do
      let ov ← eval o X.env
      standAt apos.atName
      let (f, first) ← holding [ov] (getMethod ov m pl)
      callWith pos f first (backTo pos (starEach (e :: es) X.env)) (backToKw pos (keywordEach [] X.env))) := by rfl) : DF X W (.Call (.Attribute o m apos) (e :: es) [] pos) δ P PX := by
  obtain ⟨fa, fd, ps, G, hm, hb⟩ := f.ex
  rw [← c.hK] at cl hm hb
  rw [← c.hP, ← c.hw, ← c.hK, ← c.hmg, ← c.hb] at G
  intro σ H own Q S q pins s I
  have h1 : semE X o σ H fun v H1 => ∃ (l dx : Addr) (es' : List (Str × V)), v = .ref l ∧ H1 l = some (.ins C dx es') ∧ es'.lookup m = none ∧ semA X (e :: es) σ H1 fun vs H2 => spL X.K n F (.ref l :: vs) H2 Q (fun cls d H => W cls d σ H) := by
    refine h σ H own _ S fun x v H1 ⟨fs, hx, hl, h2⟩ e1 r => ?_
    subst hx
    have r0 := r
    obtain ⟨l, dx, es', rfl, g1, g2⟩ := r
    refine ⟨l, dx, es', rfl, mask_le _ _ g1, g2.lookupN hl, ?_⟩
    refine h2 σ H1 own _ (S.mono e1) fun ds vs H2 ⟨hn, hF⟩ e2 r2 => ?_
    have e12 := e1.trans e2
    exact ⟨own, .obj C fs :: ds, P, PX, (S.mono e12).ow, ⟨_, _, rfl, r0.mono (mask_ex e2), r2⟩, by rw [List.length_cons]; exact hn, hF, fun ys l' us H' p e3 hl' g3 r3 => q ys l' us H' p (e12.trans e3) (e12.free hl') g3 r3, (S.mono e12).wi⟩
  refine PySem.W.methodCall_KW (pl := pl) (thn (h1 pins s I) fun u s1 ⟨v, H1, I1, rx, l, dx, es', hv, ea, hl, q1⟩ => ?_) ht
  subst hv
  obtain rfl : u = Value.ref l := rx
  refine getmeth_ok I1 ea cl hm hl ?_
  refine PySem.W.callWith_K (first := [.ref l]) (h₀ := X.base) I.ok.mod.kin hm.kp (thn (q1 pos pins s1 I1) fun us s2 ⟨vs, H2, I2, r, q2⟩ => ⟨I2.kIn, ?_⟩) hst hpl
  exact run_fnS (E := fun σ cls d H => W cls d σ H) (us := .ref l :: us) (vs := .ref l :: vs) G (c.room.mono hj) hb (passAt c.tk σ) I2 (.cons rfl r) q2
end
end PV

set_option Elab.async false
set_option linter.all false
set_option maxRecDepth 100000
set_option maxHeartbeats 4000000
/-! PV26: owned objects behind the names' places; an instance whose fields are new lists -/
namespace PV
open PySem PySem.Spec PyProof.Rows L2
/-- the owned objects, behind the names' places -/
inductive Hs : List Slot → Nat → List (Addr × Cell) → Prop
  | z {cs} : Hs [.heap cs] 0 cs
  | s {t δ i cs} : Hs δ i cs → Hs (t :: δ) (i + 1) cs
theorem Hs.S {δ : List Slot} {i : Nat} {cs : List (Addr × Cell)} (h : Hs δ i cs) : δ[i]? = some (.heap cs) := by
  induction h with
  | z => rfl
  | s _ ih => simpa using ih
inductive Hput : List Slot → List (Addr × Cell) → Nat → List Slot → Prop
  | z {cs cs'} : Hput [.heap cs] cs' 0 [.heap cs']
  | s {t δ i cs' δ'} : Hput δ cs' i δ' → Hput (t :: δ) cs' (i + 1) (t :: δ')
theorem Hput.S {δ δ' : List Slot} {i : Nat} {cs : List (Addr × Cell)} (h : Hput δ cs i δ') : δ' = δ.set i (.heap cs) := by
  induction h with
  | z => rfl
  | s _ ih => simp [ih]
inductive Cin : Addr → Cell → List (Addr × Cell) → Prop
  | z {q c cs} : Cin q c ((q, c) :: cs)
  | s {q c z cs} : Cin q c cs → Cin q c (z :: cs)
theorem Cin.mem {q : Addr} {c : Cell} {cs : List (Addr × Cell)} (h : Cin q c cs) : (q, c) ∈ cs := by
  induction h with
  | z => simp
  | s _ ih => exact List.mem_cons_of_mem _ ih
inductive Cput : Addr → Cell → List (Addr × Cell) → List (Addr × Cell) → Prop
  | z {q c c0 cs} : Cput q c ((q, c0) :: cs) ((q, c) :: cs)
  | s {q c z cs cs'} : Cput q c cs cs' → Cput q c (z :: cs) (z :: cs')
theorem Cput.keys {q : Addr} {c : Cell} {cs cs' : List (Addr × Cell)} (h : Cput q c cs cs') : cs'.map (·.1) = cs.map (·.1) := by
  induction h with
  | z => rfl
  | s _ ih => simp [ih]
theorem Cput.key {q : Addr} {c : Cell} {cs cs' : List (Addr × Cell)} (h : Cput q c cs cs') : q ∈ cs.map (·.1) := by
  induction h with
  | z => simp
  | s _ ih => exact List.mem_cons_of_mem _ ih
theorem Cput.mem {q : Addr} {c : Cell} {cs cs' : List (Addr × Cell)} (h : Cput q c cs cs') (nd : (cs.map (·.1)).Nodup) : ∀ z ∈ cs', z = (q, c) ∨ (z ∈ cs ∧ z.1 ≠ q) := by
  induction h with
  | z =>
    intro z hz
    rw [List.map_cons, List.nodup_cons] at nd
    rcases List.mem_cons.mp hz with h | h
    · exact .inl h
    · exact .inr ⟨List.mem_cons_of_mem _ h, fun e => nd.1 (List.mem_map.mpr ⟨z, h, e⟩)⟩
  | s w ih =>
    intro z hz
    rw [List.map_cons, List.nodup_cons] at nd
    rcases List.mem_cons.mp hz with h | h
    · subst h
      exact .inr ⟨List.mem_cons_self, fun e => nd.1 (by rw [e]; exact w.key)⟩
    · rcases ih nd.2 z h with h | h
      · exact .inl h
      · exact .inr ⟨List.mem_cons_of_mem _ h.1, h.2⟩
theorem Slots.cell {K : Fr} {own : Addr → Bool} {H : Hp} {σ : L2.St} {δ : List Slot} {i : Nat} {cs : List (Addr × Cell)} {q : Addr} {c : Cell} (S : Slots K own H σ δ) (h : δ[i]? = some (.heap cs)) (m : Cin q c cs) : own q = true ∧ CellOk K own H q c := by
  obtain ⟨x, _, h2⟩ := S.any h
  exact h2 (q, c) m.mem
theorem set_old {α : Type} {xs : List α} {i : Nat} (d : α) : xs.set i (xs[i]?.getD d) = xs := by
  by_cases h : i < xs.length
  · exact set_same (by simp [h])
  · exact List.set_eq_of_length_le (by omega)
section
variable {M : Md} {X : Cx} {W : WX} {k : Nat} {Nm : List Str} {sc : Scope} {δ δ' δ1 : List Slot} {e a b d2 o : Expr} {es : List Expr} {pos p apos : Pos} {x m : Str} {K : Fr} {st : Stmt} {rest : List Stmt}
theorem Ok.put {Hb : Hp} {o0 own : Addr → Bool} {σ : L2.St} {H : Hp} (o : Ok K Hb o0 own σ H δ) (i : Nat) {d : D} {v : V} (r : Rep K (mask own H) d v) : Ok K Hb o0 own (σ.set i (some v)) H (δ.set i (.val d)) :=
  ⟨o.sub, o.ow, o.mine, o.ex, o.sl.put i r, Own0.put o.acc i⟩
/-- an owned object is written -/
theorem Ok.wrC {Hb : Hp} {o0 own : Addr → Bool} {σ : L2.St} {H : Hp} {ob : HO} {i : Nat} {cs cs' : List (Addr × Cell)} {q : Addr} {c : Cell} (ok0 : Ok K Hb o0 own σ H δ) (hi : δ[i]? = some (.heap cs)) (w : Cput q c cs cs') (ok : CellOk K own (upd H q ob) q c) : Ok K Hb o0 own σ (upd H q ob) (δ.set i (.heap cs')) := by
  obtain ⟨x, nd, hc⟩ := ok0.sl.any hi
  have hq : own q = true := by
    obtain ⟨z, hz, e⟩ := List.mem_map.mp w.key
    rw [← e]
    exact (hc z hz).1
  have h0 : ∀ l ∈ cs.map (·.1), o0 l = false := fun l hl => ok0.acc i _ l hi hl
  have e := ok0.chg i (own' := own) (H' := upd H q ob) (x' := (σ[i]?).getD none) (s' := .heap cs') ok0.sub (fun a ha => ?_) ok0.mine (fun a u e => ?_) ?_ (fun x s okx dis => ?_) (fun l' z y => ⟨_, hi, fun _ _ => ?_⟩) (fun x0 l' z y => ?_)
  · rw [set_old] at e
    exact e
  · by_cases h : a = q
    · subst h; rw [upd_same]; exact fun z => nomatch z
    · rw [upd_ne h]; exact ok0.ow a ha
  · have h : a ≠ q := by
      rintro rfl
      rw [ok0.mine a hq (h0 a w.key)] at e; cases e
    rw [upd_ne h]; exact ok0.ex a u e
  · refine ⟨by rw [w.keys]; exact nd, fun z hz => ?_⟩
    rcases w.mem nd z hz with rfl | ⟨h1, h2⟩
    · exact ⟨hq, ok⟩
    · obtain ⟨a1, a2⟩ := hc z h1
      exact ⟨a1, a2.to (fun o e => by rw [upd_ne h2]; exact e) (by rw [mask_upd_own hq]; exact Ex.refl _)⟩
  · obtain ⟨x0, h1, h2⟩ := dis _ hi
    exact okx.other hq fun z => h2 q z w.key
  · show l' ∈ cs.map (·.1)
    rw [← w.keys]; exact z
  · refine h0 l' ?_
    rw [← w.keys]; exact z
/-- a new owned object -/
theorem Ok.newC {Hb : Hp} {o0 own : Addr → Bool} {σ : L2.St} {H H2 : Hp} {ob : HO} {i : Nat} {cs : List (Addr × Cell)} {l : Addr} {c : Cell} (ok0 : Ok K Hb o0 own σ H δ) (hi : δ[i]? = some (.heap cs)) (e : Ex H H2) (hl : H l = none) (h2 : H2 l = some ob) (ok : CellOk K (addOwn own l) H2 l c) : Ok K Hb o0 (addOwn own l) σ H2 (δ.set i (.heap ((l, c) :: cs))) := by
  obtain ⟨x, nd, hc⟩ := ok0.sl.any hi
  have hn : l ∉ cs.map (·.1) := fun z => by
    obtain ⟨w, hw, e⟩ := List.mem_map.mp z
    have := (hc w hw).1
    rw [e, ok0.notOwn hl] at this
    cases this
  have e' := ok0.chg i (own' := addOwn own l) (H' := H2) (x' := (σ[i]?).getD none) (s' := .heap ((l, c) :: cs)) (fun a ha => addOwn_old (ok0.sub a ha)) (ow_add ok0.ow e h2) (ok0.mineA hl) (ok0.ex.trans e) ?_ (fun x s ok _ => ok.add e hl) (fun l' z y => ⟨_, hi, fun _ _ => ?_⟩) (fun x0 l' z y => ?_)
  · rw [set_old] at e'
    exact e'
  · refine ⟨by rw [List.map_cons, List.nodup_cons]; exact ⟨hn, nd⟩, fun z hz => ?_⟩
    rcases List.mem_cons.mp hz with rfl | hz
    · exact ⟨addOwn_self, ok⟩
    · obtain ⟨a1, a2⟩ := hc z hz
      exact ⟨addOwn_old a1, a2.to (e _) (mask_add e hl)⟩
  · have z : l' ∈ l :: cs.map (·.1) := z
    rcases List.mem_cons.mp z with rfl | z
    · rw [ok0.notOwn hl] at y; cases y
    · exact z
  · have z : l' ∈ l :: cs.map (·.1) := z
    rcases List.mem_cons.mp z with rfl | z
    · exact ok0.not0 hl
    · exact ok0.acc i _ l' hi z
/-- x = a new list, an owned object -/
theorem ds_celF (c : Ct M X W k Nm sc) {i j : Nat} {s0 : Slot} {p2 : Pos} {cs : List (Addr × Cell)} {N : List Slot → Prop} {R : D → List Slot → Prop} {B C : List Slot → Prop} {PX : Xd → List Slot → Prop} (hh : Hs δ j cs) (hx : At Nm δ x i s0) (hv : Loc sc x)
    (h : DF X W e δ (fun ds => ∀ q, ∃ δ1 δ', Hput δ ((q, .lst ds) :: cs) j δ1 ∧ Put Nm δ1 x (.val (.opq (.ref q))) i δ' ∧ N δ') (fun x => PX x δ))
    (hs : swapsWith e (some (.Name x p2)) pos.line X.env = pure false := by rfl) : DS X W (.Assign [.Name x p2] e pos) δ N R B C PX := fun Hb o0 own D' σ H o g => by
  refine sem_ps (ps_set c.nd (by rw [c.hN]; exact hx.N) (c.loc _ hv) pe_sem hs (c.fn x hv)) ?_
  refine h σ H own _ (o.sy g) fun ds l vs H2 hN e2 hl h2 r => ?_
  obtain ⟨δ1, δ', n1, n2, hn⟩ := hN l
  refine g.nx (addOwn own l) _ _ δ' hn ?_
  rw [n2.S, n1.S]
  exact (o.newC (c := .lst ds) hh.S e2 hl h2 ⟨vs, h2, r⟩).put i rfl
/-- self.f = a new list, an owned object -/
theorem ds_fldC (c : Ct M X W k Nm sc) {i j : Nat} {l C : Addr} {fs : List (Str × D)} {f : Str} {p2 : Pos} {cs : List (Addr × Cell)} {N : List Slot → Prop} {R : D → List Slot → Prop} {B C' : List Slot → Prop} {PX : Xd → List Slot → Prop} (hh : Hs δ j cs) (hx : At Nm δ x i (.ins l C fs)) (hv : Vis sc x) (cl : Cls M.K C) (na : NoAttr M.K C f) (hn : fs.lookup f = none) (hz : fs.length < 1000)
    (h : DF X W e δ (fun ds => ∀ q, ∃ δ1 δ', Hput δ ((q, .lst ds) :: cs) j δ1 ∧ Put Nm δ1 x (.ins l C (fs ++ [(f, .opq (.ref q))])) i δ' ∧ N δ') (fun x => PX x δ)) (hd : (x == ("__debug__" : Str)) = false := by decide) (hcd : (x == ("__classdict__" : Str)) = false := by decide)
    (hs : swapsWith e (some (.Attribute (.Name x p2) f p)) pos.line X.env = pure false := by rfl) : DS X W (.Assign [.Attribute (.Name x p2) f p] e pos) δ N R B C' PX := fun Hb o0 own D' σ H o g => by
  refine sem_psL (ps_fld (pe_var (i := i) (by rw [c.hN]; exact hx.N) (c.vis _ hv) hd hcd) pe_sem hs) fun hlen => ?_
  refine h σ H own _ (o.sy g) fun ds q vs H1 hN e1 hq h2q r => ?_
  obtain ⟨δ1, δ', n1, n2, hnn⟩ := hN q
  have o1 := o.newC (c := .lst ds) hh.S e1 hq h2q ⟨vs, h2q, r⟩
  have ij : j ≠ i := by
    rintro rfl
    have := hh.S.symm.trans hx.S
    cases this
  have hx1 : (δ.set j (.heap ((q, .lst ds) :: cs)))[i]? = some (.ins l C fs) := by
    rw [List.getElem?_set_ne ij]; exact hx.S
  obtain ⟨y, h1, dx, es, rfl, h2, h3, h4⟩ := o1.sl.at (hx.lt c hlen) hx1
  refine ⟨_, h1, l, C, dx, es, rfl, h3, by rw [c.hK]; exact cl, by rw [c.hK]; exact na, by rw [h4.length]; exact hz, ?_⟩
  refine g.nx (addOwn own q) _ _ δ' hnn ?_
  rw [n2.S, n1.S]
  refine o1.wrG hx1 rfl h1 h2 ⟨dx, _, rfl, h2, upd_same, ?_⟩ fun _ _ z => z
  rw [mask_upd_own h2, ← putFD_new hn]
  exact h4.put (d := .opq (.ref q)) (v := .ref q) rfl
/-- list + list, new -/
theorem df_add {P : List D → Prop} {PX : Xd → Prop} (h : DE X W a δ (fun x => DE X W b δ (fun y => ∃ xs ys, x = .lst xs ∧ y = .lst ys ∧ xs.length + ys.length ≤ 100000 ∧ P (xs ++ ys)) PX) PX) : DF X W (.BinOp a .Add b pos) δ P PX := by
  intro σ H own Q S q
  refine sem_pe (pe_op op_catS pe_sem pe_sem) ?_
  refine h σ H own _ S fun x v H1 hx e1 r1 => ?_
  refine hx σ H1 own _ (S.mono e1) fun y w H2 hy e2 r2 => ?_
  obtain ⟨xs, ys, rfl, rfl, hl, p⟩ := hy
  obtain ⟨l1, vs1, rfl, g1, g2⟩ := r1
  obtain ⟨l2, vs2, rfl, g3, g4⟩ := r2
  refine ⟨l1, l2, vs1, vs2, rfl, rfl, e2.sqL (mask_le.sqL g1), mask_le.sqL g3, by rw [g2.length, g4.length, sizeLine_eq]; omega, fun l hl => ?_⟩
  exact q _ l _ _ p ((e1.trans e2).trans (Ex.new hl)) ((e1.trans e2).free hl) upd_same (((g2.mono (mask_ex e2)).append g4).mono (mask_add (Ex.new hl) hl))
/-- x[lo:], x an owned list by its place -/
theorem de_cutC {i : Nat} {cs : List (Addr × Cell)} {q : Addr} {ds : List D} {lo hi : Option Expr} {p2 : Pos} {P : D → Prop} {PX : Xd → Prop} (hh : Hs δ i cs) (m : Cin q (.lst ds) cs) (h : DE X W e δ (fun x => x = .opq (.ref q)) PX) (h2 : DO X W lo δ (fun l => DO X W hi δ (fun u => P (.lst (cutD ds l u))) PX) PX) : DE X W (.Subscript e (.Slice lo hi none p2) pos) δ P PX := by
  refine de_mk (pe_slice sl_list pe_sem po_sem po_sem) ?_
  intro σ H own Q S q'
  refine h σ H own _ S fun x v H1 hx e1 r1 => ?_
  subst hx
  obtain rfl : v = .ref q := r1
  refine h2 σ H1 own _ (S.mono e1) fun l H2 p2 e2 => ?_
  refine p2 σ H2 own _ (S.mono (e1.trans e2)) fun u H3 p3 e3 => ?_
  have S3 := S.mono ((e1.trans e2).trans e3)
  obtain ⟨hq, vs, g1, g2⟩ := S3.sl.cell hh.S m
  refine ⟨q, vs, rfl, SqL.of g1, fun p' hp => q' _ _ _ p3 (((e1.trans e2).trans e3).trans (Ex.new hp)) ?_⟩
  rw [mask_new S3.ow hp]
  exact ⟨p', _, rfl, SqL.of upd_same, (g2.cut l u).mono (Ex.new (mask_at hp))⟩
/-! an instance whose fields are new objects -/
/-- what is new from one heap to another -/
def newH (H H' : Hp) : Hp := fun a => if (H a).isSome then none else H' a
theorem newH_ex {own : Addr → Bool} {H H' : Hp} (ow : ∀ a, own a = true → H a ≠ none) : Ex (newH H H') (mask own H') := fun a o h => by
  unfold newH at h
  split at h
  · cases h
  · rename_i hn
    have hn : H a = none := by
      cases e : H a with
      | none => rfl
      | some u => rw [e] at hn; exact absurd rfl hn
    unfold mask
    rw [not_own ow hn, if_neg Bool.false_ne_true]
    exact h
/-- a field by its new object -/
inductive Fld : List (Addr × Cell) → D → D → Prop
  | lst {cs q} {ns : List D} : Cin q (.lst ns) cs → ns.all D.flat = true → Fld cs (.opq (.ref q)) (.lst ns)
  | flat {cs d} : d.flat = true → Fld cs d d
inductive Flds (cs : List (Addr × Cell)) : List (Str × D) → List (Str × D) → Prop
  | nil : Flds cs [] []
  | cons {f d d' fs fs'} : Fld cs d d' → Flds cs fs fs' → Flds cs ((f, d) :: fs) ((f, d') :: fs')
theorem RepL.flat {K : Fr} {H H' : Hp} : ∀ {ds : List D} {vs : List V}, ds.all D.flat = true → RepL K H ds vs → RepL K H' ds vs
  | [], _, _, h => h
  | d :: ds, _, hf, h => by
    obtain ⟨v, r, h1, h2, h3⟩ := h
    rw [List.all_cons, Bool.and_eq_true] at hf
    exact ⟨v, r, h1, h2.flat hf.1, RepL.flat hf.2 h3⟩
theorem Flds.rep {K : Fr} {Hb H H1 : Hp} {own o0 : Addr → Bool} {cs : List (Addr × Cell)} (hc : ∀ z ∈ cs, own z.1 = true ∧ CellOk K own H z.1 z.2) (hn : ∀ z ∈ cs, H1 z.1 = none) : ∀ {fs fs' : List (Str × D)} {es : List (Str × V)}, Flds cs fs fs' → RepF K (mask own H) fs es → RepF K (newH H1 H) fs' es
  | _, _, _, .nil, h => h
  | _, _, _, .cons (d := d) (d' := d') a b, h => by
    obtain ⟨v, r, h1, h2, h3⟩ := h
    refine ⟨v, r, h1, ?_, Flds.rep (o0 := o0) (Hb := Hb) hc hn b h3⟩
    cases a with
    | lst m hf =>
      rename_i q ns
      obtain rfl : v = .ref q := h2
      obtain ⟨_, vs, g1, g2⟩ := hc _ m.mem
      refine ⟨q, vs, rfl, SqL.of ?_, g2.flat hf⟩
      unfold newH
      rw [hn _ m.mem]
      exact g1
    | flat hf => exact h2.flat hf
/-- self is fresh; behind it stand new objects alone -/
def spIN (K : Fr) (C : Addr) (n : Nat) (F : PhiI) : Sp := fun vs H Q E => ∃ own x dx ws ds P PX, vs = .ref x :: ws ∧ own x = false ∧ (∀ a, own a = true → H a ≠ none) ∧ H x = some (.ins C dx []) ∧ RepL K (mask (addOwn own x) H) ds ws ∧ ds.length + 1 = n ∧ F ds P PX ∧
  (∀ fs es dx' H', P fs → Ex (but x H) H' → H' x = some (.ins C dx' es) → RepF K (newH H H') fs es → Q .non H') ∧ WishX K E own (but x H) PX
theorem slots_heap {own : Addr → Bool} {H : Hp} {σ : L2.St} (h : Slots0 K own H σ δ) : Slots K own H σ (δ ++ [.heap []]) := by
  refine ⟨[none], by simp [h.len], fun i x s a b => ?_, fun i j x y s t l ij a b c d e f => ?_⟩
  · by_cases hi : i < δ.length
    · rw [List.getElem?_append_left hi] at b
      rw [List.getElem?_append_left (by rw [h.len]; exact hi)] at a
      exact h.ok i x s a b
    · rw [List.getElem?_append_right (by omega)] at b
      have : s = .heap [] := by
        cases hz : i - δ.length with
        | zero => rw [hz] at b; exact (Option.some.inj b).symm
        | succ n => rw [hz] at b; cases b
      subst this
      exact ⟨by simp, fun z hz => by cases hz⟩
  · have lt : ∀ (i : Nat) (x : Option V) (s : Slot), (σ ++ [none])[i]? = some x → (δ ++ [.heap []])[i]? = some s → s.has x l → σ[i]? = some x ∧ δ[i]? = some s := fun i x s a b c => by
      by_cases hi : i < δ.length
      · rw [List.getElem?_append_left hi] at b
        rw [List.getElem?_append_left (by rw [h.len]; exact hi)] at a
        exact ⟨a, b⟩
      · rw [List.getElem?_append_right (by omega)] at b
        have : s = .heap [] := by
          cases hz : i - δ.length with
          | zero => rw [hz] at b; exact (Option.some.inj b).symm
          | succ n => rw [hz] at b; cases b
        subst this
        cases c
    obtain ⟨a1, a2⟩ := lt i x s a c e
    obtain ⟨b1, b2⟩ := lt j y t b d f
    exact h.sep i j x y s t l ij a1 b1 a2 b2 e f
end
end PV

set_option Elab.async false
set_option linter.all false
set_option maxRecDepth 100000
set_option maxHeartbeats 4000000
/-! PV27: instances made of new objects alone: lists may be handed in to be read, and changed behind -/
namespace PV
open PySem PySem.Spec PyProof.Rows L2
section
variable {M : Md} {X : Cx} {W : WX} {k : Nat} {Nm : List Str} {sc : Scope} {δ δ' δ1 : List Slot} {e a b d2 o : Expr} {es : List Expr} {pos p apos : Pos} {x m : Str} {K : Fr} {st : Stmt} {rest : List Stmt}
theorem init_okN {dvs : List V} {kws : List (Str × V)} {M : Md} {y qual : Str} {st : Stmt} {f C : Addr} {fd : FuncData} {N ps : List Str} {k n : Nat} {F : PhiI} (G : FunD M.K y qual (defArgs st) (defBody st) (defScope st) dvs kws f fd) (S : FnScope N ps (defScope st)) (hn : ps.length = n)
    (h : ∀ l ds P PX, ds.length + 1 = n → F ds P PX → ∀ X W, Ct M X W k N (defScope st) → DSs X W (defBody st) (startI N l C ds ++ [.heap []]) (fun δ => ∃ fs fs' cs j, δ[0]? = some (.ins l C fs) ∧ Hs δ j cs ∧ Flds cs fs fs' ∧ P fs') (fun _ _ => False) (fun _ => False) (fun _ => False) (fun x _ => PX x)) :
    FnOk M.P M.w M.K M.mg M.base (L2.CX M.P M.w) (k + 1) f fd ps (spIN M.K C n F) := by
  refine G.ok (CX := L2.CX M.P M.w) S (fun vs H Q E hh => ?_) (fun cdv A outer s H vs Q E hr hh => ?_)
  · obtain ⟨own, x, dx, ws, ds, P, PX, rfl, _, _, _, r, hl, _⟩ := hh
    rw [List.length_cons, r.length, hl, hn]
  · obtain ⟨own, x, dx, ws, ds, P, PX, rfl, hx, ow, he, r, hl, hF, hq, hw⟩ := hh
    refine ⟨_, pss_sem, ?_⟩
    have c : Ct M (cxOf (L2.CX M.P M.w) M.P M.w M.K M.mg M.base N qual (defScope st) f cdv A outer s H E) (fun cls d _ H => E cls d H) k N (defScope st) :=
      ⟨hr, rfl, takes_of rfl rfl rfl rfl, S.nd, rfl, rfl, rfl, rfl, rfl, rfl, fun x hx => hx, fun x hx => hx, fun x hx => hx, S.kind, fun x hx => hx, fun sc own hb => blkOk_by hb, passes_of rfl, fun x hx => .inl rfl⟩
    have s0 : Slots0 M.K (addOwn own x) H (L2.start N (.ref x :: ws)) (startS N (.opq (.ref x) :: ds)) := slots_start0 ⟨_, _, rfl, rfl, r⟩
    have h0 : (L2.start N (.ref x :: ws))[0]? = some (some (.ref x)) := rfl
    have s1 := s0.chg 0 (x' := some (.ref x)) (s' := .ins x C []) ⟨dx, [], rfl, addOwn_self, he, rfl⟩ (fun _ _ _ _ _ _ o => o) fun l _ j x s _ _ b c => startS_has j s x l b c
    rw [set_same h0] at s1
    refine h x ds P PX hl hF _ _ c (but x H) own (addOwn own x) _ _ H ⟨fun a z => addOwn_old z, fun a z => ?_, fun a z1 z2 => ?_, but_ex, slots_heap s1, fun i s l a b => ?_⟩
      ⟨fun own' σ' H' δ' ⟨fs, fs', cs, j, p0, ph, pf, p⟩ o' => ?_, fun _ _ _ _ _ _ z => z.elim, fun _ _ _ _ z _ => z.elim, fun _ _ _ _ z _ => z.elim, fun own' σ' H' δ' o' => ?_⟩
    · by_cases hz : a = x
      · subst hz; rw [he]; exact fun z => nomatch z
      · refine ow a ?_
        unfold addOwn at z
        simpa [hz] using z
    · have : a = x := by
        unfold addOwn at z1
        simpa [z2] using z1
      subst this
      exact if_pos rfl
    · have e := (start_own0 (o0 := own) (σ := L2.start N (.ref x :: ws)) (N := N) (ds := .opq (.ref x) :: ds)).chg 0 (x' := some (.ref x)) (s' := .ins x C []) fun x0 l' z y => by
        have z : x0 = some (V.ref l') := z
        subst z
        rcases y with y | y
        · cases y
        · cases y
          exact hx
      rw [set_same h0] at e
      by_cases hi : i < (startI N x C ds).length
      · rw [List.getElem?_append_left hi] at a
        exact e i s l a b
      · rw [List.getElem?_append_right (by omega)] at a
        have : s = .heap [] := by
          cases hz : i - (startI N x C ds).length with
          | zero => rw [hz] at a; exact (Option.some.inj a).symm
          | succ n => rw [hz] at a; cases a
        subst this
        cases b
    · obtain ⟨γ, z0⟩ := o'.sl
      have len0 : 0 < (σ' ++ γ).length := by rw [z0.len]; exact (List.getElem?_eq_some_iff.mp p0).1
      have lenj : j < (σ' ++ γ).length := by rw [z0.len]; exact (List.getElem?_eq_some_iff.mp ph.S).1
      obtain ⟨dx', es, y1, y2, y3, y4⟩ := z0.ok 0 _ _ (List.getElem?_eq_getElem len0) p0
      obtain ⟨nd, hc⟩ := z0.ok j _ _ (List.getElem?_eq_getElem lenj) ph.S
      have j0 : 0 ≠ j := by
        rintro rfl
        have := p0.symm.trans ph.S
        cases this
      refine hq fs' es dx' H' p o'.ex y3 (pf.rep (o0 := own) (Hb := H) hc (fun z hz => ?_) y4)
      have hm : z.1 ∈ cs.map (·.1) := List.mem_map.mpr ⟨z, hz, rfl⟩
      have hb := o'.mine z.1 (hc z hz).1 (o'.acc j _ z.1 ph.S hm)
      unfold but at hb
      split at hb
      · rename_i hz2
        exact (z0.sep 0 j _ _ _ _ z.1 j0 (List.getElem?_eq_getElem len0) (List.getElem?_eq_getElem lenj) p0 ph.S (by rw [hz2]; exact y1) hm).elim
      · exact hb
    · exact ⟨fun c' p H2 e => hw.pl c' p H2 (o'.ex.trans e), fun c' fs p H2 d es e h1 r => hw.fl c' fs p H2 d es (o'.ex.trans e) (mask_mono o'.sub _ _ h1) (r.mono (mask_mono o'.sub))⟩
structure MkOkN (M : Md) (C : Addr) (j n : Nat) (F : PhiI) (dv : List D) : Prop where
  ex : ∃ f fd ps us vs, FnOk M.P M.w M.K M.mg M.base (L2.CX M.P M.w) j f fd ps (spIN M.K C n F) ∧ Mk M.K C f ∧ Binds M.K fd ps us ∧ Vals vs us ∧ ∀ H, RepL M.K H dv vs
/-- C(e, ..), all of it new; what is handed in is read -/
theorem de_makeW {j n : Nat} {F : PhiI} {C : Addr} {dv : List D} {P : D → Prop} {PX : Xd → Prop} (c : Ct M X W k Nm sc) (hm : M.mg x = some (.ref C)) (f : MkOkN M C j n F dv) (hj : j + 1 ≤ k) (hg : GlS sc x) (h : DAR X W (e :: es) δ (fun ds => (ds ++ dv).length + 1 = n ∧ F (ds ++ dv) (fun fs => P (.obj C fs)) (fun x => (∃ c, x = .plain c) ∧ PX x)) PX)
    (hdb : (x == ("__debug__" : Str)) = false := by decide) (he : starEach (e :: es) X.env = (false, eval e X.env) :: starEach es X.env := by rfl) (hpl : (backTo pos (starEach es X.env)).any (·.1) = false := by rfl) : DE X W (.Call (.Name x p) (e :: es) [] pos) δ P PX := by
  obtain ⟨fa, fd, ps, us0, vs0, G, hM, hb, hv, hrep⟩ := f.ex
  rw [← c.hK] at hM hb hrep
  rw [← c.hmg] at hm
  rw [← c.hP, ← c.hw, ← c.hK, ← c.hmg, ← c.hb] at G
  intro σ H own Q S q pins s I
  have h1 : semA X (e :: es) σ H fun vs H1 => ∀ l dx, H1 l = none → H1 dx = none → dx ≠ l → spIN X.K C n F (.ref l :: (vs ++ vs0)) (upd (upd H1 dx (.own l)) l (.ins C dx [])) (fun v H2 => v = .non ∧ Q (.ref l) H2) (fun cls d H => W cls d σ H) := by
    refine h σ H own _ S fun ds vs H1 ⟨hn, hF⟩ e1 r l dx hl hd hne => ?_
    have S1 := S.mono e1
    have e2 : Ex H1 (upd (upd H1 dx (.own l)) l (.ins C dx [])) := fun a u z => by
      rw [upd_ne (ne_of_none z hl), upd_ne (ne_of_none z hd)]
      exact z
    have ho : own l = false := not_own S1.ow hl
    have eb : Ex H1 (but l (upd (upd H1 dx (.own l)) l (.ins C dx []))) := fun a u z => by
      rw [but_ne (ne_of_none z hl)]
      exact e2 a u z
    have r1 : RepL X.K (mask (fun _ => false) H1) (ds ++ dv) (vs ++ vs0) := by rw [mask_none]; exact r.append (hrep _)
    refine ⟨fun _ => false, l, dx, vs ++ vs0, ds ++ dv, fun fs => P (.obj C fs), _, rfl, rfl, (fun a z => nomatch z), upd_same, r1.mono (mask_add e2 hl), hn, hF, fun fs es' dx' H' p e3 g1 r1 => ⟨rfl, ?_⟩, S1.wi.plain.mono eb⟩
    refine q (.obj C fs) _ H' p (e1.trans (eb.trans e3)) ⟨l, dx', es', rfl, ?_, r1.mono (newH_ex fun a z y => S1.ow a z (e2.free y))⟩
    unfold mask
    rw [ho]
    exact g1
  refine wpAny_Call_Name_kw (ld_glob I (c.gl _ hg) hm ?_ hdb)
  refine PySem.W.callWith_K (h₀ := X.base) I.ok.mod.kin hM.kp (thn (h1 pos pins s I) fun us s1 ⟨vs, H1, I1, r, q1⟩ => ⟨I1.kIn, ?_⟩) he hpl
  refine make_at hM G (c.room.mono hj) hb hv (passAt c.tk σ) I1 r q1
/-- an owned list, read by its name -/
theorem dr_cel (c : Ct M X W k Nm sc) {i j : Nat} {q : Addr} {ds : List D} {cs : List (Addr × Cell)} {P : D → Prop} {PX : Xd → Prop} (hh : Hs δ j cs) (h : At Nm δ x i (.val (.opq (.ref q)))) (m : Cin q (.lst ds) cs) (hv : Vis sc x) (p : P (.lst ds)) (hd : (x == ("__debug__" : Str)) = false := by decide) (hcd : (x == ("__classdict__" : Str)) = false := by decide) : DR X W (.Name x pos) δ P PX := by
  intro σ H own Q S q'
  refine sem_peL (t := tVar i) (pe_var (by rw [c.hN]; exact h.N) (c.vis _ hv) hd hcd) fun hl => ?_
  obtain ⟨y, h1, v, rfl, r⟩ := S.sl.at (h.lt c hl) h.S
  obtain rfl : v = .ref q := r
  obtain ⟨_, vs, g1, g2⟩ := S.sl.cell hh.S m
  exact ⟨_, h1, q' _ _ H p (Ex.refl H) ⟨q, vs, rfl, SqL.of g1, g2.mono mask_le⟩⟩
end
end PV

set_option Elab.async false
set_option linter.all false
set_option maxRecDepth 100000
set_option maxHeartbeats 4000000
/-! PV28: comprehensions whose items are told by what is wanted of them -/
namespace PV
open PySem PySem.Spec PyProof.Rows L2
/-- ys stand to xs, one by one -/
inductive Rels {α : Type} (R : α → D → Prop) : List α → List D → Prop
  | nil : Rels R [] []
  | cons {x y xs ys} : R x y → Rels R xs ys → Rels R (x :: xs) (y :: ys)
theorem Rels.length {α : Type} {R : α → D → Prop} {xs : List α} {ys : List D} (h : Rels R xs ys) : ys.length = xs.length := by
  induction h with
  | nil => rfl
  | cons _ _ ih => simp [ih]
theorem Rels.app {α : Type} {R : α → D → Prop} {xs : List α} {ys : List D} {x : α} {y : D} (h : Rels R xs ys) (r : R x y) : Rels R (xs ++ [x]) (ys ++ [y]) := by
  induction h with
  | nil => exact .cons r .nil
  | cons a _ ih => exact .cons a ih
section
variable {M : Md} {X : Cx} {W : WX} {k : Nat} {Nm : List Str} {sc : Scope} {δ δ' δ1 : List Slot} {e a b d2 o : Expr} {es : List Expr} {pos p apos : Pos} {x m : Str} {K : Fr} {st : Stmt} {rest : List Stmt}
def LcR (M : Md) (k : Nat) (Nm : List Str) (scope : Scope) (own : List (Str × Nat)) (δ1 : List Slot) (tg elt : Expr) (α : Type) (P : List D → Prop) (ds : List D) : Prop :=
  ∃ (xs : List α) (emb : α → D) (R : α → D → Prop), ds = xs.map emb ∧ xs.length ≤ 100000 ∧
    (∀ z, z ∈ xs → ∃ δ2 T, DG M Nm scope tg (emb z) δ1 δ2 T ∧ (∀ i ∈ T, i ∈ own.map (·.2)) ∧ ∀ X', Ct M X' W0 k Nm scope → DE X' W0 elt δ2 (fun y => R z y) X0) ∧ ∀ ys, Rels R xs ys → P ys
theorem lc_readR (c : Ct M X W k Nm sc) {PX : Xd → Prop} {P : List D → Prop} {tg iter elt : Expr} {scope : Scope} {own : List (Str × Nat)} {α : Type} (hkd : scope.kind = .function) (hw : Wp own Nm δ δ1)
    (h : DI X W tg iter δ (LcR M k Nm scope own δ1 tg elt α P) PX)
    {σ : L2.St} {H : Hp} {ow : Addr → Bool} {Q : VK} (S : Sy X.K W ow σ H δ PX)
    (hq : ∀ ds l vs H2, P ds → Ex H H2 → H l = none → H2 l = some (.lst vs) → RepL X.K (mask (addOwn ow l) H2) ds vs → Q (.ref l) H2) :
    tLc (semI X tg iter) (semGF (Blk X scope) tg) (semTF (Blk X scope) []) (semF (Blk X scope) elt) (own.map (·.2)) σ H Q := by
  refine h σ H ow _ S fun ds J H1 ⟨xs, emb, Rr, hds, hlen, body, fin⟩ e1 wk => ?_
  subst hds
  intro l hl
  have hlH : H l = none := e1.free hl
  have S1 := S.mono e1
  have e0 : Ex H1 (upd H1 l (.lst [])) := Ex.new hl
  have sl1 : ∀ {H' : Hp}, Ex H1 H' → Slots X.K (addOwn ow l) H' σ δ := fun {H'} e' => S1.sl.add e' hl
  refine ⟨fun i m H' => m = xs.length - i ∧ i ≤ xs.length ∧ Ex H1 H' ∧ ∃ vs ys, H' l = some (.lst vs) ∧ Rels Rr (xs.take i) ys ∧ RepL X.K (mask (addOwn ow l) H') ys vs, ⟨xs.length, by simp, Nat.zero_le _, e0, [], [], upd_same, .nil, rfl⟩, ?_⟩
  rintro i m H' ⟨rfl, hi, e', vs, ys, hv, rel, r⟩
  have ow' : ∀ a, addOwn ow l a = true → H' a ≠ none := fun a ha z => by
    unfold addOwn at ha
    rcases Bool.or_eq_true_iff.mp ha with h | h
    · exact S1.ow a h (e'.free z)
    · have : a = l := by simpa using h
      subst this
      rw [hv] at z; cases z
  obtain ⟨wk1, wk2⟩ := wk (addOwn ow l) H' ow' (mask_add e' hl)
  by_cases hlt : i < xs.length
  · have hd : (xs.map emb)[i]? = some (emb xs[i]) := by simp [hlt]
    obtain ⟨go, yld⟩ := wk1 i _ hd
    obtain ⟨δ2, T, ⟨gg, g1, g2⟩, hT, hb⟩ := body xs[i] (by simp)
    have htake : xs.take (i + 1) = xs.take i ++ [xs[i]] := by simp
    refine .inr ⟨go, fun H3 => Ex H1 H3 ∧ ∃ vs ys, H3 l = some (.lst vs) ∧ Rels Rr (xs.take (i + 1)) ys ∧ RepL X.K (mask (addOwn ow l) H3) ys vs, fun H3 ⟨e3, v3⟩ => ⟨xs.length - (i + 1), by omega, rfl, hlt, e3, v3⟩, fun y H2 hy => ?_⟩
    obtain ⟨e2, ry⟩ := yld y H2 hy
    have S2 := ((sl1 (e'.trans e2)).wipe (own.map (·.2)))
    rw [← hw.S] at S2
    rw [c.hK] at S2 ry
    intro X' hX pins s u Iv ru
    refine (g1 X' W0 k (hX.ct c hkd)).run pins s _ H2 y u _ Iv ru (g2 y _ H2 (addOwn ow l) (fun _ => false) _ S2 (fun _ _ _ _ _ => rfl) ry fun σ3 S3 _ but => ⟨?_, ?_⟩)
    · exact (wipe_but but hT).trans wipe_wipe
    · intro X3 hX3
      have c3 := hX3.ct c hkd
      have ow2 : ∀ a, addOwn ow l a = true → H2 a ≠ none := fun a ha z => ow' a ha (e2.free z)
      have S3' : Sy X3.K W0 (addOwn ow l) σ3 H2 δ2 X0 := ⟨ow2, by rw [c3.hK]; exact S3, wish0⟩
      refine dts_nil (X := X3) (P := fun b => b = true) rfl σ3 H2 (addOwn ow l) _ S3' fun bb H4 hq1 e4 => ?_
      cases bb with
      | true =>
        rw [if_pos rfl]
        intro X5 hX5
        have c5 := hX5.ct c hkd
        have S5 : Sy X5.K W0 (addOwn ow l) σ3 H4 δ2 X0 := Sy.mono e4 ⟨ow2, by rw [c5.hK]; exact S3, wish0⟩
        refine hb X5 c5 σ3 H4 (addOwn ow l) _ S5 fun d v H5 hd e5 rv => ?_
        have e25 := (e2.trans e4).trans e5
        have hv5 := e25 _ _ hv
        have hz : vs.length < sizeLine := by
          rw [r.length, sizeLine_eq]
          have := rel.length
          rw [List.length_take] at this
          omega
        have ow5 : ∀ a, addOwn ow l a = true → H5 a ≠ none := fun a ha z => ow' a ha (e25.free z)
        have hm : mask (addOwn ow l) (upd H5 l (.lst (vs ++ [v]))) = mask (addOwn ow l) H5 := by
          funext a
          unfold mask upd
          by_cases ha : a = l
          · subst ha; rw [if_pos addOwn_self, if_pos addOwn_self]
          · rw [if_neg ha]
        refine ⟨vs, hv5, hz, ?_, vs ++ [v], ys ++ [d], upd_same, ?_, ?_⟩
        · intro a u ha
          have hn : a ≠ l := by rintro rfl; rw [hl] at ha; cases ha
          rw [upd_ne hn]
          exact (e'.trans e25) a u ha
        · rw [htake]
          exact rel.app hd
        · rw [hm]
          rw [c5.hK] at rv
          rw [c.hK] at r ⊢
          exact (r.mono (mask_ex e25)).append (RepL.one rv)
      | false => cases hq1
  · have e2 : i = xs.length := by omega
    subst e2
    rw [List.take_length] at rel
    exact .inl ⟨wk2 _ (by simp), hq _ l vs H' (fin ys rel) (e1.trans e') hlH hv r⟩
theorem df_lcR (α : Type) (c : Ct M X W k Nm sc) {P : List D → Prop} {PX : Xd → Prop} {tg iter elt : Expr} {kd : ScopeKind} {ns : List (Str × NameKind)} {ge co : Bool} {mo : List (Str × Const)} {own : List (Str × Nat)} (ho : OwnW ns Nm δ own δ1) (hb : blkC Nm sc (Scope.mk kd ns ge co mo) own = true)
    (h : DI X W tg iter δ (LcR M k Nm (Scope.mk kd ns ge co mo) own δ1 tg elt α P) PX) (hs : ∀ x, foldedSetIterable iter X.env x = pure x := by intro _; rfl) : DF X W (.ListComp elt [⟨tg, iter, [], 0⟩] (Scope.mk kd ns ge co mo) pos) δ P PX := by
  intro σ H own' Q S q
  refine sem_pe (pe_lc c.calm c.nd pi_sem (c.blk _ _ hb) pg_blk pts_blk pe_blk hs) ?_
  exact lc_readR (α := α) (P := P) c (kind_of_blk hb) ho.wp h S fun ds l vs H2 p e hl h2 r => q ds l vs H2 p e hl h2 r
/-- y = [.. for ..], its items told by what is wanted of them -/
theorem ds_setLcR (α : Type) {N : List Slot → Prop} {R : D → List Slot → Prop} {B C : List Slot → Prop} {PX : Xd → List Slot → Prop} (c : Ct M X W k Nm sc) {i : Nat} {s0 : Slot} {p2 : Pos} {tg iter elt : Expr} {kd : ScopeKind} {ns : List (Str × NameKind)} {ge co : Bool} {mo : List (Str × Const)} {own : List (Str × Nat)} (hx : At Nm δ x i s0) (hl : sc.names.lookup x = some .local) (ho : OwnW ns Nm δ own δ1) (hb : blkC Nm sc (Scope.mk kd ns ge co mo) own = true)
    (h : DI X W tg iter δ (LcR M k Nm (Scope.mk kd ns ge co mo) own δ1 tg elt α (fun ds => ∃ δ', Put Nm δ x (.val (.lst ds)) i δ' ∧ N δ')) (fun x => PX x δ)) (hs : ∀ x, foldedSetIterable iter X.env x = pure x := by intro _; rfl)
    (hp : (p2.line == p.line) = true := by rfl) (ha : (ns.any fun (n, k) => n == x && (k == .local || k == .cell)) = false := by decide +kernel) : DS X W (.Assign [.Name x p2] (.ListComp elt [⟨tg, iter, [], 0⟩] (Scope.mk kd ns ge co mo) p) pos) δ N R B C PX := fun Hb o0 own' D' σ H o g => by
  refine sem_ps (ps_setLc c.calm c.nd (by rw [c.hN]; exact hx.N) (c.lcl _ hl) (sw_true c.kind (c.lcl _ hl) hp ha) pi_sem (c.blk _ _ hb) pg_blk pts_blk pe_blk hs) ?_
  refine lc_readR (α := α) (P := fun ds => ∃ δ', Put Nm δ x (.val (.lst ds)) i δ' ∧ N δ') c (kind_of_blk hb) ho.wp h (o.sy g) fun ds l vs H2 ⟨δ', n, hn⟩ e hl' h2 r => ?_
  have o2 := o.mono e
  have hlo : own' l = false := not_own o.ow hl'
  refine g.nx own' _ _ δ' hn ?_
  rw [n.S]
  exact o2.put i ⟨l, vs, rfl, SqL.of (by unfold mask; rw [hlo]; exact h2), r.mono (mask_mono fun a z => addOwn_old z)⟩
end
end PV

set_option Elab.async false
set_option linter.all false
set_option maxRecDepth 100000
set_option maxHeartbeats 4000000
/-! PV29: dicts of texts and whole numbers, as values, owned by a name, owned objects -/
namespace PV
open PySem PySem.Spec PyProof.Rows L2
def getK (kvs : List (Key × D)) (k : Key) : Option D := (kvs.find? fun kv => decide (kv.1 = k)).map (·.2)
theorem RepK.get {K : Fr} {H : Hp} {k : Key} : ∀ {kvs : List (Key × D)} {es : List (Key × V)}, RepK K H kvs es → (∀ d, getK kvs k = some d → ∃ v, valV es k = some v ∧ Rep K H d v) ∧ (getK kvs k = none → valV es k = none)
  | [], es, h => by
    have h : es = [] := h
    subst h
    exact ⟨(fun d z => nomatch z), fun _ => rfl⟩
  | (k2, d2) :: r, _, h => by
    obtain ⟨v, t, rfl, h2, h3⟩ := h
    have ih := RepK.get (k := k) h3
    by_cases e : k2 = k
    · subst e
      refine ⟨fun d z => ⟨v, valV_pos rfl, ?_⟩, fun z => ?_⟩
      · have : d2 = d := by simpa [getK, List.find?_cons] using z
        rw [← this]; exact h2
      · simp [getK, List.find?_cons] at z
    · have eg : getK ((k2, d2) :: r) k = getK r k := by simp [getK, List.find?_cons, e]
      rw [eg, valV_neg e]
      exact ih
/-- a dict, seen -/
def WD (K : Fr) (W : WX) (t : TE) (δ : List Slot) (P : List (Key × D) → Prop) (PX : Xd → Prop) : Prop := ∀ σ H own (Q : VK), Sy K W own σ H δ PX → (∀ kvs a es H2, P kvs → Ex H H2 → H2 a = some (.dK es) → RepK K (mask own H2) kvs es → Q (.ref a) H2) → t σ H Q
def DK (X : Cx) (W : WX) (e : Expr) (δ : List Slot) (P : List (Key × D) → Prop) (PX : Xd → Prop) : Prop := WD X.K W (semE X e) δ P PX
section
variable {M : Md} {X : Cx} {W : WX} {k : Nat} {Nm : List Str} {sc : Scope} {δ δ' δ1 : List Slot} {e a b d2 o i' : Expr} {es : List Expr} {pos p apos : Pos} {x m : Str} {K : Fr} {st : Stmt} {rest : List Stmt} {P : D → Prop} {PX : Xd → Prop}
theorem dk_of {P : List (Key × D) → Prop} (h : DE X W e δ (fun d => ∃ kvs, d = .dic kvs ∧ P kvs) PX) : DK X W e δ P PX := by
  intro σ H own Q S q
  refine h σ H own _ S fun d v H2 ⟨kvs, hd, p⟩ e2 r => ?_
  subst hd
  obtain ⟨a, es, rfl, h1, h2⟩ := r
  exact q kvs a es H2 p e2 (mask_le _ _ h1) h2
theorem dk_adi {P : List (Key × D) → Prop} (c : Ct M X W k Nm sc) {i : Nat} {kvs : List (Key × D)} (h : At Nm δ x i (.adi kvs)) (hv : Vis sc x) (p : P kvs) (hd : (x == ("__debug__" : Str)) = false := by decide) (hcd : (x == ("__classdict__" : Str)) = false := by decide) : DK X W (.Name x pos) δ P PX := by
  intro σ H own Q S q
  refine sem_peL (t := tVar i) (pe_var (by rw [c.hN]; exact h.N) (c.vis _ hv) hd hcd) fun hl => ?_
  obtain ⟨y, h1, l, es, rfl, _, h3, r⟩ := S.sl.at (h.lt c hl) h.S
  exact ⟨_, h1, q kvs l es H p (Ex.refl H) h3 r⟩
theorem dk_cel {P : List (Key × D) → Prop} {i : Nat} {cs : List (Addr × Cell)} {q : Addr} {kvs : List (Key × D)} (hh : Hs δ i cs) (m : Cin q (.dic kvs) cs) (h : DE X W e δ (fun d => d = .opq (.ref q)) PX) (p : P kvs) : DK X W e δ P PX := by
  intro σ H own Q S q'
  refine h σ H own _ S fun d v H2 hd e2 r => ?_
  subst hd
  obtain rfl : v = .ref q := r
  obtain ⟨_, es, g1, g2⟩ := (S.mono e2).sl.cell hh.S m
  exact q' kvs q es H2 p e2 g1 g2
/-- d[k] -/
theorem de_dget (c : Ct M X W k Nm sc) (h : DK X W o δ (fun kvs => DE X W i' δ (fun y => ∃ key d, y = keyD key ∧ getK kvs key = some d ∧ P d) PX) PX) (hs : NoSl i' := by intro _ _; rfl) : DE X W (.Subscript o i' pos) δ P PX := by
  refine de_mk (pe_dget (by have := c.u64; omega) pe_sem pe_sem hs) ?_
  intro σ H own Q S q
  refine h σ H own _ S fun kvs a es H1 h2 e1 g1 g2 => ?_
  refine h2 σ H1 own _ (S.mono e1) fun y w H2 ⟨key, d, hy, hg, p⟩ e2 r2 => ?_
  subst hy
  rw [keyD_rep r2]
  obtain ⟨v, hv, rv⟩ := (g2.get (k := key)).1 d hg
  refine ⟨a, v, rfl, ?_, q d v H2 p (e1.trans e2) (rv.mono (mask_ex e2))⟩
  rw [← hv]
  exact .k (e2 _ _ g1)
/-- k in d, as a test -/
theorem dt_din (c : Ct M X W k Nm sc) {PB : Bool → Prop} (h : DE X W i' δ (fun y => DK X W o δ (fun kvs => ∃ key, y = keyD key ∧ PB (getK kvs key).isSome) PX) PX) (hm : behindInMarks .In o = false := by first | exact nobehind _ (by decide) (by decide) | rfl) : DT X W (.Compare i' [.In] [o] pos) δ PB PX := by
  refine dt_mk (pt_cmp (pc_din (by have := c.u64; omega) pe_sem pe_sem) hm) ?_
  intro σ H own Q S q
  refine h σ H own _ S fun y w H1 h2 e1 r1 => ?_
  refine h2 σ H1 own _ (S.mono e1) fun kvs a es H2 ⟨key, hy, p⟩ e2 g1 g2 => ?_
  subst hy
  rw [keyD_rep r1]
  refine ⟨a, _, rfl, .k g1, _, rfl, ?_⟩
  have gk := g2.get (k := key)
  have e : (valV es key).isSome = (getK kvs key).isSome := by
    cases hg : getK kvs key with
    | none => rw [gk.2 hg]; rfl
    | some d => obtain ⟨v, hv, _⟩ := gk.1 d hg; rw [hv]; rfl
  rw [e]
  exact q _ H2 p (e1.trans e2)
theorem dt_dnotIn (c : Ct M X W k Nm sc) {PB : Bool → Prop} (h : DE X W i' δ (fun y => DK X W o δ (fun kvs => ∃ key, y = keyD key ∧ PB (!(getK kvs key).isSome)) PX) PX) (hm : behindInMarks .NotIn o = false := by first | exact nobehind _ (by decide) (by decide) | rfl) : DT X W (.Compare i' [.NotIn] [o] pos) δ PB PX := by
  refine dt_mk (pt_cmp (pc_dnotin (by have := c.u64; omega) pe_sem pe_sem) hm) ?_
  intro σ H own Q S q
  refine h σ H own _ S fun y w H1 h2 e1 r1 => ?_
  refine h2 σ H1 own _ (S.mono e1) fun kvs a es H2 ⟨key, hy, p⟩ e2 g1 g2 => ?_
  subst hy
  rw [keyD_rep r1]
  refine ⟨a, _, rfl, .k g1, _, rfl, ?_⟩
  have gk := g2.get (k := key)
  have e : (valV es key).isSome = (getK kvs key).isSome := by
    cases hg : getK kvs key with
    | none => rw [gk.2 hg]; rfl
    | some d => obtain ⟨v, hv, _⟩ := gk.1 d hg; rw [hv]; rfl
  rw [e]
  exact q _ H2 p (e1.trans e2)
/-- list(d): its keys -/
theorem df_listK {P : List D → Prop} (c : Ct M X W k Nm sc) (hg : GlS sc "list") (hm : Bi M "list") (h : DK X W a δ (fun kvs => P (kvs.map fun kv => keyD kv.1)) PX)
    (he : starEach [a] X.env = (false, eval a X.env) :: starEach [] X.env := by rfl) (hpl : (backTo pos (starEach [] X.env)).any (·.1) = false := by rfl) : DF X W (.Call (.Name "list" p) [a] [] pos) δ P PX := by
  intro σ H own Q S q
  refine sem_pe (pe_callTy (call_list_dK c.calm) (c.gl _ hg) (by rw [c.hmg]; exact hm) (by decide +kernel) (pa_cons pe_sem pa_nil he) (by decide) (by decide) he hpl) ?_
  refine h σ H own _ S fun kvs a es H1 p e1 g1 g2 => ?_
  refine ⟨a, es, rfl, g1, fun l hl => ?_⟩
  refine q _ l _ _ p (e1.trans (Ex.new hl)) (e1.free hl) upd_same ?_
  have : ∀ {kvs : List (Key × D)} {es : List (Key × V)} {Hx Hy : Hp}, RepK X.K Hx kvs es → RepL X.K Hy (kvs.map fun kv => keyD kv.1) (es.map fun kv => kV kv.1) := by
    intro kvs
    induction kvs with
    | nil => intro es Hx Hy h; have h : es = [] := h; subst h; rfl
    | cons kd r ih =>
      intro es Hx Hy h
      obtain ⟨kk, d⟩ := kd
      obtain ⟨v, t, rfl, h2, h3⟩ := h
      refine ⟨kV kk, _, rfl, ?_, ih h3⟩
      cases kk <;> rfl
  exact this g2
/-- list(d.items()): its pairs -/
theorem df_items {P : List D → Prop} {cpos : Pos} (c : Ct M X W k Nm sc) (hg : GlS sc "list") (hm : Bi M "list") (h : DK X W e δ (fun kvs => P (kvs.map fun kv => .tup [keyD kv.1, kv.2])) PX)
    (hbase : attributeBase e "items" X.env (eval e X.env) = eval e X.env := by rfl) (hline : (apos.endLine == cpos.line) = true := by rfl)
    (hs : starEach [.Call (.Attribute e "items" apos) [] [] cpos] X.env = (false, eval (.Call (.Attribute e "items" apos) [] [] cpos) X.env) :: starEach [] X.env := by rfl) : DF X W (.Call (.Name "list" p) [.Call (.Attribute e "items" apos) [] [] cpos] [] pos) δ P PX := by
  intro σ H own Q S q
  refine sem_pe (LiI.pe_listItems c.calm pe_sem (c.gl _ hg) (by rw [c.hmg]; exact hm) (by decide +kernel) hbase hline hs) ?_
  refine h σ H own _ S fun kvs a es H1 p e1 g1 g2 => ?_
  refine ⟨a, es, rfl, g1, fun H' l ts ex hl hts hlt g3 pr => ?_⟩
  have S1 := S.mono e1
  refine q _ l _ H' p (e1.trans ex) (e1.free hl) g3 ?_
  have nown : ∀ t ∈ ts, addOwn own l t = false := fun t ht => by
    have h1 : own t = false := not_own S1.ow (hts t ht)
    have h2 : t ≠ l := fun z => hlt (by rw [← z]; exact ht)
    simp [addOwn, h1, h2]
  have g2' : RepK X.K (mask (addOwn own l) H') kvs es := g2.mono (mask_add ex hl)
  have go : ∀ {kvs : List (Key × D)} {es : List (Key × V)} {ts : List Addr}, RepK X.K (mask (addOwn own l) H') kvs es → (∀ t ∈ ts, addOwn own l t = false) → Paired (fun (t : Addr) (q : Key × V) => H' t = some (.tup [kV q.1, q.2])) ts es → RepL X.K (mask (addOwn own l) H') (kvs.map fun kv => .tup [keyD kv.1, kv.2]) (ts.map V.ref) := by
    intro kvs
    induction kvs with
    | nil =>
      intro es ts h hn pr
      have h : es = [] := h
      subst h
      cases pr
      rfl
    | cons kd r ih =>
      intro es ts h hn pr
      obtain ⟨kk, d⟩ := kd
      obtain ⟨v, t, rfl, h2, h3⟩ := h
      cases pr with
      | cons ht pr =>
        rename_i t0 ts0
        refine ⟨.ref t0, _, rfl, ⟨t0, [kV kk, v], rfl, SqT.of ?_, kV kk, [v], rfl, ?_, v, [], rfl, h2, rfl⟩, ih h3 (fun t ht => hn t (List.mem_cons_of_mem _ ht)) pr⟩
        · unfold mask
          rw [hn t0 List.mem_cons_self, if_neg Bool.false_ne_true]
          exact ht
        · cases kk <;> rfl
  exact go g2' nown pr
/-- d[k] = e, d an owned object -/
theorem ds_dputC (c : Ct M X W k Nm sc) {j : Nat} {cs : List (Addr × Cell)} {q : Addr} {kvs : List (Key × D)} {tpos : Pos} {N : List Slot → Prop} {R : D → List Slot → Prop} {B C : List Slot → Prop} {PX : Xd → List Slot → Prop} (hh : Hs δ j cs) (m : Cin q (.dic kvs) cs) (hz : kvs.length < 100000) (ho : DE X W o δ (fun d => d = .opq (.ref q)) (fun x => PX x δ))
    (h : DE X W e δ (fun z => DE X W i' δ (fun y => ∃ key, y = keyD key ∧ ∃ cs' δ', Cput q (.dic (putKD kvs key z)) cs cs' ∧ Hput δ cs' j δ' ∧ N δ') (fun x => PX x δ)) (fun x => PX x δ))
    (hs : swapsWith e (some (.Subscript o i' tpos)) pos.line X.env = pure false := by rfl) : DS X W (.Assign [.Subscript o i' tpos] e pos) δ N R B C PX := fun Hb o0 own D' σ H ok g => by
  refine sem_ps (ps_dput (by have := c.u64; omega) pe_sem pe_sem pe_sem hs) ?_
  refine h σ H own _ (ok.sy g) fun z v H1 h2 e1 r1 => ?_
  have o1 := ok.mono e1
  refine ho σ H1 own _ (o1.sy g) fun d u H2 hd e2 r2 => ?_
  subst hd
  obtain rfl : u = .ref q := r2
  have o2 := o1.mono e2
  refine h2 σ H2 own _ (o2.sy g) fun y w H3 ⟨key, hy, cs', δ', w1, w2, hn⟩ e3 r3 => ?_
  subst hy
  rw [keyD_rep r3]
  have o3 := o2.mono e3
  obtain ⟨hq, es, g1, g2⟩ := o3.sl.cell hh.S m
  refine ⟨q, _, rfl, .k g1 (by rw [g2.length, sizeLine_eq]; omega), ?_⟩
  refine g.nx own σ _ δ' hn ?_
  rw [w2.S]
  refine o3.wrC hh.S w1 ⟨_, upd_same, ?_⟩
  rw [mask_upd_own hq]
  exact g2.put ((r1.mono (mask_ex e2)).mono (mask_ex e3))
end
end PV

set_option Elab.async false
set_option linter.all false
set_option maxRecDepth 100000
set_option maxHeartbeats 4000000
/-! PV30: instances that own dicts while they are made; dicts as owned objects -/
namespace PV
open PySem PySem.Spec PyProof.Rows L2
/-- a field by the object that it owned -/
inductive FldC : List (Addr × Cell) → D → D → Prop
  | lst {cs q} {ns : List D} : Cin q (.lst ns) cs → FldC cs (.opq (.ref q)) (.lst ns)
  | dic {cs q} {kvs : List (Key × D)} : Cin q (.dic kvs) cs → FldC cs (.opq (.ref q)) (.dic kvs)
  | val {cs d} : FldC cs d d
inductive FldsC (cs : List (Addr × Cell)) : List (Str × D) → List (Str × D) → Prop
  | nil : FldsC cs [] []
  | cons {f d d' fs fs'} : FldC cs d d' → FldsC cs fs fs' → FldsC cs ((f, d) :: fs) ((f, d') :: fs')
theorem FldsC.rep {K : Fr} {H : Hp} {own o0 : Addr → Bool} {cs : List (Addr × Cell)} (hc : ∀ z ∈ cs, own z.1 = true ∧ CellOk K own H z.1 z.2) (hn : ∀ z ∈ cs, o0 z.1 = false) (le : Ex (mask own H) (mask o0 H)) : ∀ {fs fs' : List (Str × D)} {es : List (Str × V)}, FldsC cs fs fs' → RepF K (mask own H) fs es → RepF K (mask o0 H) fs' es
  | _, _, _, .nil, h => h
  | _, _, _, .cons (d := d) (d' := d') a b, h => by
    obtain ⟨v, r, h1, h2, h3⟩ := h
    refine ⟨v, r, h1, ?_, FldsC.rep hc hn le b h3⟩
    cases a with
    | lst m =>
      rename_i q ns
      obtain rfl : v = .ref q := h2
      obtain ⟨_, vs, g1, g2⟩ := hc _ m.mem
      refine ⟨q, vs, rfl, SqL.of ?_, g2.mono le⟩
      unfold mask
      rw [hn _ m.mem, if_neg Bool.false_ne_true]
      exact g1
    | dic m =>
      rename_i q kvs
      obtain rfl : v = .ref q := h2
      obtain ⟨_, vs, g1, g2⟩ := hc _ m.mem
      refine ⟨q, vs, rfl, ?_, g2.mono le⟩
      unfold mask
      rw [hn _ m.mem, if_neg Bool.false_ne_true]
      exact g1
    | val => exact h2.mono le
section
variable {M : Md} {X : Cx} {W : WX} {k : Nat} {Nm : List Str} {sc : Scope} {δ δ' δ1 : List Slot} {e a b d2 o i' : Expr} {es : List Expr} {pos p apos : Pos} {x m : Str} {K : Fr} {st : Stmt} {rest : List Stmt} {P : D → Prop} {PX : Xd → Prop}
theorem init_okC {M : Md} {y qual : Str} {st : Stmt} {f C : Addr} {fd : FuncData} {N ps : List Str} {k n : Nat} {F : PhiI} (G : Fun M.K y qual st f fd) (S : FnScope N ps (defScope st)) (hn : ps.length = n)
    (h : ∀ l ds P PX, ds.length + 1 = n → F ds P PX → ∀ X W, Ct M X W k N (defScope st) → DSs X W (defBody st) (startI N l C ds ++ [.heap []]) (fun δ => ∃ fs fs' cs j, δ[0]? = some (.ins l C fs) ∧ Hs δ j cs ∧ FldsC cs fs fs' ∧ P fs') (fun _ _ => False) (fun _ => False) (fun _ => False) (fun x _ => PX x)) :
    FnOk M.P M.w M.K M.mg M.base (L2.CX M.P M.w) (k + 1) f fd ps (spI M.K C n F) := by
  refine G.okX S (fun vs H Q E hh => ?_) (fun cdv A outer s H vs Q E hr hh => ?_)
  · obtain ⟨own, x, dx, ws, ds, P, PX, rfl, _, _, _, r, hl, _⟩ := hh
    rw [List.length_cons, r.length, hl, hn]
  · obtain ⟨own, x, dx, ws, ds, P, PX, rfl, hx, ow, he, r, hl, hF, hq, hw⟩ := hh
    refine ⟨_, pss_sem, ?_⟩
    have c : Ct M (cxOf (L2.CX M.P M.w) M.P M.w M.K M.mg M.base N qual (defScope st) f cdv A outer s H E) (fun cls d _ H => E cls d H) k N (defScope st) :=
      ⟨hr, rfl, takes_of rfl rfl rfl rfl, S.nd, rfl, rfl, rfl, rfl, rfl, rfl, fun x hx => hx, fun x hx => hx, fun x hx => hx, S.kind, fun x hx => hx, fun sc own hb => blkOk_by hb, passes_of rfl, fun x hx => .inl rfl⟩
    have s0 : Slots0 M.K (addOwn own x) H (L2.start N (.ref x :: ws)) (startS N (.opq (.ref x) :: ds)) := slots_start0 ⟨_, _, rfl, rfl, r⟩
    have h0 : (L2.start N (.ref x :: ws))[0]? = some (some (.ref x)) := rfl
    have s1 := s0.chg 0 (x' := some (.ref x)) (s' := .ins x C []) ⟨dx, [], rfl, addOwn_self, he, rfl⟩ (fun _ _ _ _ _ _ o => o) fun l _ j x s _ _ b c => startS_has j s x l b c
    rw [set_same h0] at s1
    refine h x ds P PX hl hF _ _ c (but x H) own (addOwn own x) _ _ H ⟨fun a z => addOwn_old z, fun a z => ?_, fun a z1 z2 => ?_, but_ex, slots_heap s1, fun i s l a b => ?_⟩
      ⟨fun own' σ' H' δ' ⟨fs, fs', cs, j, p0, ph, pf, p⟩ o' => ?_, fun _ _ _ _ _ _ z => z.elim, fun _ _ _ _ z _ => z.elim, fun _ _ _ _ z _ => z.elim, fun own' σ' H' δ' o' => ?_⟩
    · by_cases hz : a = x
      · subst hz; rw [he]; exact fun z => nomatch z
      · refine ow a ?_
        unfold addOwn at z
        simpa [hz] using z
    · have : a = x := by
        unfold addOwn at z1
        simpa [z2] using z1
      subst this
      exact if_pos rfl
    · have e := (start_own0 (o0 := own) (σ := L2.start N (.ref x :: ws)) (N := N) (ds := .opq (.ref x) :: ds)).chg 0 (x' := some (.ref x)) (s' := .ins x C []) fun x0 l' z y => by
        have z : x0 = some (V.ref l') := z
        subst z
        rcases y with y | y
        · cases y
        · cases y
          exact hx
      rw [set_same h0] at e
      by_cases hi : i < (startI N x C ds).length
      · rw [List.getElem?_append_left hi] at a
        exact e i s l a b
      · rw [List.getElem?_append_right (by omega)] at a
        have : s = .heap [] := by
          cases hz : i - (startI N x C ds).length with
          | zero => rw [hz] at a; exact (Option.some.inj a).symm
          | succ n => rw [hz] at a; cases a
        subst this
        cases b
    · obtain ⟨γ, z0⟩ := o'.sl
      have len0 : 0 < (σ' ++ γ).length := by rw [z0.len]; exact (List.getElem?_eq_some_iff.mp p0).1
      have lenj : j < (σ' ++ γ).length := by rw [z0.len]; exact (List.getElem?_eq_some_iff.mp ph.S).1
      obtain ⟨dx', es, y1, y2, y3, y4⟩ := z0.ok 0 _ _ (List.getElem?_eq_getElem len0) p0
      obtain ⟨nd, hc⟩ := z0.ok j _ _ (List.getElem?_eq_getElem lenj) ph.S
      exact hq fs' es dx' H' p o'.ex y3 (pf.rep hc (fun z hz => o'.acc j _ z.1 ph.S (List.mem_map.mpr ⟨z, hz, rfl⟩)) (mask_mono o'.sub) y4)
    · exact ⟨fun c' p H2 e => hw.pl c' p H2 (o'.ex.trans e), fun c' fs p H2 d es e h1 r => hw.fl c' fs p H2 d es (o'.ex.trans e) (mask_mono o'.sub _ _ h1) (r.mono (mask_mono o'.sub))⟩
/-- a def whose body may own objects -/
theorem fn_okH {M : Md} {y qual : Str} {st : Stmt} {f : Addr} {fd : FuncData} {N ps : List Str} {k n : Nat} {F : Phi} (G : Fun M.K y qual st f fd) (S : FnScope N ps (defScope st)) (hn : ps.length = n)
    (h : ∀ ds P PX, ds.length = n → F ds P PX → ∀ X W, Ct M X W k N (defScope st) → DSs X W (defBody st) (startS N ds ++ [.heap []]) (fun _ => P .non) (fun d _ => P d) (fun _ => False) (fun _ => False) (fun x _ => PX x)) :
    FnOk M.P M.w M.K M.mg M.base (L2.CX M.P M.w) (k + 1) f fd ps (spD M.K n F) := by
  refine G.okX S (fun vs H Q E hh => ?_) (fun cdv A outer s H vs Q E hr hh => ?_)
  · obtain ⟨own, ds, P, PX, _, r, hl, _⟩ := hh
    rw [r.length, hl, hn]
  · obtain ⟨own, ds, P, PX, ow, r, hl, hF, hq, hw⟩ := hh
    refine ⟨_, pss_sem, ?_⟩
    have c : Ct M (cxOf (L2.CX M.P M.w) M.P M.w M.K M.mg M.base N qual (defScope st) f cdv A outer s H E) (fun cls d _ H => E cls d H) k N (defScope st) :=
      ⟨hr, rfl, takes_of rfl rfl rfl rfl, S.nd, rfl, rfl, rfl, rfl, rfl, rfl, fun x hx => hx, fun x hx => hx, fun x hx => hx, S.kind, fun x hx => hx, fun sc own hb => blkOk_by hb, passes_of rfl, fun x hx => .inl rfl⟩
    refine h ds P PX hl hF _ _ c H own own _ _ H ⟨fun a z => z, ow, fun a h1 h2 => absurd (h1.symm.trans h2) (by decide), Ex.refl H, slots_heap (slots_start0 r), fun i s l a b => ?_⟩
      ⟨fun own' σ' H' δ' p o' => hq .non .non H' p o'.ex rfl, fun own' σ' H' δ' d v p o' r => hq d v H' p o'.ex (r.mono (mask_mono o'.sub)), fun _ _ _ _ z _ => z.elim, fun _ _ _ _ z _ => z.elim,
        fun own' σ' H' δ' o' => ⟨fun c' p H2 e => hw.pl c' p H2 (o'.ex.trans e), fun c' fs p H2 d es e h1 r => hw.fl c' fs p H2 d es (o'.ex.trans e) (mask_mono o'.sub _ _ h1) (r.mono (mask_mono o'.sub))⟩⟩
    by_cases hi : i < (startS N ds).length
    · rw [List.getElem?_append_left hi] at a
      exact start_own0 i s l a b
    · rw [List.getElem?_append_right (by omega)] at a
      have : s = .heap [] := by
        cases hz : i - (startS N ds).length with
        | zero => rw [hz] at a; exact (Option.some.inj a).symm
        | succ n => rw [hz] at a; cases a
      subst this
      cases b
/-- x = {}, an owned object -/
theorem ds_celD (c : Ct M X W k Nm sc) {i j : Nat} {s0 : Slot} {p2 p3 : Pos} {cs : List (Addr × Cell)} {N : List Slot → Prop} {R : D → List Slot → Prop} {B C : List Slot → Prop} {PX : Xd → List Slot → Prop} (hh : Hs δ j cs) (hx : At Nm δ x i s0) (hv : Loc sc x)
    (h : ∀ q, ∃ δ1 δ', Hput δ ((q, .dic []) :: cs) j δ1 ∧ Put Nm δ1 x (.val (.opq (.ref q))) i δ' ∧ N δ')
    (hs : swapsWith (.Dict [] [] p3) (some (.Name x p2)) pos.line X.env = pure false := by rfl) : DS X W (.Assign [.Name x p2] (.Dict [] [] p3) pos) δ N R B C PX := fun Hb o0 own D' σ H o g => by
  refine sem_ps (ps_set c.nd (by rw [c.hN]; exact hx.N) (c.loc _ hv) pe_dnewK hs (c.fn x hv)) ?_
  intro l hl
  obtain ⟨δ1, δ', n1, n2, hn⟩ := h l
  refine g.nx (addOwn own l) _ _ δ' hn ?_
  rw [n2.S, n1.S]
  exact (o.newC (c := .dic []) hh.S (Ex.new hl) hl upd_same ⟨[], upd_same, rfl⟩).put (d := .opq (.ref l)) i rfl
/-- self.f = {}, an owned object -/
theorem ds_fldD (c : Ct M X W k Nm sc) {i j : Nat} {l C : Addr} {fs : List (Str × D)} {f : Str} {p2 p3 : Pos} {cs : List (Addr × Cell)} {N : List Slot → Prop} {R : D → List Slot → Prop} {B C' : List Slot → Prop} {PX : Xd → List Slot → Prop} (hh : Hs δ j cs) (hx : At Nm δ x i (.ins l C fs)) (hv : Vis sc x) (cl : Cls M.K C) (na : NoAttr M.K C f) (hn : fs.lookup f = none) (hz : fs.length < 1000)
    (h : ∀ q, ∃ δ1 δ', Hput δ ((q, .dic []) :: cs) j δ1 ∧ Put Nm δ1 x (.ins l C (fs ++ [(f, .opq (.ref q))])) i δ' ∧ N δ') (hd : (x == ("__debug__" : Str)) = false := by decide) (hcd : (x == ("__classdict__" : Str)) = false := by decide)
    (hs : swapsWith (.Dict [] [] p3) (some (.Attribute (.Name x p2) f p)) pos.line X.env = pure false := by rfl) : DS X W (.Assign [.Attribute (.Name x p2) f p] (.Dict [] [] p3) pos) δ N R B C' PX := fun Hb o0 own D' σ H o g => by
  refine sem_psL (ps_fld (pe_var (i := i) (by rw [c.hN]; exact hx.N) (c.vis _ hv) hd hcd) pe_dnewK hs) fun hlen => ?_
  intro q hq
  obtain ⟨δ1, δ', n1, n2, hnn⟩ := h q
  have o1 := o.newC (c := .dic []) hh.S (Ex.new hq) hq upd_same ⟨[], upd_same, rfl⟩
  have ij : j ≠ i := by
    rintro rfl
    have := hh.S.symm.trans hx.S
    cases this
  have hx1 : (δ.set j (.heap ((q, .dic []) :: cs)))[i]? = some (.ins l C fs) := by
    rw [List.getElem?_set_ne ij]; exact hx.S
  obtain ⟨y, h1, dx, es, rfl, h2, h3, h4⟩ := o1.sl.at (hx.lt c hlen) hx1
  refine ⟨_, h1, l, C, dx, es, rfl, h3, by rw [c.hK]; exact cl, by rw [c.hK]; exact na, by rw [h4.length]; exact hz, ?_⟩
  refine g.nx (addOwn own q) _ _ δ' hnn ?_
  rw [n2.S, n1.S]
  refine o1.wrG hx1 rfl h1 h2 ⟨dx, _, rfl, h2, upd_same, ?_⟩ fun _ _ z => z
  rw [mask_upd_own h2, ← putFD_new hn]
  exact h4.put (d := .opq (.ref q)) (v := .ref q) rfl
end
end PV

set_option Elab.async false
set_option linter.all false
set_option maxRecDepth 100000
set_option maxHeartbeats 4000000
/-! PV31: dicts: how many, empty or not -/
namespace PV
open PySem PySem.Spec PyProof.Rows L2
section
variable {M : Md} {X : Cx} {W : WX} {k : Nat} {Nm : List Str} {sc : Scope} {δ δ' δ1 : List Slot} {e a b d2 o i' : Expr} {es : List Expr} {pos p apos : Pos} {x m : Str} {K : Fr} {st : Stmt} {rest : List Stmt} {P : D → Prop} {PX : Xd → Prop}
/-- len(d) -/
theorem de_lenK (c : Ct M X W k Nm sc) (hg : GlS sc "len") (hm : Bi M "len") (h : DK X W a δ (fun kvs => P (.int (kvs.length : Nat))) PX)
    (he : starEach [a] X.env = (false, eval a X.env) :: starEach [] X.env := by rfl) (hpl : (backTo pos (starEach [] X.env)).any (·.1) = false := by rfl) : DE X W (.Call (.Name "len" p) [a] [] pos) δ P PX := by
  intro σ H own Q S q
  refine sem_pe (pe_callB call_lenD (c.gl _ hg) (by rw [c.hmg]; exact hm) PySem.boot_len (pa_cons pe_sem pa_nil he) (by decide) (by decide) he hpl) ?_
  refine h σ H own _ S fun kvs a es H1 p e1 g1 g2 => ?_
  refine ⟨a, es, rfl, g1, ?_⟩
  rw [g2.length]
  exact q (.int kvs.length) _ H1 p e1 rfl
def rEqE (f : Bool → Bool) : R2 := fun x y H Q => ∃ a b ks, x = .ref a ∧ y = .ref b ∧ H a = some (.dK ks) ∧ H b = some (.dK []) ∧ Q (.bl (f (ks.length == 0))) H
theorem op_eqE (hu : X.A.units < cLine) : OpR X (compareOp .Eq) (rEqE id) := by
  intro pins s σ H x y v u Q I rx ry h
  obtain ⟨a, b, ks, rfl, rfl, ea, eb, q⟩ := h
  obtain rfl : v = Value.ref a := rx
  obtain rfl : u = Value.ref b := ry
  obtain ⟨_, ya, va, ra, da⟩ := (show ObjOk X.prog X.w H s.heap a (.dK ks) from I.hok a _ ea)
  obtain ⟨_, yb, vb, rb, db⟩ := (show ObjOk X.prog X.w H s.heap b (.dK []) from I.hok b _ eb)
  have lb : vb.length = 0 := by rw [← rb.length]; rfl
  have hl : (va.length == vb.length && true) = (ks.length == 0) := by rw [← ra.length, lb, Bool.and_true]
  refine PySem.W.keq_eq (knd := mixKind X.prog X.w) (r := true) ya yb da db hu (fun z => ?_) ?_
  · have : va = [] := List.eq_nil_of_length_eq_zero (by rw [z, lb])
    subst this
    exact .nil
  · rw [hl]
    exact ⟨.bl (ks.length == 0), H, I, rfl, q⟩
theorem op_neE (hu : X.A.units < cLine) : OpR X (compareOp .NotEq) (rEqE not) := by
  intro pins s σ H x y v u Q I rx ry h
  obtain ⟨a, b, ks, rfl, rfl, ea, eb, q⟩ := h
  obtain rfl : v = Value.ref a := rx
  obtain rfl : u = Value.ref b := ry
  obtain ⟨_, ya, va, ra, da⟩ := (show ObjOk X.prog X.w H s.heap a (.dK ks) from I.hok a _ ea)
  obtain ⟨_, yb, vb, rb, db⟩ := (show ObjOk X.prog X.w H s.heap b (.dK []) from I.hok b _ eb)
  have lb : vb.length = 0 := by rw [← rb.length]; rfl
  have hl : (va.length == vb.length && true) = (ks.length == 0) := by rw [← ra.length, lb, Bool.and_true]
  refine PySem.W.keq_ne (knd := mixKind X.prog X.w) (r := true) ya yb da db hu (fun z => ?_) ?_
  · have : va = [] := List.eq_nil_of_length_eq_zero (by rw [z, lb])
    subst this
    exact .nil
  · rw [hl]
    exact ⟨.bl (!(ks.length == 0)), H, I, rfl, q⟩
/-- d != {}, as a test -/
theorem dt_neE (c : Ct M X W k Nm sc) {PB : Bool → Prop} {p2 : Pos} (h : DK X W a δ (fun kvs => PB (!(kvs.length == 0))) PX) (hm : behindInMarks .NotEq (.Dict [] [] p2) = false := by first | exact nobehind _ (by decide) (by decide) | rfl) : DT X W (.Compare a [.NotEq] [.Dict [] [] p2] pos) δ PB PX := by
  intro σ H own Q S q
  refine sem_pt (pt_cmpR (op_neE (by have := c.u64; omega)) pe_sem pe_dnewK hm) ?_
  refine h σ H own _ S fun kvs a es H1 p e1 g1 g2 => ?_
  intro b hb
  refine ⟨a, b, es, rfl, rfl, (Ex.new hb) _ _ g1, upd_same, ?_⟩
  rw [g2.length]
  exact ⟨_, rfl, q _ _ p (e1.trans (Ex.new hb))⟩
end
end PV

set_option Elab.async false
set_option linter.all false
set_option maxRecDepth 100000
set_option maxHeartbeats 4000000
/-! PV32: range downwards -/
namespace PV
open PySem PySem.Spec PyProof.Rows L2
def downD (i : Int) (n : Nat) : List D := (List.range n).map fun (k : Nat) => .int (i - (k : Int))
theorem downD_len {i : Int} {n : Nat} : (downD i n).length = n := by simp [downD]
theorem downD_get {i : Int} {n k : Nat} {d : D} (h : (downD i n)[k]? = some d) : k < n ∧ d = .int (i - (k : Int)) := by
  have hk : k < n := by simpa [downD] using (List.getElem?_eq_some_iff.mp h).1
  have e : (downD i n)[k]? = some (.int (i - (k : Int))) := by simp [downD, hk]
  rw [e] at h
  cases h
  exact ⟨hk, rfl⟩
section
variable {M : Md} {X : Cx} {W : WX} {k : Nat} {Nm : List Str} {sc : Scope} {δ : List Slot} {a b b2 tg : Expr} {pos p : Pos} {PX : Xd → Prop} {K : Fr}
theorem downD_wk {own : Addr → Bool} {H : Hp} {i : Int} {n : Nat} : Wk K own H (Itc i (-1) n) (downD i n) := by
  intro own' H' ow' e'
  refine ⟨fun j d hd => ?_, fun j hj => ?_⟩
  · obtain ⟨hj, rfl⟩ := downD_get hd
    refine ⟨hj, fun y H2 hy => ?_⟩
    obtain ⟨rfl, rfl⟩ := hy
    refine ⟨Ex.refl _, ?_⟩
    show V.int (i + (j : Nat) * -1) = .int (i - (j : Int))
    congr 1
    omega
  · rw [downD_len] at hj
    exact hj
/-- range(i, j, -1) -/
theorem di_down {P : List D → Prop} (c : Ct M X W k Nm sc) (hg : GlS sc "range") (hm : Bi M "range") (h : DA X W [a, b, b2] δ (fun ds => ∃ i j : Int, ds = [.int i, .int j, .int (-1)] ∧ -(2 ^ 62) ≤ i ∧ i < 2 ^ 62 ∧ -(2 ^ 62) ≤ j ∧ j < 2 ^ 62 ∧ P (downD i (i - j).toNat)) PX)
    (hs : starEach [a, b, b2] X.env = (false, eval a X.env) :: starEach [b, b2] X.env := by rfl) (hpl : (backTo pos (starEach [b, b2] X.env)).any (·.1) = false := by rfl) : DI X W tg (.Call (.Name "range" p) [a, b, b2] [] pos) δ P PX := by
  intro σ H own Q S q pins s I
  refine (pi_range3 (c.gl _ hg) (by rw [c.hmg]; exact hm) pa_sem hs hpl).run pins s σ H Q I ?_
  refine h σ H own _ S fun ds vs H1 ⟨i, j, hd, h1, h2, h3, h4, p⟩ e1 r => ?_
  subst hd
  obtain ⟨v, r1, rfl, rv, w, r2, rfl, rw', u, r3, rfl, ru, rfl⟩ := r
  have e2 : v = .int i := rv
  have e3 : w = .int j := rw'
  have e4 : u = .int (-1) := ru
  subst e2; subst e3; subst e4
  exact ⟨i, j, -1, _, rfl, RgC.neg h1 h2 h3 h4, q _ _ H1 p e1 downD_wk⟩
end
end PV

set_option Elab.async false
set_option linter.all false
set_option maxRecDepth 100000
set_option maxHeartbeats 2000000
/-! PV33: reversed(list), dict(pairs), sorted of whole numbers, however many -/
namespace PV
open PySem PySem.Spec PyProof.Rows L2
theorem mergeD_new {kds : List (Key × D)} : ∀ {pre : List (Key × D)}, ((pre ++ kds).map (·.1)).Nodup → mergeD pre kds = pre ++ kds := by
  induction kds with
  | nil => intro pre _; simp [mergeD]
  | cons a r ih =>
    intro pre h
    have e : putKD pre a.1 a.2 = pre ++ [a] := by
      have : (pre.any fun kv => decide (kv.1 = a.1)) = false := by
        rw [List.any_eq_false]
        intro x hx hc
        have hc : x.1 = a.1 := by simpa using hc
        rw [List.map_append, List.nodup_append] at h
        exact h.2.2 x.1 (List.mem_map.mpr ⟨x, hx, rfl⟩) a.1 (by simp) hc
      unfold putKD
      rw [this, if_neg Bool.false_ne_true]
    show mergeD (putKD pre a.1 a.2) r = _
    rw [e, ih (by simpa using h)]
    simp
section
variable {M : Md} {X : Cx} {W : WX} {k : Nat} {Nm : List Str} {sc : Scope} {δ : List Slot} {a tg : Expr} {pos p : Pos} {PX : Xd → Prop} {K : Fr}
/-- reversed(ds) -/
theorem di_rev {P : List D → Prop} (c : Ct M X W k Nm sc) (hg : GlS sc "reversed") (hm : Bi M "reversed") (h : DE X W a δ (fun d => ∃ ds, d = .lst ds ∧ P ds.reverse) PX)
    (hs : starEach [a] X.env = (false, eval a X.env) :: starEach [] X.env := by rfl) : DI X W tg (.Call (.Name "reversed" p) [a] [] pos) δ P PX := by
  intro σ H own Q S q pins s I
  refine (RT.pi_revA (c.gl _ hg) (by rw [c.hmg]; exact hm) pe_sem hs).run pins s σ H Q I ?_
  refine h σ H own _ S fun d v H1 ⟨ds, hd, p⟩ e1 r => ?_
  subst hd
  obtain ⟨l, vs, rfl, h1, h2⟩ := r
  refine ⟨l, vs, rfl, .inl ⟨mask_le.sqL h1, q _ _ H1 p e1 fun own' H' ow' e' => ?_⟩⟩
  refine ⟨fun i d hd => ?_, fun i hi => ?_⟩
  · have hl := h2.length
    have hi : i < ds.length := by simpa using (List.getElem?_eq_some_iff.mp hd).1
    rw [List.getElem?_reverse hi] at hd
    obtain ⟨v, h3, h4⟩ := h2.get hd
    rw [← hl] at h3
    refine ⟨⟨by omega, vs, v, mask_le.sqL (e'.sqL h1), h3⟩, fun y H'' hy => ?_⟩
    obtain ⟨z, hy⟩ := hy
    subst z
    have := hy vs (mask_le.sqL (e'.sqL h1))
    rw [h3] at this; cases this
    exact ⟨Ex.refl _, h4.mono e'⟩
  · rw [List.length_reverse] at hi
    show vs.length ≤ i
    rw [h2.length]; exact hi
/-- dict(pairs) -/
theorem de_dictP {P : D → Prop} (c : Ct M X W k Nm sc) (hg : GlS sc "dict") (hm : Bi M "dict") (h : DE X W a δ (fun x => ∃ kvs : List (Key × D), x = .lst (kvs.map fun kv => .tup [keyD kv.1, kv.2]) ∧ P (.dic (mergeD [] kvs))) PX)
    (he : starEach [a] X.env = (false, eval a X.env) :: starEach [] X.env := by rfl) (hpl : (backTo pos (starEach [] X.env)).any (·.1) = false := by rfl) : DE X W (.Call (.Name "dict" p) [a] [] pos) δ P PX := by
  refine de_callT c (call_dictP c.calm) hg hm (by decide +kernel) (da_cons (h.imp fun x ⟨kvs, hx, p⟩ => da_nil ?_) he) (by decide) (by decide) he hpl
  subst hx
  intro vs H own Q ow r q
  obtain ⟨v, rfl, l, ws, rfl, h1, h2⟩ := r.vals1
  have go : ∀ {kvs : List (Key × D)} {ws : List V}, RepL X.K (mask own H) (kvs.map fun kv => D.tup [keyD kv.1, kv.2]) ws → ∃ (ps : List Addr) (es : List (Key × V)), ws = ps.map V.ref ∧ Paired (fun p kv => SqT X.K H p [kV kv.1, kv.2]) ps es ∧ RepK X.K (mask own H) kvs es := by
    intro kvs
    induction kvs with
    | nil => intro ws h; have h : ws = [] := h; subst h; exact ⟨[], [], rfl, .nil, rfl⟩
    | cons kd r ih =>
      intro ws h
      obtain ⟨kk, d⟩ := kd
      obtain ⟨v, t, rfl, ⟨a, us, rfl, g1, ku, r1, e1, g2, du, r2, rfl, g3, g4⟩, h3⟩ := h
      have g4 : r2 = [] := g4
      subst g4
      obtain ⟨ps, es, rfl, p1, p2⟩ := ih h3
      have e3 : ku = kV kk := keyD_rep g2
      subst e1; subst e3
      exact ⟨a :: ps, (kk, du) :: es, rfl, .cons (mask_le.sqT g1) p1, du, es, rfl, g3, p2⟩
  obtain ⟨ps, es, rfl, p1, p2⟩ := go h2
  refine ⟨l, ps, es, rfl, mask_le.sqL h1, p1, fun l' hl => ?_⟩
  refine q (.dic (mergeD [] kvs)) _ _ p (Ex.new hl) ⟨l', mergeK [] es, rfl, ?_, ?_⟩
  · rw [mask_new ow hl]; exact upd_same
  · rw [mask_new ow hl]
    exact (RepK.merge (kds := []) (es := []) p2 rfl).mono (Ex.new (mask_at hl))
/-- sorted(ns), whole numbers -/
theorem de_sortedIL {P : D → Prop} (c : Ct M X W k Nm sc) (hg : GlS sc "sorted") (hm : Bi M "sorted") (h : DE X W a δ (fun x => ∃ ns : List Int, x = .lst (ns.map .int) ∧ ∀ ms : List Int, ms.Perm ns → ms.Pairwise (· ≤ ·) → P (.lst (ms.map .int))) PX)
    (he : starEach [a] X.env = (false, eval a X.env) :: starEach [] X.env := by rfl) (hpl : (backTo pos (starEach [] X.env)).any (·.1) = false := by rfl) : DE X W (.Call (.Name "sorted" p) [a] [] pos) δ P PX := by
  refine de_callB c L2.cr_sortedI hg hm (by decide +kernel) (da_cons (h.imp fun x ⟨ns, hx, p⟩ => da_nil ?_) he) (by decide) (by decide) he hpl
  subst hx
  intro vs H own Q ow r q
  obtain ⟨v, rfl, l, ws, rfl, h1, h2⟩ := r.vals1
  rw [h2.ints] at h1
  exact ⟨l, ns, rfl, mask_le.sqL h1, fun ms l' h3 h4 hl' => new_lst (K := X.K) ow (RepL.ofInts ms) (p ms h3 h4) q l' hl'⟩
end
end PV

set_option Elab.async false
set_option linter.all false
set_option maxRecDepth 100000
set_option maxHeartbeats 2000000
/-! PV34: a step that waits; data alike itself; how many unlike whole numbers -/
namespace PV
open PySem PySem.Spec PyProof.Rows L2
/-- the menu's steps stop here -/
def Hold (p : Prop) : Prop := p
theorem unhold {p : Prop} (h : Hold p) : p := h
theorem Hold.of {p : Prop} (h : p) : Hold p := h
theorem okN_up : ∀ (n m : Nat) (d : D), okN n d = true → n ≤ m → okN m d = true := by
  intro n
  induction n with
  | zero =>
    intro m d h hm
    cases d with
    | lst ds => cases h
    | tup ds => cases h
    | dic _ => cases h
    | obj _ _ => cases h
    | exc _ _ _ => cases h
    | opq _ => cases h
    | non => cases m <;> rfl
    | bl _ => cases m <;> rfl
    | int _ => cases m <;> rfl
    | str s => cases m <;> exact h
  | succ n ih =>
    intro m d h hm
    obtain ⟨m, rfl⟩ : ∃ k, m = k + 1 := ⟨m - 1, by omega⟩
    cases d with
    | lst ds =>
      have h : ds.all (okN n) = true := h
      show ds.all (okN m) = true
      rw [List.all_eq_true] at h ⊢
      exact fun x hx => ih m x (h x hx) (by omega)
    | tup ds =>
      have h : ds.all (okN n) = true := h
      show ds.all (okN m) = true
      rw [List.all_eq_true] at h ⊢
      exact fun x hx => ih m x (h x hx) (by omega)
    | dic _ => cases h
    | obj _ _ => cases h
    | exc _ _ _ => cases h
    | opq _ => cases h
    | non => rfl
    | bl _ => rfl
    | int _ => rfl
    | str s => exact h
theorem eqvAll_self : ∀ {ds : List D}, (∀ d ∈ ds, eqb d d = true) → PyData.eqvAll (pyL ds) (pyL ds) = true
  | [], _ => by simp [pyL, PyData.eqvAll]
  | d :: r, h => by
    have h1 : PyData.eqv d.py d.py = true := h d List.mem_cons_self
    show PyData.eqvAll (d.py :: pyL r) (d.py :: pyL r) = true
    rw [PyData.eqvAll, h1, eqvAll_self fun x hx => h x (List.mem_cons_of_mem _ hx)]
    rfl
theorem eqb_self : ∀ (n : Nat) (d : D), okN n d = true → eqb d d = true := by
  intro n
  induction n with
  | zero =>
    intro d h
    cases d <;> first | (simp [eqb, D.py, PyData.eqv]; done) | cases h
  | succ n ih =>
    intro d h
    cases d with
    | lst ds =>
      have h : ds.all (okN n) = true := h
      rw [List.all_eq_true] at h
      have := eqvAll_self fun d hd => ih d (h d hd)
      simpa [eqb, D.py, PyData.eqv] using this
    | tup ds =>
      have h : ds.all (okN n) = true := h
      rw [List.all_eq_true] at h
      have := eqvAll_self fun d hd => ih d (h d hd)
      simpa [eqb, D.py, PyData.eqv] using this
    | dic _ => cases h
    | obj _ _ => cases h
    | exc _ _ _ => cases h
    | opq _ => cases h
    | non => simp [eqb, D.py, PyData.eqv]
    | bl _ => simp [eqb, D.py, PyData.eqv]
    | int _ => simp [eqb, D.py, PyData.eqv]
    | str s => simp [eqb, D.py, PyData.eqv]
theorem eqb_nil {xs : List D} : eqb (.lst xs) (.lst []) = xs.isEmpty := by
  cases xs with
  | nil => rfl
  | cons a r => rfl
theorem eqb_bl {a b : Bool} : eqb (.bl a) (.bl b) = (a == b) := by cases a <;> cases b <;> rfl
theorem atI_end {xs : List D} {x : D} : L2.atI (xs ++ [x]) (-1) = some x := by
  unfold L2.atI L2.ixN
  have hl : (xs ++ [x]).length = xs.length + 1 := by simp
  rw [hl, if_neg (by decide), if_pos (by omega)]
  have e : (-1 + (((xs.length + 1 : Nat)) : Int)).toNat = xs.length := by omega
  show (xs ++ [x])[(-1 + (((xs.length + 1 : Nat)) : Int)).toNat]? = _
  rw [e]
  simp
/-! how many unlike ones -/
abbrev met (ns : List Int) (i : Nat) : List Int := PyProof.Rows.firstMet (fun k => ns.getD k 0) i
theorem firstMet_len (ns : List Int) : ∀ i, i ≤ ns.length → (met ns i).length ≤ i ∧ ((met ns i).length = i → met ns i = ns.take i ∧ (ns.take i).Nodup)
  | 0, _ => ⟨Nat.le_refl _, fun _ => ⟨rfl, by simp⟩⟩
  | i + 1, hi => by
    obtain ⟨h1, h2⟩ := firstMet_len ns i (Nat.le_of_succ_le hi)
    have step : met ns (i + 1) = if (met ns i).any (· == ns[i]) then met ns i else met ns i ++ [ns[i]] := by
      have one : ns.getD i 0 = ns[i] := by simp [show i < ns.length from hi]
      show PyProof.Rows.firstMet _ (i + 1) = _
      rw [PyProof.Rows.firstMet_succ, ← one]
      rfl
    have more : ns.take (i + 1) = ns.take i ++ [ns[i]] := by simp
    rw [step, more]
    split
    · exact ⟨by omega, fun h => by omega⟩
    · rename_i hn
      refine ⟨by simp; omega, fun h => ?_⟩
      obtain ⟨g1, g2⟩ := h2 (by simpa using h)
      rw [g1] at hn ⊢
      refine ⟨rfl, List.nodup_append.mpr ⟨g2, by simp, fun a ha b hb e => hn ?_⟩⟩
      obtain rfl : b = ns[i] := List.mem_singleton.mp hb
      subst e
      exact List.any_eq_true.mpr ⟨_, ha, by simp⟩
/-- how many unlike whole numbers -/
def unlike (ns : List Int) : Nat := (met ns ns.length).length
theorem unlike_le (ns : List Int) : unlike ns ≤ ns.length := (firstMet_len ns ns.length (Nat.le_refl _)).1
theorem unlike_iff (ns : List Int) : unlike ns = ns.length ↔ ns.Nodup := by
  constructor
  · intro h
    have := ((firstMet_len ns ns.length (Nat.le_refl _)).2 h).2
    rwa [List.take_length] at this
  · intro h
    show (PyProof.Rows.firstMet (fun k => ns.getD k 0) ns.length).length = _
    rw [RZ.firstMet_nodup h ns.length (Nat.le_refl _), List.take_length]
/-- what is asked of a list whose unlike ones are counted -/
def tLenSetG (K : PySem.W.Frag) (ta : TE) : TE := fun σ H Q => ta σ H fun x G => ∃ (l : Addr) (ns : List Int), x = .ref l ∧ SqL K G l (ns.map V.int) ∧ ns.length ≤ 4000 ∧ Q (.int (unlike ns : Nat)) G
theorem set_made {X : Cx} {pins : List (Addr × Obj)} {σ : L2.St} {G : Hp} {s : Shared} {l : Addr} {ns : List Int} {R : Value → Shared → Prop} (hc : X.calm = true) (I : L2.Inv X pins σ G s) (hq : SqL X.K G l (ns.map V.int)) (hl : ns.length ≤ 4000)
    (h : ∀ (h' : Heap) (tk : Nat), L2.Inv X pins σ G { s with heap := h', toks := tk } → wpAny (model X.prog X.w) X.A (PySem.call (.builtin "len") [.ref s.heap.objs.size]) (EP X pins σ fun v H => v = .int (unlike ns : Nat) ∧ H = G) X.xe { s with heap := h', toks := tk } → R (.ref s.heap.objs.size) { s with heap := h', toks := tk }) :
    wpAny (model X.prog X.w) X.A (PySem.call (.type "set") [.ref l]) R X.xe s := by
  obtain ⟨vals, rel, plain, _⟩ := I.list hq
  have size : vals.toArray.size = ns.length := by simpa using rel.length.symm
  refine call_set_list (I.ok.hd hc) plain.isList (by simpa using RZ.intsAre_vals rel) (by rw [size]; exact Nat.lt_of_le_of_lt (Nat.succ_le_succ hl) (by decide)) fun h' tk made keep => ?_
  have inv : L2.Inv X pins σ G { s with heap := h', toks := tk } := I.kept fun b o e => keep b o (Heap.lt_size e) e
  rw [size] at made
  obtain ⟨ob, ents, _, _, at_, exact_, dat, _, _, _, free, many⟩ := made
  have many : ents.size = unlike ns := many
  exact h h' tk inv (call_len_set at_ exact_ dat free (by have := unlike_le ns; omega) ⟨.int (unlike ns : Nat), G, inv.tok _, ⟨_, by rw [many]⟩, rfl, rfl⟩)
theorem pe_lenSetG {X : Cx} {a : Expr} {ta : TE} {p p2 q pos : Pos} (g1 : Gl X "len") (m1 : X.mg "len" = none) (g2 : Gl X "set") (m2 : X.mg "set" = none) (ha : PE X a ta) (hc : X.calm = true)
    (one : starEach [a] X.env = (false, eval a X.env) :: starEach [] X.env := by rfl) : PE X (.Call (.Name "len" p) [.Call (.Name "set" p2) [a] [] q] [] pos) (tLenSetG X.K ta) := by
  constructor
  intro pins s σ H Q I h
  refine Call_ (ld_blt I g1 m1 PySem.boot_len (PyProof.Rows.callWith_builtin1 (PyProof.Rows.args_cons (Call_ (ld_blt I g2 m2 PyProof.Rows.boot_set (PyProof.Rows.callWith_type1 (PyProof.Rows.args_cons (thn (ha.run pins s σ H _ I h) ?_) one) one rfl))) rfl) rfl rfl))
  rintro v s1 ⟨x, G, inv, rel, l, ns, rfl, hq, hl, fin⟩
  cases rel
  refine PyProof.Rows.args_nil (set_made hc inv hq hl fun h' tk _ w => PyProof.Rows.args_nil ?_)
  exact thn w fun v s2 ⟨y, H2, i2, r2, e1, e2⟩ => by
    subst e1; subst e2
    exact ⟨_, _, i2, r2, fin⟩
section
variable {M : Md} {X : Cx} {W : WX} {k : Nat} {Nm : List Str} {sc : Scope} {δ : List Slot} {a : Expr} {pos p : Pos} {P : D → Prop} {PX : Xd → Prop}
/-- len(set(ns)) -/
theorem de_lenSetG {p2 q : Pos} (c : Ct M X W k Nm sc) (hg : GlS sc "len") (hm : Bi M "len") (hg2 : GlS sc "set") (hm2 : Bi M "set") (h : DE X W a δ (fun x => ∃ ns : List Int, x = .lst (ns.map .int) ∧ ns.length ≤ 4000 ∧ P (.int (unlike ns : Nat))) PX)
    (na : starEach [a] X.env = (false, eval a X.env) :: starEach [] X.env := by rfl) : DE X W (.Call (.Name "len" p) [.Call (.Name "set" p2) [a] [] q] [] pos) δ P PX := by
  refine de_mk (pe_lenSetG (c.gl _ hg) (by rw [c.hmg]; exact hm) (c.gl _ hg2) (by rw [c.hmg]; exact hm2) pe_sem c.calm na) ?_
  intro σ H own Q S q
  refine h σ H own _ S fun x v H1 ⟨ns, hx, hl, p⟩ e1 r => ?_
  subst hx
  obtain ⟨l, ws, rfl, h1, h2⟩ := r
  rw [h2.ints] at h1
  exact ⟨l, ns, rfl, mask_le.sqL h1, hl, q _ _ H1 p e1 rfl⟩
end
end PV

set_option Elab.async false
set_option linter.all false
set_option maxRecDepth 100000
set_option maxHeartbeats 2000000
/-! PV35: isinstance(x, (A, B)); zip of tuples; a module's tuple of texts -/
namespace PV
open PySem PySem.Spec PyProof.Rows L2
section
variable {M : Md} {X : Cx} {W : WX} {k : Nat} {Nm : List Str} {sc : Scope} {δ : List Slot} {e a b : Expr} {pos p : Pos} {P : D → Prop} {PX : Xd → Prop} {x y : Str}
theorem de_isi2 {p1 p2 tpos : Pos} {A B : String} {kk : Nat} (c : Ct M X W k Nm sc) (hg : GlS sc "isinstance") (hm : Bi M "isinstance") (hgx : GlS sc x) (hmx : Bi M x) (hvx : bootBuiltins x = some (.type A)) (hgy : GlS sc y) (hmy : Bi M y) (hvy : bootBuiltins y = some (.type B))
    (h : DR X W e δ (fun d => ∃ T' u v, d.tyN = some T' ∧ kitB T' A = some u ∧ kitB T' B = some v ∧ P (.bl (u || v))) PX) (hnx : x ≠ "__name__" := by decide) (hdx : (x == ("__debug__" : Str)) = false := by decide) (hny : y ≠ "__name__" := by decide) (hdy : (y == ("__debug__" : Str)) = false := by decide)
    (he : starEach [e, .Tuple [.Name x p1, .Name y p2] kk tpos] X.env = (false, eval e X.env) :: starEach [.Tuple [.Name x p1, .Name y p2] kk tpos] X.env := by rfl) (hpl : (backTo pos (starEach [.Tuple [.Name x p1, .Name y p2] kk tpos] X.env)).any (·.1) = false := by rfl) :
    DE X W (.Call (.Name "isinstance" p) [e, .Tuple [.Name x p1, .Name y p2] kk tpos] [] pos) δ P PX := by
  refine de_mk (pe_callB call_isiT (c.gl _ hg) (by rw [c.hmg]; exact hm) (by decide +kernel) (pa_cons pe_sem (pa_cons (pe_tup (pa_cons (pe_bltn (v := .ty A) (c.gl _ hgx) (by rw [c.hmg]; exact hmx) hvx rfl hnx hdx) (pa_cons (pe_bltn (v := .ty B) (c.gl _ hgy) (by rw [c.hmg]; exact hmy) hvy rfl hny hdy) pa_nil rfl) rfl)) pa_nil rfl) he) (by decide) (by decide) he hpl) ?_
  intro σ H own Q S q
  refine h σ H own _ S fun d v H1 ⟨T', u, w, h1, h2, h3, pr⟩ e1 r => ?_
  refine ⟨by show 2 ≤ sizeLine; rw [sizeLine_eq]; omega, fun tp htp => ?_⟩
  refine ⟨v, tp, _, .type T', [.type A, .type B], u || w, rfl, upd_same, .cons (.ty A) (.cons (.ty B) .nil), tyN_ok h1 (r.mono (Ex.new htp)), ?_, q (.bl (u || w)) _ _ pr (e1.trans (Ex.new htp)) rfl⟩
  have k1 := kit_ty (K := X.K) h2
  have k2 := kit_ty (K := X.K) h3
  unfold PySem.W.kitAny
  rw [k1]
  cases u with
  | true => rfl
  | false =>
    show PySem.W.kitAny X.K (.type T') [.type B] = some (false || w)
    unfold PySem.W.kitAny
    rw [k2]
    cases w <;> rfl
theorem di_zipT {tpos : Pos} {elts : List Expr} {kk : Nat} {P : List D → Prop} (c : Ct M X W k Nm sc) (hg : GlS sc "zip") (hm : Bi M "zip") (h : DE X W a δ (fun d => ∃ ds, d = .tup ds ∧ DE X W b δ (fun d => ∃ es, d = .tup es ∧ P (zipD ds es)) PX) PX)
    (hs : starEach [a, b] X.env = (false, eval a X.env) :: starEach [b] X.env := by rfl) (hs2 : starEach [b] X.env = [(false, eval b X.env)] := by rfl) (hpl : (backTo pos (starEach [b] X.env)).any (·.1) = false := by rfl) : DI X W (.Tuple elts kk tpos) (.Call (.Name "zip" p) [a, b] [] pos) δ P PX := by
  intro σ H own Q S q pins s I
  refine (RZ.pi_zipA (c.gl _ hg) (by rw [c.hmg]; exact hm) pa_sem hs hpl).run pins s σ H Q I ?_
  refine (da_cons (P := fun zs => ∃ ds es, zs = [.tup ds, .tup es] ∧ P (zipD ds es)) ?_ hs) σ H own _ S fun zs vs H1 ⟨ds, es, hd, p⟩ e1 r => ?_
  · intro σ H own Q S q
    refine h σ H own Q S fun d v H2 ⟨ds, hd, p⟩ e2 r => q d v H2 ?_ e2 r
    refine da_cons ?_ hs2
    intro σ H own Q S q
    exact p σ H own Q S fun d' v' H3 ⟨es, hd', p'⟩ e3 r' => q d' v' H3 (da_nil ⟨ds, es, by rw [hd, hd'], p'⟩) e3 r'
  subst hd
  obtain ⟨v, w, rfl, ⟨a, vs, rfl, h1, h2⟩, ⟨b, ws, rfl, h3, h4⟩⟩ := r.vals2
  refine ⟨a, b, vs, ws, rfl, .inr ⟨mask_le.sqT h1, mask_le.sqT h3, q _ _ H1 p e1 fun own' H' ow' e' => ⟨fun i d hd => ?_, fun i hi => ⟨vs, ws, mask_le.sqT (e'.sqT h1), mask_le.sqT (e'.sqT h3), by rw [h2.length, h4.length]; rw [zipD_len] at hi; omega⟩⟩⟩⟩
  rw [zipD_get] at hd
  cases hx : ds[i]? with
  | none => rw [hx] at hd; cases hd
  | some x =>
    cases hy : es[i]? with
    | none => rw [hx, hy] at hd; cases hd
    | some y =>
      rw [hx, hy] at hd
      cases hd
      obtain ⟨v, h5, h6⟩ := h2.get hx
      obtain ⟨w, h7, h8⟩ := h4.get hy
      refine ⟨⟨vs, ws, v, w, mask_le.sqT (e'.sqT h1), mask_le.sqT (e'.sqT h3), h5, h7⟩, fun y' H'' hy' => ?_⟩
      obtain ⟨T, x', y2, rfl, hT, rfl, hv, hw⟩ := hy'
      have z1 := hv vs (mask_le.sqT (e'.sqT h1))
      have z2 := hw ws (mask_le.sqT (e'.sqT h3))
      rw [h5] at z1; cases z1
      rw [h7] at z2; cases z2
      refine ⟨Ex.new hT, ?_⟩
      rw [mask_new ow' hT]
      have e2 := e'.trans (Ex.new (mask_at hT) (o := .tup [v, w]))
      exact ⟨T, _, rfl, SqT.of upd_same, _, _, rfl, h6.mono e2, _, _, rfl, h8.mono e2, rfl⟩
end
/-- a module's tuple of two texts -/
theorem gl_tup2 {M : Md} {x s1 s2 : Str} {q : Addr} {dd : Option Addr} {t1 t2 : Tok} {n : Nat} {sl : Array (Option Value)} (hm : M.mg x = some (.ref q)) (hl : M.K.lookup q = some ⟨.type "tuple", dd, .seq #[.str s1 t1, .str s2 t2] n, sl⟩) : GlD M x (.tup [.str s1, .str s2]) :=
  ⟨.ref q, .ref q, hm, rfl, fun H => ⟨q, [.str s1, .str s2], rfl, .inr ⟨_, _, n, hl, rfl, rfl, by show 2 ≤ sizeLine; rw [sizeLine_eq]; omega, .cons ⟨_, rfl⟩ (.cons ⟨_, rfl⟩ .nil)⟩, .str s1, _, rfl, rfl, .str s2, [], rfl, rfl, rfl⟩⟩
end PV

set_option Elab.async false
set_option linter.all false
set_option maxRecDepth 100000
set_option maxHeartbeats 4000000
/-! PV36: comprehensions over a list that is owned by a name -/
namespace PV
open PySem PySem.Spec PyProof.Rows L2
/-- the walk J yields the data ds, as long as the heap just grows -/
def Wk2 (K : Fr) (own : Addr → Bool) (H1 : Hp) (J : It) (ds : List D) : Prop := ∀ own' H', (∀ a, own' a = true → H' a ≠ none) → Ex H1 H' → Ex (mask own H1) (mask own' H') →
  (∀ i d, ds[i]? = some d → J.go i H' ∧ ∀ y H'', J.yld i H' y H'' → Ex H' H'' ∧ Rep K (mask own' H'') d y) ∧ ∀ i, ds.length ≤ i → J.stop i H'
def DI2 (X : Cx) (W : WX) (tg iter : Expr) (δ : List Slot) (P : List D → Prop) (PX : Xd → Prop) : Prop := ∀ σ H own (Q : It → Hp → Prop), Sy X.K W own σ H δ PX → (∀ ds J H1, P ds → Ex H H1 → Wk2 X.K own H1 J ds → Q J H1) → semI X tg iter σ H Q
section
variable {M : Md} {X : Cx} {W : WX} {k : Nat} {Nm : List Str} {sc : Scope} {δ δ' δ1 : List Slot} {e a b d2 o tg : Expr} {es : List Expr} {pos p apos : Pos} {x m : Str} {K : Fr} {st : Stmt} {rest : List Stmt}
/-- an owned list by its name -/
theorem di2_acc {P : List D → Prop} {PX : Xd → Prop} (c : Ct M X W k Nm sc) {i : Nat} {ds : List D} (h : At Nm δ x i (.acc ds)) (hv : Vis sc x) (q0 : P ds) (hd : (x == ("__debug__" : Str)) = false := by decide) (hcd : (x == ("__classdict__" : Str)) = false := by decide) : DI2 X W tg (.Name x pos) δ P PX := by
  intro σ H own Q S q pins s I
  obtain ⟨y, h1, l, vs, rfl, h2, h3, h4⟩ := S.sl.at (h.lt c I.len) h.S
  have at_ : ∀ {H' : Hp}, Ex H H' → SqL X.K H' l vs := fun ex => SqL.of (ex _ _ h3)
  refine (pi_list (pe_var (by rw [c.hN]; exact h.N) (c.vis _ hv) hd hcd)).run pins s σ H Q I ⟨_, h1, l, rfl, ⟨vs, at_ (Ex.refl H)⟩, q ds _ H q0 (Ex.refl H) fun own' H' ow' ex e' => ⟨fun i d hd => ?_, fun i hi => ⟨vs, at_ ex, by rw [h4.length]; exact hi⟩⟩⟩
  obtain ⟨v, h5, h6⟩ := h4.get hd
  refine ⟨⟨vs, v, at_ ex, h5⟩, fun y H'' hy => ?_⟩
  obtain ⟨z, hy⟩ := hy
  subst z
  have := hy vs (at_ ex)
  rw [h5] at this; cases this
  exact ⟨Ex.refl _, h6.mono e'⟩
theorem lc_readR2 (c : Ct M X W k Nm sc) {PX : Xd → Prop} {P : List D → Prop} {tg iter elt : Expr} {scope : Scope} {own : List (Str × Nat)} {α : Type} (hkd : scope.kind = .function) (hw : Wp own Nm δ δ1)
    (h : DI2 X W tg iter δ (LcR M k Nm scope own δ1 tg elt α P) PX)
    {σ : L2.St} {H : Hp} {ow : Addr → Bool} {Q : VK} (S : Sy X.K W ow σ H δ PX)
    (hq : ∀ ds l vs H2, P ds → Ex H H2 → H l = none → H2 l = some (.lst vs) → RepL X.K (mask (addOwn ow l) H2) ds vs → Q (.ref l) H2) :
    tLc (semI X tg iter) (semGF (Blk X scope) tg) (semTF (Blk X scope) []) (semF (Blk X scope) elt) (own.map (·.2)) σ H Q := by
  refine h σ H ow _ S fun ds J H1 ⟨xs, emb, Rr, hds, hlen, body, fin⟩ e1 wk => ?_
  subst hds
  intro l hl
  have hlH : H l = none := e1.free hl
  have S1 := S.mono e1
  have e0 : Ex H1 (upd H1 l (.lst [])) := Ex.new hl
  have sl1 : ∀ {H' : Hp}, Ex H1 H' → Slots X.K (addOwn ow l) H' σ δ := fun {H'} e' => S1.sl.add e' hl
  refine ⟨fun i m H' => m = xs.length - i ∧ i ≤ xs.length ∧ Ex H1 H' ∧ ∃ vs ys, H' l = some (.lst vs) ∧ Rels Rr (xs.take i) ys ∧ RepL X.K (mask (addOwn ow l) H') ys vs, ⟨xs.length, by simp, Nat.zero_le _, e0, [], [], upd_same, .nil, rfl⟩, ?_⟩
  rintro i m H' ⟨rfl, hi, e', vs, ys, hv, rel, r⟩
  have ow' : ∀ a, addOwn ow l a = true → H' a ≠ none := fun a ha z => by
    unfold addOwn at ha
    rcases Bool.or_eq_true_iff.mp ha with h | h
    · exact S1.ow a h (e'.free z)
    · have : a = l := by simpa using h
      subst this
      rw [hv] at z; cases z
  obtain ⟨wk1, wk2⟩ := wk (addOwn ow l) H' ow' e' (mask_add e' hl)
  by_cases hlt : i < xs.length
  · have hd : (xs.map emb)[i]? = some (emb xs[i]) := by simp [hlt]
    obtain ⟨go, yld⟩ := wk1 i _ hd
    obtain ⟨δ2, T, ⟨gg, g1, g2⟩, hT, hb⟩ := body xs[i] (by simp)
    have htake : xs.take (i + 1) = xs.take i ++ [xs[i]] := by simp
    refine .inr ⟨go, fun H3 => Ex H1 H3 ∧ ∃ vs ys, H3 l = some (.lst vs) ∧ Rels Rr (xs.take (i + 1)) ys ∧ RepL X.K (mask (addOwn ow l) H3) ys vs, fun H3 ⟨e3, v3⟩ => ⟨xs.length - (i + 1), by omega, rfl, hlt, e3, v3⟩, fun y H2 hy => ?_⟩
    obtain ⟨e2, ry⟩ := yld y H2 hy
    have S2 := ((sl1 (e'.trans e2)).wipe (own.map (·.2)))
    rw [← hw.S] at S2
    rw [c.hK] at S2 ry
    intro X' hX pins s u Iv ru
    refine (g1 X' W0 k (hX.ct c hkd)).run pins s _ H2 y u _ Iv ru (g2 y _ H2 (addOwn ow l) (fun _ => false) _ S2 (fun _ _ _ _ _ => rfl) ry fun σ3 S3 _ but => ⟨?_, ?_⟩)
    · exact (wipe_but but hT).trans wipe_wipe
    · intro X3 hX3
      have c3 := hX3.ct c hkd
      have ow2 : ∀ a, addOwn ow l a = true → H2 a ≠ none := fun a ha z => ow' a ha (e2.free z)
      have S3' : Sy X3.K W0 (addOwn ow l) σ3 H2 δ2 X0 := ⟨ow2, by rw [c3.hK]; exact S3, wish0⟩
      refine dts_nil (X := X3) (P := fun b => b = true) rfl σ3 H2 (addOwn ow l) _ S3' fun bb H4 hq1 e4 => ?_
      cases bb with
      | true =>
        rw [if_pos rfl]
        intro X5 hX5
        have c5 := hX5.ct c hkd
        have S5 : Sy X5.K W0 (addOwn ow l) σ3 H4 δ2 X0 := Sy.mono e4 ⟨ow2, by rw [c5.hK]; exact S3, wish0⟩
        refine hb X5 c5 σ3 H4 (addOwn ow l) _ S5 fun d v H5 hd e5 rv => ?_
        have e25 := (e2.trans e4).trans e5
        have hv5 := e25 _ _ hv
        have hz : vs.length < sizeLine := by
          rw [r.length, sizeLine_eq]
          have := rel.length
          rw [List.length_take] at this
          omega
        have ow5 : ∀ a, addOwn ow l a = true → H5 a ≠ none := fun a ha z => ow' a ha (e25.free z)
        have hm : mask (addOwn ow l) (upd H5 l (.lst (vs ++ [v]))) = mask (addOwn ow l) H5 := by
          funext a
          unfold mask upd
          by_cases ha : a = l
          · subst ha; rw [if_pos addOwn_self, if_pos addOwn_self]
          · rw [if_neg ha]
        refine ⟨vs, hv5, hz, ?_, vs ++ [v], ys ++ [d], upd_same, ?_, ?_⟩
        · intro a u ha
          have hn : a ≠ l := by rintro rfl; rw [hl] at ha; cases ha
          rw [upd_ne hn]
          exact (e'.trans e25) a u ha
        · rw [htake]
          exact rel.app hd
        · rw [hm]
          rw [c5.hK] at rv
          rw [c.hK] at r ⊢
          exact (r.mono (mask_ex e25)).append (RepL.one rv)
      | false => cases hq1
  · have e2 : i = xs.length := by omega
    subst e2
    rw [List.take_length] at rel
    exact .inl ⟨wk2 _ (by simp), hq _ l vs H' (fin ys rel) (e1.trans e') hlH hv r⟩
theorem df_lcR2 (α : Type) (c : Ct M X W k Nm sc) {P : List D → Prop} {PX : Xd → Prop} {tg iter elt : Expr} {kd : ScopeKind} {ns : List (Str × NameKind)} {ge co : Bool} {mo : List (Str × Const)} {own : List (Str × Nat)} (ho : OwnW ns Nm δ own δ1) (hb : blkC Nm sc (Scope.mk kd ns ge co mo) own = true)
    (h : DI2 X W tg iter δ (LcR M k Nm (Scope.mk kd ns ge co mo) own δ1 tg elt α P) PX) (hs : ∀ x, foldedSetIterable iter X.env x = pure x := by intro _; rfl) : DF X W (.ListComp elt [⟨tg, iter, [], 0⟩] (Scope.mk kd ns ge co mo) pos) δ P PX := by
  intro σ H own' Q S q
  refine sem_pe (pe_lc c.calm c.nd pi_sem (c.blk _ _ hb) pg_blk pts_blk pe_blk hs) ?_
  exact lc_readR2 (α := α) (P := P) c (kind_of_blk hb) ho.wp h S fun ds l vs H2 p e hl h2 r => q ds l vs H2 p e hl h2 r
end
end PV

set_option Elab.async false
set_option linter.all false
set_option maxRecDepth 100000
set_option maxHeartbeats 2000000
/-! PV37: list(zip(xs, ys)) of two lists -/
namespace PV
open PySem PySem.Spec PySem.Calls PyProof.Rows L2
theorem zip_nolen : typeLookup (.type "zip") "__len__" = pure none := am_miss_of_fast (by decide +kernel)
theorem zip_nohint : typeLookup (.type "zip") "__length_hint__" = pure none := am_miss_of_fast (by decide +kernel)
/-- a zip at its turn i, beside a list at S -/
structure Zs (z TI TO i1 i2 l1 l2 S : Addr) (xs ys : Array Value) (i : Nat) (h : Heap) : Prop where
  pr : IsPair h TI (.ref i1) (.ref i2)
  t1 : h.IsListIter i1 l1 i
  t2 : h.IsListIter i2 l2 i
  s1 : h.IsList l1 xs
  s2 : h.IsList l2 ys
  zz : (IsZip h z TI TO .none ∧ ∃ u v, IsPair h TO u v) ∨ ∃ T g o, IsZipHeld h z TI TO T g ∧ h.get? T = some o ∧ T ≠ z ∧ T ≠ i1 ∧ T ≠ i2 ∧ T ≠ S
structure ZOff (z TI TO i1 i2 l1 l2 S : Addr) : Prop where
  z : z ≠ S
  TI : TI ≠ S
  TO : TO ≠ S
  i1 : i1 ≠ S
  i2 : i2 ≠ S
  l1 : l1 ≠ S
  l2 : l2 ≠ S
section
variable {prog : Program} {w : World} {A : Around} {E : Value → Shared → Prop} {s : Shared} {z TI TO i1 i2 l1 l2 S : Addr} {xs ys : Array Value} {i : Nat}
theorem Zs.keep {h h' : Heap} (x : Zs z TI TO i1 i2 l1 l2 S xs ys i h) (f : ZOff z TI TO i1 i2 l1 l2 S) (k : ∀ b o, b ≠ S → h.get? b = some o → h'.get? b = some o) : Zs z TI TO i1 i2 l1 l2 S xs ys i h' := by
  refine ⟨k _ _ f.TI x.pr, x.t1.at fun o q => k _ o f.i1 q, x.t2.at fun o q => k _ o f.i2 q, x.s1.at fun o q => k _ o f.l1 q, x.s2.at fun o q => k _ o f.l2 q, ?_⟩
  rcases x.zz with ⟨a, u, v, b⟩ | ⟨T, g, o, a, b, c1, c2, c3, c4⟩
  · exact .inl ⟨k _ _ f.z a, u, v, k _ _ f.TO b⟩
  · exact .inr ⟨T, g, o, k _ _ f.z a, k _ _ c4 b, c1, c2, c3, c4⟩
theorem Zs.next {x y : Value} {Q : Option Value → Shared → Prop} (D : ZipApart z TI TO i1 i2 l1 l2) (st : Zs z TI TO i1 i2 l1 l2 S xs ys i s.heap) (hS : S < s.heap.objs.size) (hx : xs[i]? = some x) (hy : ys[i]? = some y)
    (q : ∀ h', Zs z TI TO i1 i2 l1 l2 S xs ys (i + 1) h' → IsPair h' s.heap.objs.size x y → (∀ b o, b ≠ z → b ≠ TO → b ≠ i1 → b ≠ i2 → s.heap.get? b = some o → h'.get? b = some o) → Q (some (.ref s.heap.objs.size)) { s with heap := h' }) :
    wpAny (model prog w) A (pyNext (.ref z)) Q E s := by
  obtain ⟨pr, t1, t2, s1, s2, zz⟩ := st
  have old : ∀ {c o}, s.heap.get? c = some o → s.heap.objs.size ≠ c := fun e => Nat.ne_of_gt (Heap.lt_size e)
  have o1 : s.heap.objs.size ≠ i1 := by obtain ⟨_, e, _⟩ := t1; exact old e
  have o2 : s.heap.objs.size ≠ i2 := by obtain ⟨_, e, _⟩ := t2; exact old e
  rcases zz with ⟨a, u, v, b⟩ | ⟨T, g, o, a, b, c1, c2, c3, c4⟩
  · refine wpAny_pyNext_zip_item D a pr b t1 t2 s1 s2 hx hy fun h' z1 z2 z3 z4 z5 z6 kp => q h' ⟨?_, z3, z4, ?_, ?_, ?_⟩ z5 kp
    · exact kp _ _ D.TIz D.TITO D.TIi1 D.TIi2 pr
    · exact s1.at fun o e => kp _ o D.l1z D.l1TO D.l1i1 D.l1i2 e
    · exact s2.at fun o e => kp _ o D.l2z D.l2TO D.l2i1 D.l2i2 e
    · exact .inr ⟨_, false, _, z1, z5, old a, o1, o2, Nat.ne_of_gt hS⟩
  · refine wpAny_pyNext_zip_item_held D a b pr t1 t2 s1 s2 hx hy fun h' z1 z3 z4 z5 z6 kp => q h' ⟨?_, z3, z4, ?_, ?_, ?_⟩ z5 fun b o e1 _ e3 e4 => kp b o e1 e3 e4
    · exact kp _ _ D.TIz D.TIi1 D.TIi2 pr
    · exact s1.at fun o e => kp _ o D.l1z D.l1i1 D.l1i2 e
    · exact s2.at fun o e => kp _ o D.l2z D.l2i1 D.l2i2 e
    · exact .inr ⟨T, true, o, z1, kp _ _ c1 c2 c3 b, c1, c2, c3, c4⟩
theorem Zs.over {Q : Option Value → Shared → Prop} (hh : A.handled = none) (D : ZipApart z TI TO i1 i2 l1 l2) (st : Zs z TI TO i1 i2 l1 l2 S xs ys i s.heap) (hend : xs[i]? = none ∨ ys[i]? = none)
    (q : ∀ h', (∀ b o, b ≠ z → b ≠ TO → b ≠ i1 → b ≠ i2 → s.heap.get? b = some o → h'.get? b = some o) → Q none { s with heap := h' }) : wpAny (model prog w) A (pyNext (.ref z)) Q E s := by
  obtain ⟨pr, t1, t2, s1, s2, zz⟩ := st
  rcases zz with ⟨a, u, v, b⟩ | ⟨T, g, o, a, b, c1, c2, c3, c4⟩
  · exact wpAny_pyNext_zip_end hh D a pr b t1 t2 s1 s2 hend q
  · exact wpAny_pyNext_zip_end_held hh D a b pr t1 t2 s1 s2 hend fun h' kp => q h' fun b o e1 _ e3 e4 => kp b o e1 e3 e4
/-- the pairs that were given out so far -/
structure Zg (xs ys : Array Value) (lo : Addr) (h : Heap) (as : List Addr) : Prop where
  rise : as.Pairwise (· < ·)
  up : ∀ a ∈ as, lo < a
  two : ∀ (j : Nat) (a : Addr), as[j]? = some a → ∃ x y, xs[j]? = some x ∧ ys[j]? = some y ∧ IsPair h a x y
end
section
variable {prog : Program} {w : World} {A : Around} {s : Shared} {R : Result → Shared → Prop} {z TI TO i1 i2 l1 l2 S : Addr} {xs ys : Array Value}
theorem zip_drain (hh : A.handled = none) (D : ZipApart z TI TO i1 i2 l1 l2) (F : ZOff z TI TO i1 i2 l1 l2 S) (lo : z < S ∧ TO < S ∧ i1 < S ∧ i2 < S) (n : Nat) (hn : n = min xs.size ys.size) (hz : n ≤ sizeLine) (res : Value)
    (fin : ∀ h' tk acc c as, (∀ b o, b ≠ S → b ≠ z → b ≠ TO → b ≠ i1 → b ≠ i2 → s.heap.get? b = some o → h'.get? b = some o) → h'.get? S = some { cls := .type "list", dict := none, data := .seq acc c, slots := #[] } → as.length = n → Zg xs ys S h' as → acc.toList = as.map Value.ref → R (.ok (.ret res)) { s with heap := h', toks := tk }) :
    ∀ (m i : Nat) (h : Heap) (tk c : Nat) (acc : Array Value) (as : List Addr), n - i = m → i ≤ n → Zs z TI TO i1 i2 l1 l2 S xs ys i h → (∀ b o, b ≠ S → b ≠ z → b ≠ TO → b ≠ i1 → b ≠ i2 → s.heap.get? b = some o → h.get? b = some o) →
      h.get? S = some { cls := .type "list", dict := none, data := .seq acc c, slots := #[] } → acc.toList = as.map Value.ref → as.length = i → Zg xs ys S h as →
      codeAny (model prog w) A (.builtin "list.extend.loop" ⟨[.ref S, .ref z, res], []⟩) R { s with heap := h, toks := tk } := by
  have off : S ≠ z ∧ S ≠ TO ∧ S ≠ i1 ∧ S ≠ i2 := ⟨Ne.symm F.z, Ne.symm F.TO, Ne.symm F.i1, Ne.symm F.i2⟩
  have big : ∀ {a : Addr}, S < a → a ≠ z ∧ a ≠ TO ∧ a ≠ i1 ∧ a ≠ i2 := fun h => ⟨Nat.ne_of_gt (Nat.lt_trans lo.1 h), Nat.ne_of_gt (Nat.lt_trans lo.2.1 h), Nat.ne_of_gt (Nat.lt_trans lo.2.2.1 h), Nat.ne_of_gt (Nat.lt_trans lo.2.2.2 h)⟩
  intro m
  induction m with
  | zero =>
    intro i h tk c acc as hk hi st kept hS hacc hal G
    obtain rfl : i = n := by omega
    refine codeAny_builtin PySem.F.entry_extend_loop ?_
    rw [Around.under_plainId PySem.F.plain_extend_loop _]
    refine wpAny_bind (Zs.over (s := { s with heap := h, toks := tk }) (A := A.in1) hh D st (by rcases Nat.le_total xs.size ys.size with q | q <;> simp only [Array.getElem?_eq_none_iff] <;> omega) fun h' kp => wpAny_pure (fin h' tk acc c as (fun b o e0 e1 e2 e3 e4 e => kp b o e1 e2 e3 e4 (kept b o e0 e1 e2 e3 e4 e)) (kp S _ off.1 off.2.1 off.2.2.1 off.2.2.2 hS) hal ⟨G.rise, G.up, fun j a hj => ?_⟩ hacc))
    obtain ⟨x, y, q1, q2, q3⟩ := G.two j a hj
    obtain ⟨b1, b2, b3, b4⟩ := big (G.up a (List.mem_of_getElem? hj))
    exact ⟨x, y, q1, q2, kp a _ b1 b2 b3 b4 q3⟩
  | succ m ih =>
    intro i h tk c acc as hk hi st kept hS hacc hal G
    have hix : i < xs.size := by omega
    have hiy : i < ys.size := by omega
    have hSl : S < h.objs.size := Heap.lt_size hS
    have hsz : acc.size = i := by rw [← Array.length_toList, hacc, List.length_map, hal]
    refine codeAny_builtin PySem.F.entry_extend_loop ?_
    rw [Around.under_plainId PySem.F.plain_extend_loop _]
    refine wpAny_bind (Zs.next (s := { s with heap := h, toks := tk }) D st hSl (Array.getElem?_eq_getElem hix) (Array.getElem?_eq_getElem hiy) fun h' st' ht kp => ?_)
    have hS' := kp S _ off.1 off.2.1 off.2.2.1 off.2.2.2 hS
    have put : ∀ b o, b ≠ S → h'.get? b = some o → (h'.update S (Obj.mapSeq (·.push (Value.ref h.objs.size)))).get? b = some o := fun b o hb e => (Heap.get?_update_other _ _ (Ne.symm hb)).trans e
    refine wpAny_bind (wpAny_updateSeq hS' rfl (wpAny_pure ⟨plainId_quiet PySem.F.plain_extend_loop _, ih (i + 1) _ tk _ (acc.push (Value.ref h.objs.size)) (as ++ [h.objs.size]) (by omega) (by omega) (st'.keep F put) (fun b o e0 e1 e2 e3 e4 e => put b o e0 (kp b o e1 e2 e3 e4 (kept b o e0 e1 e2 e3 e4 e))) (Heap.get?_update_self _ hS' rfl) (by rw [Array.toList_push, hacc, List.map_append]; rfl) (by simp [hal]) ⟨?_, ?_, ?_⟩⟩) (by rw [hsz]; omega) (by show (acc.push _).size ≤ sizeLine + 1; rw [Array.size_push, hsz]; omega))
    · refine List.pairwise_append.mpr ⟨G.rise, List.pairwise_singleton _ _, fun a ha b hb => ?_⟩
      obtain rfl : b = h.objs.size := List.mem_singleton.mp hb
      obtain ⟨j, hj⟩ := List.mem_iff_getElem?.mp ha
      obtain ⟨_, _, _, _, q3⟩ := G.two j a hj
      exact Heap.lt_size q3
    · intro a ha
      rcases List.mem_append.mp ha with q | q
      · exact G.up a q
      · obtain rfl : a = h.objs.size := List.mem_singleton.mp q
        exact hSl
    · intro j a hj
      by_cases hjl : j < as.length
      · rw [List.getElem?_append_left hjl] at hj
        obtain ⟨x, y, q1, q2, q3⟩ := G.two j a hj
        have hup := G.up a (List.mem_of_getElem? hj)
        obtain ⟨b1, b2, b3, b4⟩ := big hup
        exact ⟨x, y, q1, q2, put a _ (Nat.ne_of_gt hup) (kp a _ b1 b2 b3 b4 q3)⟩
      · have hle := (List.getElem?_eq_some_iff.mp hj).1
        rw [List.length_append, List.length_singleton] at hle
        obtain rfl : j = as.length := by omega
        have ha : h.objs.size = a := by simpa using hj
        subst ha
        refine ⟨_, _, by rw [hal]; exact Array.getElem?_eq_getElem hix, by rw [hal]; exact Array.getElem?_eq_getElem hiy, put _ _ (Nat.ne_of_gt hSl) ht⟩
/-- the zip's own things stand as they were made -/
structure Zm (z TI TO i1 i2 l1 l2 : Addr) (xs ys : Array Value) (h : Heap) : Prop where
  zz : IsZip h z TI TO .none
  pr : IsPair h TI (.ref i1) (.ref i2)
  po : ∃ u v, IsPair h TO u v
  t1 : h.IsListIter i1 l1 0
  t2 : h.IsListIter i2 l2 0
  s1 : h.IsList l1 xs
  s2 : h.IsList l2 ys
theorem Zm.at {h h' : Heap} (x : Zm z TI TO i1 i2 l1 l2 xs ys h) (F : ZOff z TI TO i1 i2 l1 l2 S) (k : ∀ b o, b ≠ S → h.get? b = some o → h'.get? b = some o) : Zs z TI TO i1 i2 l1 l2 S xs ys 0 h' := by
  obtain ⟨u, v, b⟩ := x.po
  exact Zs.keep ⟨x.pr, x.t1, x.t2, x.s1, x.s2, .inl ⟨x.zz, u, v, b⟩⟩ F k
theorem zip_fill (hh : A.handled = none) (D : ZipApart z TI TO i1 i2 l1 l2) (F : ZOff z TI TO i1 i2 l1 l2 S) (lo : z < S ∧ TO < S ∧ i1 < S ∧ i2 < S) (n : Nat) (hn : n = min xs.size ys.size) (hz : n ≤ sizeLine) (res : Value) (c0 : Nat) (zm : Zm z TI TO i1 i2 l1 l2 xs ys s.heap) (hS : s.heap.get? S = some { cls := .type "list", data := .seq #[] c0 })
    (fin : ∀ h' tk acc c as, (∀ b o, b ≠ S → b ≠ z → b ≠ TO → b ≠ i1 → b ≠ i2 → s.heap.get? b = some o → h'.get? b = some o) → h'.get? S = some { cls := .type "list", dict := none, data := .seq acc c, slots := #[] } → as.length = n → Zg xs ys S h' as → acc.toList = as.map Value.ref → R (.ok (.ret res)) { s with heap := h', toks := tk }) :
    wpAny (model prog w) A.in1 (Builtin.List.listExtendWith (.ref S) (.ref z) res)
      (fun f s' => match f with | .done f => R (.ok f) s' | .again c' => c'.quiet = true ∧ codeAny (model prog w) A c' R s') (fun e s' => R (.error e) s') s := by
  have ty : s.TypeIs (.ref z) "zip" := ⟨_, zm.zz, rfl⟩
  have n1 : Builtin.List.listSameRef (.ref S) (.ref z) = false := by simp [Builtin.List.listSameRef, Ne.symm F.z]
  have n2 : (Value.type "zip" == Value.type "list") = false := by decide
  have n3 : (Value.type "zip" == Value.type "tuple") = false := by decide
  unfold Builtin.List.listExtendWith
  refine wpAny_bind (wpAny_typeOf ty ?_)
  simp only [n1, n2, n3, Bool.or_false, Bool.false_eq_true, if_false]
  refine wpAny_bind (wpAny_pyIter_zip zm.zz (wpAny_bind (wpAny_holding ?_)))
  unfold Builtin.List.listLengthHint
  refine wpAny_bind (wpAny_specialOf ty zip_nolen ?_)
  show wpAny _ A.in1 (specialOf (Value.ref z) (Str.ofString "__length_hint__") >>= _) _ _ _
  refine wpAny_bind (wpAny_specialOf ty zip_nohint (wpAny_pure ?_))
  show wpAny _ A.in1 (rule "list.extend.makes-room" >>= fun _ => Builtin.List.listTouch (.ref S) >>= fun _ => again (.builtin "list.extend.loop" ⟨[.ref S, .ref z, res], []⟩)) _ _ _
  refine wpAny_bind (wpAny_rule (wpAny_bind ?_))
  show wpAny _ A.in1 (updateSeq S (·.push .none) >>= fun _ => updateSeq S (·.pop)) _ _ _
  have u1 := Heap.get?_update_self (Obj.mapSeq (·.push Value.none)) hS rfl
  have u2 := Heap.get?_update_self (Obj.mapSeq (·.pop)) u1 rfl
  refine wpAny_bind (wpAny_updateSeq hS rfl (wpAny_updateSeq (hz := by seq_fits) u1 rfl (wpAny_pure ⟨plainId_quiet PySem.F.plain_extend_loop _, ?_⟩)))
  have same : ∀ b o, b ≠ S → s.heap.get? b = some o → ((s.heap.update S (Obj.mapSeq (·.push Value.none))).update S (Obj.mapSeq (·.pop))).get? b = some o := fun b o hb e => by
    rw [Heap.get?_update_other _ _ (Ne.symm hb), Heap.get?_update_other _ _ (Ne.symm hb)]
    exact e
  exact zip_drain hh D F lo n hn hz res fin n 0 _ s.toks _ #[] [] (Nat.sub_zero n) (Nat.zero_le n) (zm.at F same) (fun b o e0 _ _ _ _ e => same b o e0 e) u2 rfl rfl ⟨.nil, (fun _ q => nomatch q), (fun j a q => by simp at q)⟩
theorem zip_list {E : Value → Shared → Prop} {Q : Value → Shared → Prop} (hh : A.handled = none) (D : ZipApart z TI TO i1 i2 l1 l2) (zm : Zm z TI TO i1 i2 l1 l2 xs ys s.heap) (n : Nat) (hn : n = min xs.size ys.size) (hz : n ≤ sizeLine)
    (q : ∀ h' tk acc c as, (∀ b o, b ≠ z → b ≠ TO → b ≠ i1 → b ≠ i2 → s.heap.get? b = some o → h'.get? b = some o) → h'.get? s.heap.objs.size = some { cls := .type "list", dict := none, data := .seq acc c, slots := #[] } → as.length = n → Zg xs ys s.heap.objs.size h' as → acc.toList = as.map Value.ref → Q (.ref s.heap.objs.size) { s with heap := h', toks := tk }) :
    wpAny (model prog w) A (PySem.call (.type "list") [.ref z]) Q E s := by
  have lz : z < s.heap.objs.size := Heap.lt_size zm.zz
  have lT : TI < s.heap.objs.size := Heap.lt_size zm.pr
  have lO : TO < s.heap.objs.size := by obtain ⟨_, _, e⟩ := zm.po; exact Heap.lt_size e
  have l1' : i1 < s.heap.objs.size := by obtain ⟨_, e, _⟩ := zm.t1; exact Heap.lt_size e
  have l2' : i2 < s.heap.objs.size := by obtain ⟨_, e, _⟩ := zm.t2; exact Heap.lt_size e
  have l3' : l1 < s.heap.objs.size := by obtain ⟨_, e, _⟩ := zm.s1; exact Heap.lt_size e
  have l4' : l2 < s.heap.objs.size := by obtain ⟨_, e, _⟩ := zm.s2; exact Heap.lt_size e
  have F : ZOff z TI TO i1 i2 l1 l2 s.heap.objs.size := ⟨Nat.ne_of_lt lz, Nat.ne_of_lt lT, Nat.ne_of_lt lO, Nat.ne_of_lt l1', Nat.ne_of_lt l2', Nat.ne_of_lt l3', Nat.ne_of_lt l4'⟩
  apply callType_codes (Q₁ := fun ob s1 => ob = .ref s.heap.objs.size ∧ s1 = { s with heap := s.heap.push { cls := .type "list", data := .seq #[] } }) PySem.F.called_list (PySem.F.typeCall_list_1 _) PySem.F.entry_list_init (code_list_new _ ⟨rfl, rfl⟩)
  rintro _ _ ⟨rfl, rfl⟩
  have new : (s.heap.push { cls := .type "list", data := .seq #[] }).get? s.heap.objs.size = some { cls := .type "list", data := .seq #[] } := Heap.get?_push_size _ rfl
  have pushed : ∀ b o, s.heap.get? b = some o → (s.heap.push { cls := .type "list", data := .seq #[] }).get? b = some o := fun b o e => Heap.get?_push_of_some _ e
  refine ⟨⟨_, new, rfl⟩, PySem.F.args_list_init_2 _ _, ?_⟩
  show wpAny _ _ (Builtin.List.listItems (.ref s.heap.objs.size) >>= fun prev => Builtin.List.listUpdate (.ref s.heap.objs.size) (fun _ => #[]) >>= fun _ => letGo prev.toList.reverse >>= fun _ => Builtin.List.listExtendWith (.ref s.heap.objs.size) (.ref z) .none) _ _ _
  refine wpAny_bind ?_
  unfold Builtin.List.listItems
  refine wpAny_bind (wpAny_seqItems new rfl (wpAny_pure ?_))
  show wpAny _ _ (updateSeq s.heap.objs.size (fun _ => #[]) >>= fun _ => letGo (#[] : Array Value).toList.reverse >>= fun _ => Builtin.List.listExtendWith (.ref s.heap.objs.size) (.ref z) .none) _ _ _
  have cleared := Heap.get?_update_self (Obj.mapSeq (fun _ => (#[] : Array Value))) new rfl
  have other : ∀ b o, b ≠ s.heap.objs.size → s.heap.get? b = some o → ((s.heap.push { cls := .type "list", data := .seq #[] }).update s.heap.objs.size (Obj.mapSeq (fun _ => (#[] : Array Value)))).get? b = some o := fun b o hb e => by
    rw [Heap.get?_update_other _ _ (Ne.symm hb)]
    exact pushed b o e
  refine wpAny_bind (wpAny_updateSeq new rfl (wpAny_bind (wpAny_letGo ?_)))
  obtain ⟨zz, pr, ⟨u, v, po⟩, t1, t2, s1, s2⟩ := zm
  refine zip_fill (A := A.in1) hh D F ⟨lz, lO, l1', l2'⟩ n hn hz .none _ ⟨other _ _ F.z zz, other _ _ F.TI pr, ⟨u, v, other _ _ F.TO po⟩, t1.at fun o e => other _ o F.i1 e, t2.at fun o e => other _ o F.i2 e, s1.at fun o e => other _ o F.l1 e, s2.at fun o e => other _ o F.l2 e⟩ cleared fun h' tk acc c as k1 k2 k3 k4 k5 => ?_
  exact ⟨rfl, q h' tk acc c as (fun b o e1 e2 e3 e4 e => k1 b o (Nat.ne_of_lt (Heap.lt_size e)) e1 e2 e3 e4 (other b o (Nat.ne_of_lt (Heap.lt_size e)) e)) k2 k3 k4 k5⟩
end
end PV

set_option Elab.async false
set_option linter.all false
set_option maxRecDepth 100000
set_option maxHeartbeats 2000000
/-! PV38: list(zip(xs, ys)) as a rule -/
namespace PV
open PySem PySem.Spec PyProof.Rows L2
/-- new pairs tracked where they stand -/
def putP : Hp → List Addr → List (V × V) → Hp
  | H, a :: as, q :: r => putP (upd H a (.tup [q.1, q.2])) as r
  | H, _, _ => H
theorem putP_off {b : Addr} : ∀ (as : List Addr) (r : List (V × V)) (H : Hp), b ∉ as → putP H as r b = H b
  | [], _, _, _ => rfl
  | _ :: _, [], _, _ => rfl
  | a :: as, q :: r, H, h => by
    obtain ⟨h1, h2⟩ := not_or.mp (fun z => h (List.mem_cons.mpr z))
    exact (putP_off as r _ h2).trans (upd_ne h1)
theorem putP_at : ∀ (as : List Addr) (r : List (V × V)) (H : Hp), as.length = r.length → as.Nodup → ∀ (j : Nat) (a : Addr) (q : V × V), as[j]? = some a → r[j]? = some q → putP H as r a = some (.tup [q.1, q.2])
  | [], _, _, _, _, j, a, q, h1, _ => by simp at h1
  | _ :: _, [], _, h, _, _, _, _, _, _ => by cases h
  | b :: as, p :: r, H, h, hn, 0, a, q, h1, h2 => by
    obtain ⟨n1, n2⟩ := List.nodup_cons.mp hn
    obtain rfl : b = a := by simpa using h1
    obtain rfl : p = q := by simpa using h2
    exact (putP_off as r _ n1).trans upd_same
  | b :: as, p :: r, H, h, hn, j + 1, a, q, h1, h2 => putP_at as r _ (Nat.succ.inj h) (List.nodup_cons.mp hn).2 j a q (by simpa using h1) (by simpa using h2)
section
variable {X : Cx} {pins : List (Addr × Obj)} {σ : L2.St} {H : Hp} {s : Shared}
theorem pairs_laid {h' : Heap} {tk c : Nat} {acc : Array Value} {as : List Addr} {xs ys : List V} {c1 c2 : List Value} {S : Addr} (I : L2.Inv X pins σ H s) (hS0 : s.heap.objs.size ≤ S) (v1 : Vals xs c1) (v2 : Vals ys c2) (keep : ∀ b o, s.heap.get? b = some o → h'.get? b = some o)
    (hS : h'.get? S = some { cls := .type "list", dict := none, data := .seq acc c, slots := #[] }) (hl : as.length = (xs.zip ys).length) (G : Zg c1.toArray c2.toArray S h' as) (ha : acc.toList = as.map Value.ref) (hz : as.length ≤ sizeLine) :
    ∃ H' : Hp, Ex H H' ∧ H S = none ∧ (∀ t ∈ as, H t = none) ∧ S ∉ as ∧ H' S = some (.lst (as.map V.ref)) ∧ (∀ (j : Nat) (a : Addr) (q : V × V), as[j]? = some a → (xs.zip ys)[j]? = some q → H' a = some (.tup [q.1, q.2])) ∧ L2.Inv X pins σ H' { s with heap := h', toks := tk } := by
  have nS : S ∉ as := fun q => Nat.lt_irrefl _ (G.up _ q)
  have nd : as.Nodup := G.rise.imp fun {a b} q => Nat.ne_of_lt q
  have fresh : ∀ t ∈ as, H t = none := fun t q => I.hok.fresh (Nat.le_trans hS0 (Nat.le_of_lt (G.up t q)))
  have freshS : H S = none := I.hok.fresh hS0
  have here := putP_at as (xs.zip ys) (upd H S (.lst (as.map V.ref))) hl nd
  have away : ∀ b, b ∉ as → b ≠ S → putP (upd H S (.lst (as.map V.ref))) as (xs.zip ys) b = H b := fun b q1 q2 => (putP_off as _ _ q1).trans (upd_ne q2)
  have lowb : ∀ b o, s.heap.get? b = some o → b ∉ as ∧ b ≠ S := fun b o e => ⟨fun q => absurd (Heap.lt_size e) (Nat.not_lt.mpr (Nat.le_trans hS0 (Nat.le_of_lt (G.up b q)))), fun q => absurd (Heap.lt_size e) (Nat.not_lt.mpr (q ▸ hS0))⟩
  have still : Ex H (putP (upd H S (.lst (as.map V.ref))) as (xs.zip ys)) := fun b u e => by
    refine (away b (fun q => ?_) (fun q => ?_)).trans e
    · rw [fresh b q] at e; cases e
    · rw [q, freshS] at e; cases e
  have atS : putP (upd H S (.lst (as.map V.ref))) as (xs.zip ys) S = some (.lst (as.map V.ref)) := (putP_off as _ _ nS).trans upd_same
  refine ⟨_, still, freshS, fresh, nS, atS, here, ?_⟩
  refine I.call' (ch := []) rfl ⟨fun b o q _ _ _ => keep b o q, fun b o q _ _ _ => ⟨o.slots, keep b o q⟩, fun b o q n _ => ?_, fun b o q _ => ⟨o, keep b o q⟩, fun b l q => still b _ q, fun b o u q => still b _ q, fun b l q => ⟨#[], by rw [still b _ q]; simp⟩⟩ (fun b u q => ?_) I.bare fun b q => by simp at q
  · obtain ⟨q1, q2⟩ := lowb b o q
    exact (away b q1 q2).trans n
  · by_cases hb : b ∈ as
    · obtain ⟨j, hj⟩ := List.mem_iff_getElem?.mp hb
      have hjl : j < (xs.zip ys).length := by rw [← hl]; exact (List.getElem?_eq_some_iff.mp hj).1
      have hj2 : (xs.zip ys)[j]? = some (xs.zip ys)[j] := List.getElem?_eq_getElem hjl
      rw [here j b _ hj hj2] at q
      obtain rfl := Option.some.inj q
      obtain ⟨x, y, e1, e2, e3⟩ := G.two j b hj
      rw [List.length_zip] at hjl
      have hx : xs[j]? = some (xs.zip ys)[j].1 := by rw [List.getElem?_eq_getElem (by omega)]; simp
      have hy : ys[j]? = some (xs.zip ys)[j].2 := by rw [List.getElem?_eq_getElem (by omega)]; simp
      obtain ⟨x', f1, g1⟩ := v1.get hx
      obtain ⟨y', f2, g2⟩ := v2.get hy
      obtain rfl : x = x' := by
        have e1 : c1[j]? = some x := by simpa using e1
        rw [f1] at e1; exact (Option.some.inj e1).symm
      obtain rfl : y = y' := by
        have e2 : c2[j]? = some y := by simpa using e2
        rw [f2] at e2; exact (Option.some.inj e2).symm
      exact ⟨by show 2 ≤ sizeLine; decide, [x, y], .cons g1 (.cons g2 .nil), ⟨_, e3, rfl, _, rfl⟩⟩
    · by_cases hb2 : b = S
      · subst hb2
        rw [atS] at q
        obtain rfl := Option.some.inj q
        refine ⟨by rw [List.length_map]; exact hz, acc.toList, c, by rw [ha]; exact LiI.vals_refs as, ?_⟩
        rw [Array.toArray_toList]
        exact hS
      · rw [away b hb hb2] at q
        exact (I.hok b u q).stay (fun d v _ e => keep d v e) (fun d e => still d _ e) fun d l e => still d _ e
end
def tListZip (K : PySem.W.Frag) (t : TA) : TE := fun σ H Q => t σ H fun vs G => ∃ (l1 l2 : Addr) (xs ys : List V), vs = [.ref l1, .ref l2] ∧ SqL K G l1 xs ∧ SqL K G l2 ys ∧
  ∀ (H' : Hp) (l : Addr) (ts : List Addr), Ex G H' → G l = none → (∀ t ∈ ts, G t = none) → l ∉ ts → H' l = some (.lst (ts.map V.ref)) → ts.length = (xs.zip ys).length → (∀ (j : Nat) (a : Addr) (q : V × V), ts[j]? = some a → (xs.zip ys)[j]? = some q → H' a = some (.tup [q.1, q.2])) → Q (.ref l) H'
theorem pe_listZip {X : Cx} {a b : Expr} {ta : TA} {p p2 q pos : Pos} (g1 : Gl X "list") (m1 : X.mg "list" = none) (g2 : Gl X "zip") (m2 : X.mg "zip" = none) (ha : PA X [a, b] ta) (hc : X.calm = true)
    (hs : starEach [a, b] X.env = (false, eval a X.env) :: starEach [b] X.env := by rfl) (hpl : (backTo q (starEach [b] X.env)).any (·.1) = false := by rfl)
    (one : starEach [.Call (.Name "zip" p2) [a, b] [] q] X.env = (false, eval (.Call (.Name "zip" p2) [a, b] [] q) X.env) :: starEach [] X.env := by rfl) : PE X (.Call (.Name "list" p) [.Call (.Name "zip" p2) [a, b] [] q] [] pos) (tListZip X.K ta) := by
  constructor
  intro pins s σ H Q I h
  refine Call_ (ld_blt I g1 m1 (show bootBuiltins "list" = some (.type "list") by decide +kernel) (PyProof.Rows.callWith_type1 (PyProof.Rows.args_cons (Call_ (ld_blt I g2 m2 PyProof.Rows.boot_zip (PyProof.Rows.callWith_type1 (thn (ha.run q pins s σ H _ I h) ?_) hs hpl))) one) one rfl))
  rintro us s1 ⟨vs, G, inv, rel, l1, l2, xs, ys, rfl, hq1, hq2, fin⟩
  obtain ⟨u1, u2, rfl, r1, r2⟩ := vals2 rel
  cases r1
  cases r2
  obtain ⟨c1, v1, p1, z1⟩ := inv.list hq1
  obtain ⟨c2, v2, p2, z2⟩ := inv.list hq2
  have e1 := v1.length
  have e2 := v2.length
  refine call_zip_2 p1.isList p2.isList fun h1 hz hTI hTO ht1 ht2 hsz keep => PyProof.Rows.args_nil ?_
  refine zip_list (s := { s1 with heap := h1 }) (inv.ok.hd hc) (PySem.W.ktu_apart s1.heap.objs.size l1 l2 p1.lt p2.lt) ⟨hz, hTI, ⟨_, _, hTO⟩, ht1, ht2, p1.isList.at fun o e => keep _ o e, p2.isList.at fun o e => keep _ o e⟩ _ rfl (by simp only [List.size_toArray]; omega) fun h2 tk acc c as k1 k2 k3 k4 k5 => ?_
  have keep2 : ∀ d o, s1.heap.get? d = some o → h2.get? d = some o := fun d o e => by
    have := Heap.lt_size e
    exact k1 d o (Nat.ne_of_lt (Nat.lt_add_right 4 this)) (Nat.ne_of_lt (Nat.lt_add_right 3 this)) (Nat.ne_of_lt this) (Nat.ne_of_lt (Nat.lt_add_right 1 this)) (keep d o e)
  have hlen : as.length = (xs.zip ys).length := by rw [k3, List.length_zip]; simp only [List.size_toArray]; omega
  obtain ⟨H', w1, w2, w3, w4, w5, w6, w7⟩ := pairs_laid (tk := tk) inv (show s1.heap.objs.size ≤ h1.objs.size by omega) v1 v2 keep2 k2 hlen k4 k5 (by rw [hlen, List.length_zip]; omega)
  exact ⟨.ref _, H', w7, rfl, fin H' _ as w1 w2 w3 w4 w5 hlen w6⟩
section
variable {M : Md} {X : Cx} {W : WX} {k : Nat} {Nm : List Str} {sc : Scope} {δ : List Slot} {a b : Expr} {pos p : Pos} {PX : Xd → Prop}
/-- list(zip(ds, es)) -/
theorem df_listZip {p2 q : Pos} {P : List D → Prop} (c : Ct M X W k Nm sc) (hg : GlS sc "list") (hm : Bi M "list") (hg2 : GlS sc "zip") (hm2 : Bi M "zip") (h : DA X W [a, b] δ (fun zs => ∃ ds es, zs = [.lst ds, .lst es] ∧ P (zipD ds es)) PX)
    (hs : starEach [a, b] X.env = (false, eval a X.env) :: starEach [b] X.env := by rfl) (hpl : (backTo q (starEach [b] X.env)).any (·.1) = false := by rfl)
    (one : starEach [.Call (.Name "zip" p2) [a, b] [] q] X.env = (false, eval (.Call (.Name "zip" p2) [a, b] [] q) X.env) :: starEach [] X.env := by rfl) : DF X W (.Call (.Name "list" p) [.Call (.Name "zip" p2) [a, b] [] q] [] pos) δ P PX := by
  intro σ H own Q S q'
  refine sem_pe (pe_listZip (c.gl _ hg) (by rw [c.hmg]; exact hm) (c.gl _ hg2) (by rw [c.hmg]; exact hm2) pa_sem c.calm hs hpl one) ?_
  refine h σ H own _ S fun zs vs H1 ⟨ds, es, hd, p⟩ e1 r => ?_
  subst hd
  obtain ⟨v, w, rfl, ⟨l1, xs, rfl, h1, h2⟩, ⟨l2, ys, rfl, h3, h4⟩⟩ := r.vals2
  refine ⟨l1, l2, xs, ys, rfl, mask_le.sqL h1, mask_le.sqL h3, fun H' l ts ex hl hts hlt g3 hlen pr => ?_⟩
  have S1 := S.mono e1
  refine q' _ l _ H' p (e1.trans ex) (e1.free hl) g3 ?_
  have nown : ∀ t ∈ ts, addOwn own l t = false := fun t ht => by
    have n1 : own t = false := not_own S1.ow (hts t ht)
    have n2 : t ≠ l := fun z => hlt (by rw [← z]; exact ht)
    simp [addOwn, n1, n2]
  have me : Ex (mask own H1) (mask (addOwn own l) H') := mask_add ex hl
  have go : ∀ (ds es : List D) (xs ys : List V) (ts : List Addr), RepL X.K (mask (addOwn own l) H') ds xs → RepL X.K (mask (addOwn own l) H') es ys → (∀ t ∈ ts, addOwn own l t = false) → ts.length = (xs.zip ys).length → (∀ (j : Nat) (a : Addr) (q : V × V), ts[j]? = some a → (xs.zip ys)[j]? = some q → H' a = some (.tup [q.1, q.2])) → RepL X.K (mask (addOwn own l) H') (zipD ds es) (ts.map V.ref) := by
    intro ds
    induction ds with
    | nil =>
      intro es xs ys ts r1 _ _ hlen _
      have r1 : xs = [] := r1
      subst r1
      have : ts = [] := List.eq_nil_of_length_eq_zero (by rw [hlen]; rfl)
      subst this
      exact rfl
    | cons d ds ih =>
      intro es xs ys ts r1 r2 hn hlen pr
      obtain ⟨x, xr, rfl, a1, a2⟩ := r1
      cases es with
      | nil =>
        have r2 : ys = [] := r2
        subst r2
        have : ts = [] := List.eq_nil_of_length_eq_zero (by rw [hlen]; rfl)
        subst this
        exact rfl
      | cons e es =>
        obtain ⟨y, yr, rfl, b1, b2⟩ := r2
        cases ts with
        | nil => simp at hlen
        | cons t tr =>
          have at0 := pr 0 t (x, y) rfl rfl
          refine ⟨.ref t, _, rfl, ⟨t, [x, y], rfl, SqT.of ?_, x, [y], rfl, a1, y, [], rfl, b1, rfl⟩, ih es xr yr tr a2 b2 (fun u hu => hn u (List.mem_cons_of_mem _ hu)) (by simpa using hlen) fun j a q h1 h2 => pr (j + 1) a q (by simpa using h1) (by simpa using h2)⟩
          unfold mask
          rw [hn t List.mem_cons_self, if_neg Bool.false_ne_true]
          exact at0
  exact go ds es xs ys ts (h2.mono me) (h4.mono me) nown hlen pr
end
end PV

/-! PV39: s.zfill(n), int(a text) -/
set_option Elab.async false
set_option linter.all false
set_option maxRecDepth 100000
set_option maxHeartbeats 4000000
namespace PV
open PySem PySem.Spec PyProof.Rows L2
section
variable {M : Md} {X : Cx} {W : WX} {k : Nat} {Nm : List Str} {sc : Scope} {δ : List Slot} {e a b : Expr} {pos p : Pos} {P : D → Prop} {PX : Xd → Prop}
/-- s.zfill(n) -/
theorem de_zfill {apos : Pos} (h : DE X W a δ (fun d => ∃ s, d = .str s ∧ DR X W e δ (fun y => ∃ i : Int, y = .int i ∧ PadOk i = true ∧ P (.str (Txt.zfill s i))) PX) PX)
    (hs : starEach [e] X.env = [(false, eval e X.env)] := by rfl) (hbase : attributeBase a "zfill" X.env (eval a X.env) = eval a X.env := by rfl) (hline : (apos.endLine == pos.line) = true := by rfl) : DE X W (.Call (.Attribute a "zfill" apos) [e] [] pos) δ P PX := by
  refine de_m1 PySem.F.slot_str_zfill PySem.F.type_str_zfill mt_zfill ?_ hs hbase hline
  intro σ H own Q S q
  refine h σ H own Q S fun d v H1 ⟨s, hd, h2⟩ e1 r1 => q d v H1 ⟨s, hd, ?_⟩ e1 r1
  intro σ H own Q S q
  refine h2 σ H own Q S fun y w H2 ⟨i, hy, hz, p⟩ e2 r2 => q y w H2 ?_ e2 r2
  subst hy
  intro w H Q r q
  have e0 : w = .int i := r
  subst e0
  exact ⟨s, i, rfl, rfl, hz, q (.str _) (.str _) H rfl p (Ex.refl H) rfl⟩
/-- int(s) of a text that is one -/
theorem de_intS (c : Ct M X W k Nm sc) (hg : GlS sc "int") (hm : Bi M "int") (h : DE X W a δ (fun x => ∃ (s : Str) (n : Int), x = .str s ∧ PySem.intText? s = some n ∧ s.length ≤ 640 ∧ P (.int n)) PX)
    (he : starEach [a] X.env = (false, eval a X.env) :: starEach [] X.env := by rfl) (hpl : (backTo pos (starEach [] X.env)).any (·.1) = false := by rfl) : DE X W (.Call (.Name "int" p) [a] [] pos) δ P PX := by
  refine de_callT c call_int_str hg hm (by decide +kernel) (da_cons (h.imp fun x ⟨s, n, hx, hn, hl, p⟩ => da_nil ?_) he) (by decide) (by decide) he hpl
  subst hx
  intro vs H own Q ow r q
  obtain ⟨v, rfl, r1⟩ := r.vals1
  exact ⟨s, n, by rw [show v = V.str s from r1], hn, hl, q (.int n) (.int n) H p (Ex.refl H) rfl⟩
end
end PV

set_option Elab.async false
set_option linter.all false
set_option maxRecDepth 100000
set_option maxHeartbeats 4000000
/-! PV40: objects lent to be read -/
namespace PV
open PySem PySem.Spec PyProof.Rows L2
inductive Ls : List Slot → Nat → List (Addr × Cell) → Prop
  | z {cs δ} : Ls (.look cs :: δ) 0 cs
  | s {t δ i cs} : Ls δ i cs → Ls (t :: δ) (i + 1) cs
theorem Ls.S {δ : List Slot} {i : Nat} {cs : List (Addr × Cell)} (h : Ls δ i cs) : δ[i]? = some (.look cs) := by
  induction h with
  | z => rfl
  | s _ ih => simpa using ih
/-- an object that may be read -/
inductive See (δ : List Slot) (q : Addr) (c : Cell) : Prop
  | heap {j cs} : Hs δ j cs → Cin q c cs → See δ q c
  | look {j cs} : Ls δ j cs → Cin q c cs → See δ q c
def LkOk (K : Fr) (own : Addr → Bool) (H : Hp) (cs : List (Addr × Cell)) : Prop := ∀ z ∈ cs, own z.1 = true ∧ CellOk K own H z.1 z.2
theorem Slots.see {K : Fr} {own : Addr → Bool} {H : Hp} {σ : L2.St} {δ : List Slot} {q : Addr} {c : Cell} (S : Slots K own H σ δ) (h : See δ q c) : own q = true ∧ CellOk K own H q c := by
  cases h with
  | heap a m => exact S.cell a.S m
  | look a m =>
    obtain ⟨x, h2⟩ := S.any a.S
    exact h2 (q, c) m.mem
abbrev PhiR := List D → List (Addr × Cell) → (D → Prop) → (Xd → Prop) → Prop
/-- a def to which objects are lent, to be read -/
def spR (K : Fr) (n : Nat) (F : PhiR) : Sp := fun vs H Q E => ∃ own ds cs P PX, (∀ a, own a = true → H a ≠ none) ∧ LkOk K own H cs ∧ RepL K (mask own H) ds vs ∧ ds.length = n ∧ F ds cs P PX ∧ (∀ d v H', P d → Ex H H' → Rep K (mask own H') d v → Q v H') ∧ WishX K E own H PX
theorem slots_look {K : Fr} {own : Addr → Bool} {H : Hp} {N : List Str} {ds : List D} {vs : List V} {cs : List (Addr × Cell)} (h : Slots0 K own H (L2.start N vs) (startS N ds)) (hc : LkOk K own H cs) : Slots K own H (L2.start N vs) (startS N ds ++ [.look cs, .heap []]) := by
  have tl : ∀ {i : Nat} {s : Slot}, (startS N ds ++ [.look cs, .heap []])[i]? = some s → (startS N ds)[i]? = some s ∨ (i = (startS N ds).length ∧ s = .look cs) ∨ s = .heap [] := fun {i s} b => by
    by_cases hi : i < (startS N ds).length
    · rw [List.getElem?_append_left hi] at b
      exact .inl b
    · rw [List.getElem?_append_right (by omega)] at b
      cases hz : i - (startS N ds).length with
      | zero => rw [hz] at b; exact .inr (.inl ⟨by omega, (Option.some.inj b).symm⟩)
      | succ n =>
        rw [hz] at b
        cases n with
        | zero => exact .inr (.inr (Option.some.inj b).symm)
        | succ n => cases b
  have lt : ∀ (i : Nat) (x : Option V) (s : Slot) (l : Addr), (startS N ds ++ [.look cs, .heap []])[i]? = some s → s.has x l → i = (startS N ds).length := fun i x s l b c => by
    rcases tl b with h1 | ⟨h1, _⟩ | h1
    · exact (startS_has i s x l h1 c).elim
    · exact h1
    · subst h1
      cases c
  refine ⟨[none, none], by simp [h.len], fun i x s a b => ?_, fun i j x y s t l ij a b c d e f => ?_⟩
  · rcases tl b with h1 | ⟨_, rfl⟩ | rfl
    · have hi : i < (startS N ds).length := (List.getElem?_eq_some_iff.mp h1).1
      rw [List.getElem?_append_left (by rw [h.len]; exact hi)] at a
      exact h.ok i x s a h1
    · exact hc
    · exact ⟨by simp, fun z hz => by cases hz⟩
  · exact ij ((lt i x s l c e).trans (lt j y t l d f).symm)
theorem own0_look {o0 : Addr → Bool} {σ : L2.St} {N : List Str} {ds : List D} {cs : List (Addr × Cell)} : Own0 o0 σ (startS N ds ++ [.look cs, .heap []]) := by
  intro i s l a b
  by_cases hi : i < (startS N ds).length
  · rw [List.getElem?_append_left hi] at a
    exact start_own0 i s l a b
  · rw [List.getElem?_append_right (by omega)] at a
    cases hz : i - (startS N ds).length with
    | zero => rw [hz] at a; cases a; exact b.elim
    | succ n =>
      rw [hz] at a
      cases n with
      | zero => cases a; cases b
      | succ n => cases a
section
variable {M : Md} {X : Cx} {W : WX} {k : Nat} {Nm : List Str} {sc : Scope} {δ δ' δ1 : List Slot} {e a b d2 o i' : Expr} {es : List Expr} {pos p apos : Pos} {x m : Str} {K : Fr} {st : Stmt} {rest : List Stmt} {P : D → Prop} {PX : Xd → Prop}
theorem fn_okR {M : Md} {y qual : Str} {st : Stmt} {f : Addr} {fd : FuncData} {N ps : List Str} {k n : Nat} {F : PhiR} (G : Fun M.K y qual st f fd) (S : FnScope N ps (defScope st)) (hn : ps.length = n)
    (h : ∀ ds cs P PX, ds.length = n → F ds cs P PX → ∀ X W, Ct M X W k N (defScope st) → FnB X → DSs X W (defBody st) (startS N ds ++ [.look cs, .heap []]) (fun _ => P .non) (fun d _ => P d) (fun _ => False) (fun _ => False) (fun x _ => PX x)) :
    FnOk M.P M.w M.K M.mg M.base (L2.CX M.P M.w) (k + 1) f fd ps (spR M.K n F) := by
  refine G.okX S (fun vs H Q E hh => ?_) (fun cdv A outer s H vs Q E hr hh => ?_)
  · obtain ⟨own, ds, cs, P, PX, _, _, r, hl, _⟩ := hh
    rw [r.length, hl, hn]
  · obtain ⟨own, ds, cs, P, PX, ow, lk, r, hl, hF, hq, hw⟩ := hh
    refine ⟨_, pss_sem, ?_⟩
    have c : Ct M (cxOf (L2.CX M.P M.w) M.P M.w M.K M.mg M.base N qual (defScope st) f cdv A outer s H E) (fun cls d _ H => E cls d H) k N (defScope st) :=
      ⟨hr, rfl, takes_of rfl rfl rfl rfl, S.nd, rfl, rfl, rfl, rfl, rfl, rfl, fun x hx => hx, fun x hx => hx, fun x hx => hx, S.kind, fun x hx => hx, fun sc own hb => blkOk_by hb, passes_of rfl, fun x hx => .inl rfl⟩
    exact h ds cs P PX hl hF _ _ c ⟨rfl, rfl, rfl⟩ H own own _ _ H ⟨fun a z => z, ow, fun a h1 h2 => absurd (h1.symm.trans h2) (by decide), Ex.refl H, slots_look (slots_start0 r) lk, own0_look⟩
      ⟨fun own' σ' H' δ' p o' => hq .non .non H' p o'.ex rfl, fun own' σ' H' δ' d v p o' r => hq d v H' p o'.ex (r.mono (mask_mono o'.sub)), fun _ _ _ _ z _ => z.elim, fun _ _ _ _ z _ => z.elim,
        fun own' σ' H' δ' o' => ⟨fun c' p H2 e => hw.pl c' p H2 (o'.ex.trans e), fun c' fs p H2 d es e h1 r => hw.fl c' fs p H2 d es (o'.ex.trans e) (mask_mono o'.sub _ _ h1) (r.mono (mask_mono o'.sub))⟩⟩
structure RdOk (M : Md) (j : Nat) (x : Str) (n : Nat) (F : PhiR) : Prop where
  ex : ∃ f fd ps, FnOk M.P M.w M.K M.mg M.base (L2.CX M.P M.w) j f fd ps (spR M.K n F) ∧ M.mg x = some (.ref f) ∧ PySem.W.keepIn M.K (.ref f) = true ∧ Binds M.K fd ps []
structure MethOkR (M : Md) (C : Addr) (j : Nat) (m : Str) (n : Nat) (F : PhiR) : Prop where
  ex : ∃ f fd ps, FnOk M.P M.w M.K M.mg M.base (L2.CX M.P M.w) j f fd ps (spR M.K n F) ∧ Meth M.K C m f ∧ Binds M.K fd ps []
/-- what is lent -/
def Sees (δ : List Slot) (cs : List (Addr × Cell)) : Prop := ∀ z ∈ cs, See δ z.1 z.2
theorem Sees.nil : Sees δ [] := fun _ h => nomatch h
theorem Sees.cons {q : Addr} {c : Cell} {cs : List (Addr × Cell)} (h : See δ q c) (t : Sees δ cs) : Sees δ ((q, c) :: cs) := fun z hz => by
  rcases List.mem_cons.mp hz with rfl | hz
  · exact h
  · exact t z hz
theorem Slots.sees {K : Fr} {own : Addr → Bool} {H : Hp} {σ : L2.St} {cs : List (Addr × Cell)} (S : Slots K own H σ δ) (h : Sees δ cs) : LkOk K own H cs := fun z hz => S.see (h z hz)
/-- f(e, ..), objects lent -/
theorem de_callR {j n : Nat} {F : PhiR} (c : Ct M X W k Nm sc) (f : RdOk M j x n F) (hj : j ≤ k) (hg : GlS sc x) (h : DA X W (e :: es) δ (fun ds => ds.length = n ∧ ∃ cs, Sees δ cs ∧ F ds cs P PX) PX)
    (hdb : (x == ("__debug__" : Str)) = false := by decide) (he : starEach (e :: es) X.env = (false, eval e X.env) :: starEach es X.env := by rfl) (hpl : (backTo pos (starEach es X.env)).any (·.1) = false := by rfl) : DE X W (.Call (.Name x p) (e :: es) [] pos) δ P PX := by
  obtain ⟨f, fd, ps, G, hm, hk, hb⟩ := f.ex
  rw [← c.hP, ← c.hw, ← c.hK, ← c.hmg, ← c.hb] at G
  rw [← c.hK] at hk hb
  rw [← c.hmg] at hm
  refine de_mk (pe_callS G (c.room.mono hj) (c.gl _ hg) hm hk hb (fun σ => passAt c.tk σ) pa_sem hdb he hpl) ?_
  intro σ H own Q S q
  refine h σ H own _ S fun ds vs H1 ⟨hl, cs, hs, hF⟩ e1 r => ?_
  have S1 := S.mono e1
  exact ⟨own, ds, cs, P, PX, S1.ow, S1.sl.sees hs, r, hl, hF, fun d v H' p e2 r2 => q d v H' p (e1.trans e2) r2, S1.wi⟩
/-- o.m(e, ..), o an object lent or owned -/
theorem de_methR {j n : Nat} {F : PhiR} {C : Addr} (c : Ct M X W k Nm sc) (f : MethOkR M C j m n F) (cl : Cls M.K C) (hj : j ≤ k) (h : DE X W o δ (fun x => ∃ s fs, x = .opq (.ref s) ∧ See δ s (.ins C fs) ∧ fs.lookup m = none ∧ DA X W (e :: es) δ (fun ds => ds.length + 1 = n ∧ ∃ cs, Sees δ cs ∧ F (.opq (.ref s) :: ds) cs P PX) PX) PX) {pl : Sem Bool}
    (hst : starEach (e :: es) X.env = (false, eval e X.env) :: starEach es X.env := by rfl) (hpl : (backTo pos (starEach es X.env)).any (·.1) = false := by rfl)
    (ht : eval (.Call (.Attribute o m apos) (e :: es) [] pos) X.env = (do
      let ov ← eval o X.env
      standAt apos.atName
      let (f, first) ← holding [ov] (getMethod ov m pl)
      callWith pos f first (backTo pos (starEach (e :: es) X.env)) (backToKw pos (keywordEach [] X.env))) := by rfl) : DE X W (.Call (.Attribute o m apos) (e :: es) [] pos) δ P PX := by
  obtain ⟨fa, fd, ps, G, hm, hb⟩ := f.ex
  rw [← c.hK] at cl hm hb
  rw [← c.hP, ← c.hw, ← c.hK, ← c.hmg, ← c.hb] at G
  intro σ H own Q S q pins s I
  have h1 : semE X o σ H fun v H1 => ∃ (l dx : Addr) (es' : List (Str × V)), v = .ref l ∧ H1 l = some (.ins C dx es') ∧ es'.lookup m = none ∧ semA X (e :: es) σ H1 fun vs H2 => spR X.K n F (.ref l :: vs) H2 Q (fun cls d H => W cls d σ H) := by
    refine h σ H own _ S fun x v H1 ⟨l, fs, hx, hs, hl, h2⟩ e1 r => ?_
    subst hx
    obtain rfl : v = .ref l := r
    obtain ⟨_, dx, es', g1, g2⟩ := (S.mono e1).sl.see hs
    refine ⟨l, dx, es', rfl, g1, g2.lookupN hl, ?_⟩
    refine h2 σ H1 own _ (S.mono e1) fun ds vs H2 ⟨hn, cs, hs2, hF⟩ e2 r2 => ?_
    have S2 := S.mono (e1.trans e2)
    exact ⟨own, .opq (.ref l) :: ds, cs, P, PX, S2.ow, S2.sl.sees hs2, ⟨_, _, rfl, rfl, r2⟩, by rw [List.length_cons]; exact hn, hF, fun d v H' p e3 r3 => q d v H' p ((e1.trans e2).trans e3) r3, S2.wi⟩
  refine PySem.W.methodCall_KW (pl := pl) (thn (h1 pins s I) fun u s1 ⟨v, H1, I1, rx, l, dx, es', hv, ea, hl, q1⟩ => ?_) ht
  subst hv
  obtain rfl : u = Value.ref l := rx
  refine getmeth_ok I1 ea cl hm hl ?_
  refine PySem.W.callWith_K (first := [.ref l]) (h₀ := X.base) I.ok.mod.kin hm.kp (thn (q1 pos pins s1 I1) fun us s2 ⟨vs, H2, I2, r, q2⟩ => ⟨I2.kIn, ?_⟩) hst hpl
  exact run_fnS (E := fun σ cls d H => W cls d σ H) (us := .ref l :: us) (vs := .ref l :: vs) G (c.room.mono hj) hb (passAt c.tk σ) I2 (.cons rfl r) q2
/-- a dict that may be read -/
theorem dk_see {P : List (Key × D) → Prop} (h : DE X W e δ (fun d => ∃ q kvs, d = .opq (.ref q) ∧ See δ q (.dic kvs) ∧ P kvs) PX) : DK X W e δ P PX := by
  intro σ H own Q S q'
  refine h σ H own _ S fun d v H2 ⟨q, kvs, hd, hs, p⟩ e2 r => ?_
  subst hd
  obtain rfl : v = .ref q := r
  obtain ⟨_, es, g1, g2⟩ := (S.mono e2).sl.see hs
  exact q' kvs q es H2 p e2 g1 g2
/-- a list that may be read -/
theorem dr_see (h : DE X W e δ (fun d => ∃ q ds, d = .opq (.ref q) ∧ See δ q (.lst ds) ∧ P (.lst ds)) PX) : DR X W e δ P PX := by
  intro σ H own Q S q'
  refine h σ H own _ S fun d v H2 ⟨q, ds, hd, hs, p⟩ e2 r => ?_
  subst hd
  obtain rfl : v = .ref q := r
  obtain ⟨_, vs, g1, g2⟩ := (S.mono e2).sl.see hs
  exact q' (.lst ds) (.ref q) H2 p e2 ⟨q, vs, rfl, SqL.of g1, g2.mono mask_le⟩
/-- for .. in a list that may be read -/
theorem ds_forS (c : Ct M X W k Nm sc) {N : List Slot → Prop} {R : D → List Slot → Prop} {B C : List Slot → Prop} {PX : Xd → List Slot → Prop} {body : List Stmt} {tg iter : Expr} {l : Addr} {ds : List D} (I : Nat → List Slot → Prop) (hsee : ∀ i δi, I i δi → See δi l (.lst ds)) (h0 : I 0 δ) (h : DE X W iter δ (fun d => d = .opq (.ref l)) (fun x => PX x δ))
    (step : ∀ i d δi, ds[i]? = some d → I i δi → ∃ δ2 T, DG M Nm sc tg d δi δ2 T ∧ DSs X W body δ2 (I (i + 1)) R N (I (i + 1)) PX) (fin : ∀ δn, I ds.length δn → N δn)
    (hs : ∀ x, foldedSetIterable iter X.env x = pure x := by intro _; rfl) : DS X W (.For tg iter body [] pos) δ N R B C PX := fun Hb o0 own D' σ H o g => by
  refine sem_ps (ps_for c.po c.calm (pi_list pe_sem) pg_sem pss_sem hs) ?_
  refine h σ H own _ (o.sy g) fun d v H1 hd e1 r => ?_
  subst hd
  obtain rfl : v = .ref l := r
  have o1 := o.mono e1
  have at_ : ∀ {i : Nat} {δi : List Slot} {own' : Addr → Bool} {σ' : L2.St} {H' : Hp}, I i δi → Ok X.K Hb o0 own' σ' H' δi → ∃ vs, SqL X.K H' l vs ∧ RepL X.K (mask own' H') ds vs := fun {i δi own' σ' H'} hI o' => by
    obtain ⟨_, vs, g1, g2⟩ := o'.sl.see (hsee i δi hI)
    exact ⟨vs, SqL.of g1, g2⟩
  obtain ⟨vs0, s0, r0⟩ := at_ h0 o1
  refine ⟨l, rfl, ⟨vs0, s0⟩, ?_⟩
  refine ⟨fun i m σ' H' => m = ds.length - i ∧ i ≤ ds.length ∧ ∃ δi own', I i δi ∧ Ok X.K Hb o0 own' σ' H' δi, ⟨ds.length, by simp, Nat.zero_le _, δ, own, h0, o1⟩, ?_⟩
  rintro i m σ' H' ⟨rfl, hi, δi, own', hI, o'⟩
  obtain ⟨vs, s1, r1⟩ := at_ hI o'
  by_cases hlt : i < ds.length
  · have hd : ds[i]? = some ds[i] := by simp [hlt]
    obtain ⟨v, h3, h4⟩ := r1.get hd
    obtain ⟨δ2, T, ⟨gg, g1, g2⟩, hb⟩ := step i ds[i] δi hd hI
    refine .inr ⟨⟨vs, v, s1, h3⟩, fun σ3 H3 => ∃ δ3 own3, I (i + 1) δ3 ∧ Ok X.K Hb o0 own3 σ3 H3 δ3, fun σ3 H3 ⟨δ3, own3, i3, o3⟩ => ⟨ds.length - (i + 1), by omega, rfl, hlt, δ3, own3, i3, o3⟩, fun y H2 hy => ?_⟩
    obtain ⟨z, hy⟩ := hy
    subst z
    have := hy vs s1
    rw [h3] at this; cases this
    have S2 := o'.sl
    have r := h4
    rw [c.hK] at S2 r
    intro pins s u Iv ru
    refine (g1 X W k c).run pins s σ' H2 _ u _ Iv ru (g2 _ σ' H2 own' o0 _ S2 o'.acc r fun σ3 S3 a3 _ => ?_)
    rw [← c.hK] at S3
    exact hb Hb o0 own' _ σ3 H2 ⟨o'.sub, o'.ow, o'.mine, o'.ex, S3, a3⟩
      ⟨fun own4 σ4 H4 δ4 i4 o4 => ⟨δ4, own4, i4, o4⟩, g.rt, g.nx, fun own4 σ4 H4 δ4 i4 o4 => ⟨δ4, own4, i4, o4⟩, g.px⟩
  · have e2 : i = ds.length := by omega
    subst e2
    exact .inl ⟨⟨vs, s1, by rw [r1.length]; exact Nat.le_refl _⟩, g.nx own' σ' H' δi (fin δi hI) o'⟩
/-- o.f, o an object lent or owned -/
theorem de_cfld {f : Str} {C : Addr} (c : Ct M X W k Nm sc) (cl : Cls M.K C) (na : NoAttr M.K C f) (h : DE X W o δ (fun x => ∃ s fs d, x = .opq (.ref s) ∧ See δ s (.ins C fs) ∧ fs.lookup f = some d ∧ P d) PX) (hb : attributeBase o f X.env (eval o X.env) = eval o X.env := by rfl) : DE X W (.Attribute o f apos) δ P PX := by
  refine de_mk (pe_fld pe_sem hb) ?_
  intro σ H own Q S q
  refine h σ H own _ S fun x v H1 ⟨s, fs, d, hx, hs, hl, p⟩ e1 r => ?_
  subst hx
  obtain rfl : v = .ref s := r
  obtain ⟨_, dx, es, g1, g2⟩ := (S.mono e1).sl.see hs
  obtain ⟨w, hw, rw'⟩ := g2.lookup hl
  exact ⟨s, C, dx, es, w, rfl, g1, by rw [c.hK]; exact cl, by rw [c.hK]; exact na, hw, q d w H1 p e1 rw'⟩
end
end PV

set_option Elab.async false
set_option linter.all false
set_option maxRecDepth 100000
set_option maxHeartbeats 4000000
/-! PV41: exceptions with fields of their own: made, raised, asked, read -/
namespace PV
open PySem PySem.Spec PyProof.Rows L2
/-- what the class B says, so that B.__init__ is ValueError's -/
structure InB (M : Md) (x : Str) (B : Addr) : Prop where
  ml : M.mg x = some (.ref B)
  ga : PySem.W.specialIn M.K (.ref B) "__getattribute__" = some (some (.builtin "type.__getattribute__"))
  rd : PySem.W.readsIn M.K B (.type "type") = true
  vi : PySem.W.findCls M.K (.ref B) (.type "type") "__init__" = some (.val (.builtin "ValueError.__init__"))
section
variable {X : Cx} {o e : Expr} {es : List Expr} {to te : TE} {ta : TA} {f x : Str} {p p' p1 p2 pos : Pos}
theorem pe_binit {B : Addr} {pl : Sem Bool} (hg : Gl X x) (hm : X.mg x = some (.ref B)) (ga : PySem.W.specialIn X.K (.ref B) "__getattribute__" = some (some (.builtin "type.__getattribute__"))) (rd : PySem.W.readsIn X.K B (.type "type") = true) (vV : PySem.W.findCls X.K (.ref B) (.type "type") "__init__" = some (.val (.builtin "ValueError.__init__"))) (ha : PA X (e :: es) ta)
    (hdb : (x == ("__debug__" : Str)) = false := by decide)
    (hc : eval (.Call (.Attribute (.Name x p1) "__init__" p2) (e :: es) [] pos) X.env = (do
      let ov ← eval (.Name x p1) X.env
      standAt p2.atName
      let (f, first) ← holding [ov] (getMethod ov "__init__" pl)
      callWith pos f first (backTo pos (starEach (e :: es) X.env)) (backToKw pos (keywordEach [] X.env))) := by rfl)
    (he : starEach (e :: es) X.env = (false, eval e X.env) :: starEach es X.env := by rfl) (hpl : (backTo pos (starEach es X.env)).any (·.1) = false := by rfl) :
    PE X (.Call (.Attribute (.Name x p1) "__init__" p2) (e :: es) [] pos) (tVeI X.K ta) := by
  refine ⟨fun pins s σ H Q I h => ?_⟩
  refine PySem.W.methodCall_KW (ld_glob I hg hm ?_ hdb) hc
  refine PySem.W.method_cls I.kIn ga (PySem.W.cls_value I.kIn rd vV (by decide +kernel) ?_)
  show wpAny _ _ (callWith pos (Value.builtin "ValueError.__init__") [] (backTo pos (starEach (e :: es) X.env)) []) _ _ _
  refine PyProof.Rows.callWith_method1 (thn (ha.run pos pins _ σ H _ (I.tok _) h) fun us s1 ⟨vs, H1, I1, r1, a, C, ws, ev, hl, T, ea, q⟩ => ?_) he hpl
  subst ev
  cases r1 with
  | @cons _ u0 _ ur ra rw' =>
    obtain rfl : u0 = Value.ref a := ra
    have hlen : ur.length ≤ sizeLine := by
      rw [← Paired.length rw', sizeLine_eq]
      omega
    exact oinit_ok T I1 ea hlen fun s' J => ⟨.non, H1, J, rfl, q⟩
end
/-- what an __init__ of such an exception promises: its fields by names, each a parameter -/
def spX (K : Fr) (C : Addr) (nms : List Str) : Sp := fun vs H Q E => ∃ a ws, vs = .ref a :: ws ∧ ws.length = nms.length ∧ H a = some (exo a C none) ∧
  ∀ dx H2, H dx = none → dx ≠ a → H2 a = some (exo a C (some dx)) → H2 dx = some (exd dx (nms.zip ws).reverse) → (∀ b, b ≠ a → b ≠ dx → H2 b = H b) → Q .non H2
/-- the body of such an __init__ with one field, as steps -/
def tXi1 (K : Fr) (fl tx : Str) : TS := tSeq (tDrop (tVeI K (tCons (tVar 0) (tCons (tC (.str tx)) tNil)))) (tSeq (tOst K fl (tVar 0) (tVar 1)) tNext)
def tXi2 (K : Fr) (fl gl tx : Str) : TS := tSeq (tDrop (tVeI K (tCons (tVar 0) (tCons (tC (.str tx)) tNil)))) (tSeq (tOst K fl (tVar 0) (tVar 1)) (tSeq (tOst K gl (tVar 0) (tVar 2)) tNext))
theorem xinit1 {M : Md} {y qual : Str} {st : Stmt} {f C : Addr} {fd : FuncData} {k : Nat} {sl pf fl tx : Str} (T : OexC M.K C) (fo : PySem.W.findIn M.K (.ref C) fl = some none) (G : Fun M.K y qual st f fd) (S : FnScope [sl, pf] [sl, pf] (defScope st))
    (hb : ∀ X W, Ct M X W k [sl, pf] (defScope st) → PSs X (defBody st) (tXi1 X.K fl tx)) :
    FnOk M.P M.w M.K M.mg M.base (L2.CX M.P M.w) (k + 1) f fd [sl, pf] (spX M.K C [fl]) := by
  refine G.okX S (fun vs H Q E hh => ?_) (fun cdv A outer s H vs Q E hr hh => ?_)
  · obtain ⟨a, ws, rfl, hl, _⟩ := hh
    rw [List.length_cons, hl]; rfl
  · obtain ⟨a, ws, rfl, hl, ha, hq⟩ := hh
    obtain ⟨v, rfl⟩ : ∃ v, ws = [v] := by
      match ws, hl with
      | [v], _ => exact ⟨v, rfl⟩
    have c : Ct M (cxOf (L2.CX M.P M.w) M.P M.w M.K M.mg M.base [sl, pf] qual (defScope st) f cdv A outer s H E) (fun cls d _ H => E cls d H) k [sl, pf] (defScope st) :=
      ⟨hr, rfl, takes_of rfl rfl rfl rfl, S.nd, rfl, rfl, rfl, rfl, rfl, rfl, fun x hx => hx, fun x hx => hx, fun x hx => hx, S.kind, fun x hx => hx, fun sc own hb => blkOk_by hb, passes_of rfl, fun x hx => .inl rfl⟩
    refine ⟨_, hb _ _ c, ?_⟩
    refine ⟨.ref a, rfl, a, C, [.str tx], rfl, by show 1 ≤ 1000; decide, T, ha, ?_⟩
    refine ⟨v, rfl, .ref a, rfl, a, C, rfl, T, fo, .inl ⟨ha, fun dx hd hne => ?_⟩⟩
    refine hq dx _ hd hne upd_same ?_ fun b hb1 hb2 => ?_
    · rw [upd_ne hne, upd_same]; rfl
    · rw [upd_ne hb1, upd_ne hb2]
theorem xinit2 {M : Md} {y qual : Str} {st : Stmt} {f C : Addr} {fd : FuncData} {k : Nat} {sl pf pg fl gl tx : Str} (T : OexC M.K C) (fo : PySem.W.findIn M.K (.ref C) fl = some none) (go : PySem.W.findIn M.K (.ref C) gl = some none) (G : Fun M.K y qual st f fd) (S : FnScope [sl, pf, pg] [sl, pf, pg] (defScope st))
    (hb : ∀ X W, Ct M X W k [sl, pf, pg] (defScope st) → PSs X (defBody st) (tXi2 X.K fl gl tx)) :
    FnOk M.P M.w M.K M.mg M.base (L2.CX M.P M.w) (k + 1) f fd [sl, pf, pg] (spX M.K C [fl, gl]) := by
  refine G.okX S (fun vs H Q E hh => ?_) (fun cdv A outer s H vs Q E hr hh => ?_)
  · obtain ⟨a, ws, rfl, hl, _⟩ := hh
    rw [List.length_cons, hl]; rfl
  · obtain ⟨a, ws, rfl, hl, ha, hq⟩ := hh
    obtain ⟨v, u, rfl⟩ : ∃ v u, ws = [v, u] := by
      match ws, hl with
      | [v, u], _ => exact ⟨v, u, rfl⟩
    have c : Ct M (cxOf (L2.CX M.P M.w) M.P M.w M.K M.mg M.base [sl, pf, pg] qual (defScope st) f cdv A outer s H E) (fun cls d _ H => E cls d H) k [sl, pf, pg] (defScope st) :=
      ⟨hr, rfl, takes_of rfl rfl rfl rfl, S.nd, rfl, rfl, rfl, rfl, rfl, rfl, fun x hx => hx, fun x hx => hx, fun x hx => hx, S.kind, fun x hx => hx, fun sc own hb => blkOk_by hb, passes_of rfl, fun x hx => .inl rfl⟩
    refine ⟨_, hb _ _ c, ?_⟩
    refine ⟨.ref a, rfl, a, C, [.str tx], rfl, by show 1 ≤ 1000; decide, T, ha, ?_⟩
    refine ⟨v, rfl, .ref a, rfl, a, C, rfl, T, fo, .inl ⟨ha, fun dx hd hne => ?_⟩⟩
    refine ⟨u, rfl, .ref a, rfl, a, C, rfl, T, go, .inr ⟨dx, [(fl, v)], upd_same, by rw [upd_ne hne, upd_same], by show 1 ≤ 900; decide, ?_⟩⟩
    refine hq dx _ hd hne ?_ ?_ fun b hb1 hb2 => ?_
    · rw [upd_ne (Ne.symm hne), upd_same]
    · rw [upd_same]; rfl
    · rw [upd_ne hb2, upd_ne hb1, upd_ne hb2]
/-- a class whose instances carry fields -/
structure EXF (M : Md) (x : Str) (C : Addr) (j : Nat) (nms : List Str) : Prop where
  ml : M.mg x = some (.ref C)
  oc : OexC M.K C
  ini : ∃ fI fd ps, PySem.W.findIn M.K (.ref C) "__init__" = some (some (.ref fI)) ∧ PySem.W.typeIn M.K (.ref fI) = some (.type "function") ∧ FnOk M.P M.w M.K M.mg M.base (L2.CX M.P M.w) j fI fd ps (spX M.K C nms) ∧ Binds M.K fd ps []
theorem RepF.app {K : Fr} {H : Hp} : ∀ {fs gs : List (Str × D)} {es ds : List (Str × V)}, RepF K H fs es → RepF K H gs ds → RepF K H (fs ++ gs) (es ++ ds)
  | [], _, _, _, h, g => by subst h; exact g
  | _ :: _, _, _, _, h, g => by
    obtain ⟨v, r, rfl, h2, h3⟩ := h
    exact ⟨v, _, rfl, h2, RepF.app h3 g⟩
theorem RepF.rev {K : Fr} {H : Hp} : ∀ {fs : List (Str × D)} {es : List (Str × V)}, RepF K H fs es → RepF K H fs.reverse es.reverse
  | [], _, h => by subst h; rfl
  | _ :: _, _, h => by
    obtain ⟨v, r, rfl, h2, h3⟩ := h
    rw [List.reverse_cons, List.reverse_cons]
    exact RepF.app (RepF.rev h3) ⟨v, [], rfl, h2, rfl⟩
theorem RepF.zip {K : Fr} {H : Hp} : ∀ {nms : List Str} {ds : List D} {vs : List V}, RepL K H ds vs → RepF K H (nms.zip ds) (nms.zip vs)
  | [], _, _, _ => rfl
  | _ :: _, [], _, h => by subst h; rfl
  | _ :: _, _ :: _, _, h => by
    obtain ⟨v, r, rfl, h2, h3⟩ := h
    exact ⟨v, _, rfl, h2, RepF.zip h3⟩
section
variable {M : Md} {X : Cx} {W : WX} {k : Nat} {Nm : List Str} {sc : Scope} {δ δ' δ1 : List Slot} {P : D → Prop} {PX : Xd → Prop} {e a b d2 o : Expr} {es : List Expr} {pos p apos : Pos} {x m : Str} {K : Fr}
/-- raise C(e, ..), C's own __init__ keeping its parameters as fields -/
theorem ds_raiseF {C : Addr} {j : Nat} {nms : List Str} {p1 p3 : Pos} {N : List Slot → Prop} {R : D → List Slot → Prop} {B C' : List Slot → Prop} {PX : Xd → List Slot → Prop} (c : Ct M X W k Nm sc) (f : EXF M x C j nms) (hj : j + 1 ≤ k) (hg : GlS sc x) (h : DA X W (e :: es) δ (fun ds => ds.length = nms.length ∧ ds.length ≤ 100 ∧ PX (.flds (.ref C) (nms.zip ds).reverse) δ) (fun x => PX x δ)) (hdb : (x == ("__debug__" : Str)) = false := by decide)
    (he : starEach (e :: es) X.env = (false, eval e X.env) :: starEach es X.env := by rfl) (hpl : (backTo p3 (starEach es X.env)).any (·.1) = false := by rfl) :
    DS X W (.Raise (some (.Call (.Name x p1) (e :: es) [] p3)) none pos) δ N R B C' PX := fun Hb o0 own D' σ H o g => by
  obtain ⟨hm, T, fI, fd, ps, iC, tI, G, hb⟩ := f
  rw [← c.hK] at T iC tI hb
  rw [← c.hmg] at hm
  rw [← c.hP, ← c.hw, ← c.hK, ← c.hmg, ← c.hb] at G
  refine sem_ps (ps_raise c.calm c.tk (pmk_oex T iC tI G (c.room.mono hj) hb .nil (passes_call c.tk fun _ _ _ _ z => z.elim) (c.gl _ hg) hm pa_sem hdb he hpl)) ?_
  refine h σ H own _ (o.sy g) fun ds vs H1 ⟨hl, hz, p⟩ e1 r => ?_
  have hlv := r.length
  refine ⟨by omega, fun a ha => ⟨a, vs, by rw [List.append_nil], by rw [hlv, hl], upd_same, fun dx H2 hd hne g1 g2 g3 => ⟨rfl, dx, _, g1, g2, ?_, ?_⟩⟩⟩
  · rw [upd_ne hne] at hd; exact hd
  rw [upd_ne hne] at hd
  have o1 := o.mono e1
  have ex : Ex H1 (upd (del H2 a) dx (.xd (nms.zip vs).reverse)) := fun b u hb => by
    have b1 : b ≠ a := fun z => by rw [z, ha] at hb; cases hb
    have b2 : b ≠ dx := fun z => by rw [z, hd] at hb; cases hb
    rw [upd_ne b2, del_ne b1, g3 b b1 b2, upd_ne b1]
    exact hb
  refine (o1.sy g).wi.fl (.ref C) _ p _ dx _ ex ?_ ((RepF.zip r).rev.mono (mask_ex ex))
  unfold mask
  rw [o1.notOwn hd, if_neg Bool.false_ne_true]
  exact upd_same
/-! isinstance, with or without fields -/
theorem kitx_excD {K : PySem.W.Frag} {D a : Addr} {ox : Obj} (C : ExcC K D) : PySem.W.KitX K (.ref a) (.ref D) (fun h => ∃ od, PySem.W.InstAt h a ox D od) where
  ty := fun _ _ _ ⟨_, I⟩ => I.type
  it := fun _ _ X _ => by
    obtain ⟨cdD, hcD, _⟩ := PySem.W.any_some C.hd
    unfold PySem.W.clsIn at hcD
    split at hcD
    · rename_i c' d' cd' sl' ho
      intro A' Q' E' s' k q
      unfold isType loadHead
      exact wpAny_bind (wpAny_loadPart (k _ _ (X _ _ ho)) (wpAny_pure q))
    · cases hcD
  ne := (PySem.W.handS_kitx_exc (x := a) (ox := ox) C.hg C.hk C.hs C.hd C.ha C.hn C.ht C.hm).ne
  ca := fun X ⟨od, I⟩ k => PySem.W.kx_classE X I C.hg C.hk C.hs (PySem.W.findObj_dataE (by obtain ⟨cd, hc, _⟩ := PySem.W.any_some C.hd; rw [hc]; rfl) C.ha C.hn C.ht) C.hm k
theorem exF_at {P : Program} {w : World} {H : Hp} {h : Heap} {a E : Addr} (hok : HOk P w H h) {fs : List (Str × D)} (x : ExF H a E fs) : ∃ (oe : Obj) (vs : Array Value), h.get? a = some oe ∧ oe.cls = .ref E ∧ oe.dict = none ∧ oe.data = .fields vs := by
  have old : H a = some (excHO a E none) → ∃ (oe : Obj) (vs : Array Value), h.get? a = some oe ∧ oe.cls = .ref E ∧ oe.dict = none ∧ oe.data = .fields vs := fun z => by
    obtain ⟨⟨oe, g1, g2, g3, vs, g4⟩, _⟩ := hok a _ z
    exact ⟨oe, vs, g1, g2, g3, g4⟩
  cases fs with
  | nil => exact old x
  | cons f r =>
    obtain ⟨n, d⟩ := f
    cases d with
    | str m =>
      obtain ⟨t, h1, _⟩ := x
      obtain ⟨⟨oe, vs, g1, g2, g3, g4, _⟩, _⟩ := hok a _ h1
      exact ⟨oe, vs, g1, g2, g3, g4⟩
    | _ => exact old x
def rIsD (K : Fr) : List V → Hp → VK → Prop := fun xs H Q => ∃ (a E : Addr) (cc : V) (cv : Value) (b : Bool), xs = [.ref a, cc] ∧ ((∃ fs, ExF H a E fs) ∨ ∃ d es, H a = some (excHO a E (some d)) ∧ H d = some (.xd es)) ∧ ExcC K E ∧ (∀ u, RelV cc u → u = cv) ∧ PySem.W.kitOne K (.ref E) cv = some b ∧ Q (.bl b) H
theorem inst_exc {P : Program} {w : World} {H : Hp} {h : Heap} {a E d : Addr} {es : List (Str × V)} (hok : HOk P w H h) (h1 : H a = some (excHO a E (some d))) (h2 : H d = some (.xd es)) : ∃ oe od, PySem.W.InstAt h a oe E (some od) ∧ h.get? d = some od := by
  obtain ⟨⟨oe, g1, g2, g3, vs, g4⟩, _⟩ := hok a _ h1
  have x : ObjOk P w H h d (.xd es) := hok d _ h2
  obtain ⟨mA, hns, hr⟩ := x
  obtain ⟨od, ho, hl⟩ := lookIn_ns hns
  exact ⟨oe, od, ⟨g1, g2, by unfold PySem.W.notCls; rw [g4] <;> rfl, by rw [g3]; exact ho⟩, ho⟩
theorem call_isD {X : Cx} : CallR X (.builtin "isinstance") (rIsD X.K) := by
  intro pins s σ H xs us Q I r h
  obtain ⟨a, E, cc, cv, b, rfl, hH, C, hcv, e, q⟩ := h
  cases r with
  | cons rx rr =>
    cases rr with
    | cons rt rr =>
      cases rr
      cases rx
      have ec := hcv _ rt
      subst ec
      obtain ⟨oe, J⟩ : ∃ oe, ∃ od, PySem.W.InstAt s.heap a oe E od := by
        rcases hH with ⟨fs, hH⟩ | ⟨d, es, hH, hd⟩
        · obtain ⟨oe, vs, g1, g2, g3, g4⟩ := exF_at I.hok hH
          obtain ⟨oc, od, oda, osl⟩ := oe
          dsimp only at g2 g3 g4
          subst g2 g3 g4
          exact ⟨_, none, g1, rfl, rfl, trivial⟩
        · obtain ⟨oe, od, J, _⟩ := inst_exc I.hok hH hd
          exact ⟨oe, some od, J⟩
      refine PySem.W.kia_one (kitx_excD (ox := oe) C) I.kIn J e (fun z => nomatch z) fun tk => ?_
      exact ⟨.bl b, H, I.tok tk, rfl, q⟩
theorem de_isiX {p2 : Pos} (c : Ct M X W k Nm sc) (hg : GlS sc "isinstance") (hm : Bi M "isinstance")
    (h : DR X W e δ (fun d => DE X W b δ (fun t => ∃ E w fs cv r, d = .exc E w fs ∧ t = .opq cv ∧ IsK M E cv r ∧ P (.bl r)) PX) PX)
    (he : starEach [e, b] X.env = (false, eval e X.env) :: starEach [b] X.env := by rfl) (he2 : starEach [b] X.env = (false, eval b X.env) :: starEach [] X.env := by rfl) (hpl : (backTo pos (starEach [b] X.env)).any (·.1) = false := by rfl) :
    DE X W (.Call (.Name "isinstance" p) [e, b] [] pos) δ P PX := by
  refine de_callBR c call_isD hg hm (by decide +kernel) ?_ (by decide) (by decide) he hpl
  refine dar_cons ?_ he
  refine h.imp fun d hd => ?_
  refine dar_cons (dr_of (hd.imp fun t ht => dar_nil ?_)) he2
  obtain ⟨E, w, fs, cv, r, rfl, rfl, ⟨C, v, hv, hk⟩, pr⟩ := ht
  intro vs H Q rr q
  obtain ⟨v1, v2, rfl, ⟨aa, rfl, ha⟩, rb⟩ := rr.vals2
  obtain rfl : v2 = cv := rb
  refine ⟨aa, E, v2, v, r, rfl, ?_, by rw [c.hK]; exact C, hv, by rw [c.hK]; exact hk, q (.bl r) _ H rfl pr (Ex.refl H) rfl⟩
  rcases ha with ha | ⟨_, d, es, h1, h2, _⟩
  · exact .inl ⟨_, ha.2⟩
  · exact .inr ⟨d, es, h1, h2⟩
/-- e.f, e a kept exception -/
theorem de_xfld {f : Str} {C : Addr} (c : Ct M X W k Nm sc) (T : XfC M.K C) (hno : PySem.W.findIn M.K (.ref C) f = some none) (h : DE X W o δ (fun x => ∃ fs d, x = .exc C true fs ∧ fs.lookup f = some d ∧ P d) PX) (hb : attributeBase o f X.env (eval o X.env) = eval o X.env := by rfl) : DE X W (.Attribute o f apos) δ P PX := by
  intro σ H own Q S q pins s I
  rw [← c.hK] at T hno
  have h1 : semE X o σ H fun v H1 => ∃ (a d : Addr) (es : List (Str × V)) (w : V), v = .ref a ∧ H1 a = some (excHO a C (some d)) ∧ H1 d = some (.xd es) ∧ es.lookup f = some w ∧ Q w H1 := by
    refine h σ H own _ S fun x v H1 ⟨fs, d, hx, hl, p⟩ e1 r => ?_
    subst hx
    obtain ⟨a, rfl, ⟨z, _⟩ | ⟨_, dd, es, g1, g2, g3⟩⟩ := r
    · cases z
    · obtain ⟨w, hw, rw'⟩ := g3.lookup hl
      exact ⟨a, dd, es, w, rfl, mask_le _ _ g1, mask_le _ _ g2, hw, q d w H1 p e1 rw'⟩
  refine attr_of hb (thn (h1 pins s I) fun u s1 hh => ?_)
  obtain ⟨x, H1, I1, rx, a, d, es, w, ex, g1, g2, l, q1⟩ := hh
  subst ex
  obtain rfl : u = Value.ref a := rx
  have hx : ObjOk X.prog X.w H1 s1.heap d (.xd es) := I1.hok d _ g2
  obtain ⟨mA, hns, hr⟩ := hx
  obtain ⟨od, ho, hl⟩ := lookIn_ns hns
  obtain ⟨u, hu, ru⟩ := RelO.some_of (v := w) (o := mA f) (by rw [← l]; exact hr f)
  obtain ⟨oe, od', J, ho'⟩ := inst_exc I1.hok g1 g2
  obtain rfl : od' = od := Option.some.inj (ho'.symm.trans ho)
  exact HandSPX.exc_get I1.kIn J T.ga T.gg T.exC (PySem.W.findObj_own T.hdC hno rfl (by rw [hl, hu])) (handed_of ru) ⟨w, H1, I1.tok _, ru, q1⟩
end
end PV

set_option Elab.async false
set_option linter.all false
set_option maxRecDepth 100000
set_option maxHeartbeats 4000000
/-! PV42: instances made of what is lent; comprehensions over what may be read; lists emptied -/
namespace PV
open PySem PySem.Spec PyProof.Rows L2
theorem tail2 {δ0 : List Slot} {u v : Slot} {i : Nat} {s : Slot} (b : (δ0 ++ [u, v])[i]? = some s) : δ0[i]? = some s ∨ (i = δ0.length ∧ s = u) ∨ (i = δ0.length + 1 ∧ s = v) := by
  by_cases hi : i < δ0.length
  · rw [List.getElem?_append_left hi] at b
    exact .inl b
  · rw [List.getElem?_append_right (by omega)] at b
    cases hz : i - δ0.length with
    | zero => rw [hz] at b; exact .inr (.inl ⟨by omega, (Option.some.inj b).symm⟩)
    | succ n =>
      rw [hz] at b
      cases n with
      | zero => exact .inr (.inr ⟨by omega, (Option.some.inj b).symm⟩)
      | succ n => cases b
theorem slots_lookG {K : Fr} {own : Addr → Bool} {H : Hp} {σ : L2.St} {δ0 : List Slot} {cs : List (Addr × Cell)} (h : Slots0 K own H σ δ0) (hc : LkOk K own H cs) (dis : ∀ (i : Nat) (x : Option V) (s : Slot) (l : Addr), σ[i]? = some x → δ0[i]? = some s → s.has x l → l ∉ cs.map (·.1)) : Slots K own H σ (δ0 ++ [.look cs, .heap []]) := by
  have at_ : ∀ {i : Nat} {x : Option V} {s : Slot}, (σ ++ [none, none])[i]? = some x → δ0[i]? = some s → σ[i]? = some x := fun {i x s} a b => by
    have hi : i < δ0.length := (List.getElem?_eq_some_iff.mp b).1
    rw [List.getElem?_append_left (by rw [h.len]; exact hi)] at a
    exact a
  refine ⟨[none, none], by simp [h.len], fun i x s a b => ?_, fun i j x y s t l ij a b c d e f => ?_⟩
  · rcases tail2 b with h1 | ⟨_, rfl⟩ | ⟨_, rfl⟩
    · exact h.ok i x s (at_ a h1) h1
    · exact hc
    · exact ⟨by simp, fun z hz => by cases hz⟩
  · rcases tail2 c with c1 | ⟨c1, rfl⟩ | ⟨c1, rfl⟩
    · rcases tail2 d with d1 | ⟨d1, rfl⟩ | ⟨d1, rfl⟩
      · exact h.sep i j x y s t l ij (at_ a c1) (at_ b d1) c1 d1 e f
      · exact dis i x s l (at_ a c1) c1 e f
      · cases f
    · rcases tail2 d with d1 | ⟨d1, rfl⟩ | ⟨d1, rfl⟩
      · exact dis j y t l (at_ b d1) d1 f e
      · exact ij (c1.trans d1.symm)
      · cases f
    · cases e
theorem own0_app {o0 : Addr → Bool} {σ : L2.St} {δ0 : List Slot} {cs : List (Addr × Cell)} (h : Own0 o0 σ δ0) : Own0 o0 σ (δ0 ++ [.look cs, .heap []]) := by
  intro i s l a b
  rcases tail2 a with h1 | ⟨_, rfl⟩ | ⟨_, rfl⟩
  · exact h i s l h1 b
  · exact b.elim
  · cases b
abbrev PhiIR := List D → List (Addr × Cell) → (List (Str × D) → Prop) → (Xd → Prop) → Prop
def spIR (K : Fr) (C : Addr) (n : Nat) (F : PhiIR) : Sp := fun vs H Q E => ∃ own x dx ws ds cs P PX, vs = .ref x :: ws ∧ own x = false ∧ (∀ a, own a = true → H a ≠ none) ∧ H x = some (.ins C dx []) ∧ LkOk K (addOwn own x) H cs ∧ (∀ z ∈ cs, own z.1 = true) ∧ RepL K (mask (addOwn own x) H) ds ws ∧ ds.length + 1 = n ∧ F ds cs P PX ∧
  (∀ fs es dx' H', P fs → Ex (but x H) H' → H' x = some (.ins C dx' es) → RepF K (mask own H') fs es → Q .non H') ∧ WishX K E own (but x H) PX
section
variable {M : Md} {X : Cx} {W : WX} {k : Nat} {Nm : List Str} {sc : Scope} {δ δ' δ1 : List Slot} {e a b d2 o i' : Expr} {es : List Expr} {pos p apos : Pos} {x m : Str} {K : Fr} {st : Stmt} {rest : List Stmt} {P : D → Prop} {PX : Xd → Prop}
theorem init_okR {M : Md} {y qual : Str} {st : Stmt} {f C : Addr} {fd : FuncData} {N ps : List Str} {k n : Nat} {F : PhiIR} (G : Fun M.K y qual st f fd) (S : FnScope N ps (defScope st)) (hn : ps.length = n)
    (h : ∀ l ds cs P PX, ds.length + 1 = n → F ds cs P PX → ∀ X W, Ct M X W k N (defScope st) → DSs X W (defBody st) (startI N l C ds ++ [.look cs, .heap []]) (fun δ => ∃ fs fs' cs j, δ[0]? = some (.ins l C fs) ∧ Hs δ j cs ∧ FldsC cs fs fs' ∧ P fs') (fun _ _ => False) (fun _ => False) (fun _ => False) (fun x _ => PX x)) :
    FnOk M.P M.w M.K M.mg M.base (L2.CX M.P M.w) (k + 1) f fd ps (spIR M.K C n F) := by
  refine G.okX S (fun vs H Q E hh => ?_) (fun cdv A outer s H vs Q E hr hh => ?_)
  · obtain ⟨own, x, dx, ws, ds, cs, P, PX, rfl, _, _, _, _, _, r, hl, _⟩ := hh
    rw [List.length_cons, r.length, hl, hn]
  · obtain ⟨own, x, dx, ws, ds, cs, P, PX, rfl, hx, ow, he, lk, lo, r, hl, hF, hq, hw⟩ := hh
    refine ⟨_, pss_sem, ?_⟩
    have c : Ct M (cxOf (L2.CX M.P M.w) M.P M.w M.K M.mg M.base N qual (defScope st) f cdv A outer s H E) (fun cls d _ H => E cls d H) k N (defScope st) :=
      ⟨hr, rfl, takes_of rfl rfl rfl rfl, S.nd, rfl, rfl, rfl, rfl, rfl, rfl, fun x hx => hx, fun x hx => hx, fun x hx => hx, S.kind, fun x hx => hx, fun sc own hb => blkOk_by hb, passes_of rfl, fun x hx => .inl rfl⟩
    have s0 : Slots0 M.K (addOwn own x) H (L2.start N (.ref x :: ws)) (startS N (.opq (.ref x) :: ds)) := slots_start0 ⟨_, _, rfl, rfl, r⟩
    have h0 : (L2.start N (.ref x :: ws))[0]? = some (some (.ref x)) := rfl
    have s1 := s0.chg 0 (x' := some (.ref x)) (s' := .ins x C []) ⟨dx, [], rfl, addOwn_self, he, rfl⟩ (fun _ _ _ _ _ _ o => o) fun l _ j x s _ _ b c => startS_has j s x l b c
    rw [set_same h0] at s1
    have s2 : Slots M.K (addOwn own x) H (L2.start N (.ref x :: ws)) (startI N x C ds ++ [.look cs, .heap []]) := by
      refine slots_lookG s1 lk fun i x0 s l a b hh hm => ?_
      by_cases hi : i = 0
      · subst hi
        rw [h0] at a
        cases a
        have hs : s = .ins x C [] := (Option.some.inj (show some (Slot.ins x C []) = some s from b)).symm
        subst hs
        have hh : some (V.ref x) = some (.ref l) := hh
        cases hh
        obtain ⟨z, hz, e⟩ := List.mem_map.mp hm
        have := lo z hz
        rw [e, hx] at this
        cases this
      · unfold startI at b
        rw [List.getElem?_set_ne (Ne.symm hi)] at b
        exact startS_has i s x0 l b hh
    refine h x ds cs P PX hl hF _ _ c (but x H) own (addOwn own x) _ _ H ⟨fun a z => addOwn_old z, fun a z => ?_, fun a z1 z2 => ?_, but_ex, s2, own0_app fun i s l a b => ?_⟩
      ⟨fun own' σ' H' δ' ⟨fs, fs', cs, j, p0, ph, pf, p⟩ o' => ?_, fun _ _ _ _ _ _ z => z.elim, fun _ _ _ _ z _ => z.elim, fun _ _ _ _ z _ => z.elim, fun own' σ' H' δ' o' => ?_⟩
    · by_cases hz : a = x
      · subst hz; rw [he]; exact fun z => nomatch z
      · refine ow a ?_
        unfold addOwn at z
        simpa [hz] using z
    · have : a = x := by
        unfold addOwn at z1
        simpa [z2] using z1
      subst this
      exact if_pos rfl
    · have e := (start_own0 (o0 := own) (σ := L2.start N (.ref x :: ws)) (N := N) (ds := .opq (.ref x) :: ds)).chg 0 (x' := some (.ref x)) (s' := .ins x C []) fun x0 l' z y => by
        have z : x0 = some (V.ref l') := z
        subst z
        rcases y with y | y
        · cases y
        · cases y
          exact hx
      rw [set_same h0] at e
      exact e i s l a b
    · obtain ⟨γ, z0⟩ := o'.sl
      have len0 : 0 < (σ' ++ γ).length := by rw [z0.len]; exact (List.getElem?_eq_some_iff.mp p0).1
      have lenj : j < (σ' ++ γ).length := by rw [z0.len]; exact (List.getElem?_eq_some_iff.mp ph.S).1
      obtain ⟨dx', es, y1, y2, y3, y4⟩ := z0.ok 0 _ _ (List.getElem?_eq_getElem len0) p0
      obtain ⟨nd, hc⟩ := z0.ok j _ _ (List.getElem?_eq_getElem lenj) ph.S
      exact hq fs' es dx' H' p o'.ex y3 (pf.rep hc (fun z hz => o'.acc j _ z.1 ph.S (List.mem_map.mpr ⟨z, hz, rfl⟩)) (mask_mono o'.sub) y4)
    · exact ⟨fun c' p H2 e => hw.pl c' p H2 (o'.ex.trans e), fun c' fs p H2 d es e h1 r => hw.fl c' fs p H2 d es (o'.ex.trans e) (mask_mono o'.sub _ _ h1) (r.mono (mask_mono o'.sub))⟩
structure MkOkR (M : Md) (C : Addr) (j n : Nat) (F : PhiIR) : Prop where
  ex : ∃ f fd ps, FnOk M.P M.w M.K M.mg M.base (L2.CX M.P M.w) j f fd ps (spIR M.K C n F) ∧ Mk M.K C f ∧ Binds M.K fd ps []
/-- C(e, ..), objects lent -/
theorem de_makeR {j n : Nat} {F : PhiIR} {C : Addr} (c : Ct M X W k Nm sc) (hm : M.mg x = some (.ref C)) (f : MkOkR M C j n F) (hj : j + 1 ≤ k) (hg : GlS sc x) (h : DA X W (e :: es) δ (fun ds => ds.length + 1 = n ∧ ∃ cs, Sees δ cs ∧ F ds cs (fun fs => P (.obj C fs)) PX) PX)
    (hdb : (x == ("__debug__" : Str)) = false := by decide) (he : starEach (e :: es) X.env = (false, eval e X.env) :: starEach es X.env := by rfl) (hpl : (backTo pos (starEach es X.env)).any (·.1) = false := by rfl) : DE X W (.Call (.Name x p) (e :: es) [] pos) δ P PX := by
  obtain ⟨fa, fd, ps, G, hM, hb⟩ := f.ex
  rw [← c.hK] at hM hb
  rw [← c.hmg] at hm
  rw [← c.hP, ← c.hw, ← c.hK, ← c.hmg, ← c.hb] at G
  intro σ H own Q S q pins s I
  have h1 : semA X (e :: es) σ H fun vs H1 => ∀ l dx, H1 l = none → H1 dx = none → dx ≠ l → spIR X.K C n F (.ref l :: (vs ++ [])) (upd (upd H1 dx (.own l)) l (.ins C dx [])) (fun v H2 => v = .non ∧ Q (.ref l) H2) (fun cls d H => W cls d σ H) := by
    refine h σ H own _ S fun ds vs H1 ⟨hn, cs, hs, hF⟩ e1 r l dx hl hd hne => ?_
    have S1 := S.mono e1
    have e2 : Ex H1 (upd (upd H1 dx (.own l)) l (.ins C dx [])) := fun a u z => by
      rw [upd_ne (ne_of_none z hl), upd_ne (ne_of_none z hd)]
      exact z
    have ho : own l = false := not_own S1.ow hl
    have eb : Ex H1 (but l (upd (upd H1 dx (.own l)) l (.ins C dx []))) := fun a u z => by
      rw [but_ne (ne_of_none z hl)]
      exact e2 a u z
    have lk := S1.sl.sees hs
    refine ⟨own, l, dx, vs, ds, cs, fun fs => P (.obj C fs), PX, by rw [List.append_nil], ho, fun a z y => S1.ow a z (e2.free y), upd_same, fun z hz => ⟨addOwn_old (lk z hz).1, (lk z hz).2.to (e2 _) (mask_add e2 hl)⟩, fun z hz => (lk z hz).1, r.mono (mask_add e2 hl), hn, hF, fun fs es' dx' H' p e3 g1 r1 => ⟨rfl, ?_⟩, S1.wi.mono eb⟩
    refine q (.obj C fs) _ H' p (e1.trans (eb.trans e3)) ⟨l, dx', es', rfl, ?_, r1⟩
    unfold mask
    rw [ho]
    exact g1
  refine wpAny_Call_Name_kw (ld_glob I (c.gl _ hg) hm ?_ hdb)
  refine PySem.W.callWith_K (h₀ := X.base) I.ok.mod.kin hM.kp (thn (h1 pos pins s I) fun us s1 ⟨vs, H1, I1, r, q1⟩ => ⟨I1.kIn, ?_⟩) he hpl
  exact make_at hM G (c.room.mono hj) hb .nil (passAt c.tk σ) I1 r q1
/-- a list that may be read, walked -/
theorem di2_see {P : List D → Prop} {tg : Expr} (h : DE X W e δ (fun d => ∃ l ds, d = .opq (.ref l) ∧ See δ l (.lst ds) ∧ P ds) PX) : DI2 X W tg e δ P PX := by
  intro σ H own Q S q pins s I
  refine (pi_list pe_sem).run pins s σ H Q I ?_
  refine h σ H own _ S fun d v H1 ⟨l, ds, hd, hs, p⟩ e1 r => ?_
  subst hd
  obtain rfl : v = .ref l := r
  obtain ⟨_, vs, h3, h4⟩ := (S.mono e1).sl.see hs
  have at_ : ∀ {H' : Hp}, Ex H1 H' → SqL X.K H' l vs := fun ex => SqL.of (ex _ _ h3)
  refine ⟨l, rfl, ⟨vs, at_ (Ex.refl H1)⟩, q ds _ H1 p e1 fun own' H' ow' ex e' => ⟨fun i d hd => ?_, fun i hi => ⟨vs, at_ ex, by rw [h4.length]; exact hi⟩⟩⟩
  obtain ⟨v, h5, h6⟩ := h4.get hd
  refine ⟨⟨vs, v, at_ ex, h5⟩, fun y H'' hy => ?_⟩
  obtain ⟨z, hy⟩ := hy
  subst z
  have := hy vs (at_ ex)
  rw [h5] at this; cases this
  exact ⟨Ex.refl _, h6.mono e'⟩
/-- x.clear(), a list of one's own -/
theorem ds_clearC (c : Ct M X W k Nm sc) {j : Nat} {cs : List (Addr × Cell)} {q : Addr} {ds : List D} {cpos : Pos} {N : List Slot → Prop} {R : D → List Slot → Prop} {B C : List Slot → Prop} {PX : Xd → List Slot → Prop} (hh : Hs δ j cs) (m : Cin q (.lst ds) cs) (h : DE X W o δ (fun d => d = .opq (.ref q)) (fun x => PX x δ))
    (hn : ∃ cs' δ', Cput q (.lst []) cs cs' ∧ Hput δ cs' j δ' ∧ N δ')
    (hbase : attributeBase o "clear" X.env (eval o X.env) = eval o X.env := by rfl) (hline : (apos.endLine == cpos.line) = true := by rfl)
    (hsw : swapsWith (.Call (.Attribute o "clear" apos) [] [] cpos) none pos.line X.env = pure false := by rfl) :
    DS X W (.Expr (.Call (.Attribute o "clear" apos) [] [] cpos) pos) δ N R B C PX := fun Hb o0 own D' σ H ok g => by
  refine sem_ps (ps_expr (pe_bm0 PySem.F.plainAttrs_list PySem.F.slot_list_clear PySem.F.type_list_clear mt_clear pe_sem hbase hline) hsw) ?_
  refine h σ H own _ (ok.sy g) fun d v H1 hd e1 r => ?_
  subst hd
  obtain rfl : v = .ref q := r
  have o1 := ok.mono e1
  obtain ⟨cs', δ', w1, w2, hN⟩ := hn
  obtain ⟨hq, vs, g1, g2⟩ := o1.sl.cell hh.S m
  refine ⟨.inl ⟨rfl, vs, SqL.of g1⟩, q, vs, rfl, rfl, g1, ?_⟩
  refine g.nx own σ _ δ' hN ?_
  rw [w2.S]
  exact o1.wrC hh.S w1 ⟨[], upd_same, rfl⟩
end
end PV

set_option Elab.async false
set_option linter.all false
set_option maxRecDepth 100000
set_option maxHeartbeats 4000000
/-! PV43: comprehensions with conditions over a list that may be read -/
namespace PV
open PySem PySem.Spec PyProof.Rows L2
section
variable {M : Md} {X : Cx} {W : WX} {k : Nat} {Nm : List Str} {sc : Scope} {δ δ' δ1 : List Slot} {e a b d2 : Expr} {es : List Expr} {pos p : Pos} {x : Str} {st : Stmt} {rest body orelse : List Stmt} {K : Fr}
theorem lc_read2 (c : Ct M X W k Nm sc) {PX : Xd → Prop} {P : List D → Prop} {tg iter elt : Expr} {ifs : List Expr} {scope : Scope} {own : List (Str × Nat)} {α : Type} (hkd : scope.kind = .function) (hw : Wp own Nm δ δ1)
    (h : DI2 X W tg iter δ (fun ds => ∃ (xs : List α) (emb : α → D) (q : α → Bool) (f : α → D), ds = xs.map emb ∧ xs.length ≤ 100000 ∧
      (∀ z, z ∈ xs → ∃ δ2 T, DG M Nm scope tg (emb z) δ1 δ2 T ∧ (∀ i ∈ T, i ∈ own.map (·.2)) ∧ (∀ X', Ct M X' W0 k Nm scope → DTs X' W0 ifs δ2 (fun b => b = q z) X0) ∧ (q z = true → ∀ X', Ct M X' W0 k Nm scope → DE X' W0 elt δ2 (fun y => y = f z) X0)) ∧ P ((xs.filter q).map f)) PX)
    {σ : L2.St} {H : Hp} {ow : Addr → Bool} {Q : VK} (S : Sy X.K W ow σ H δ PX)
    (hq : ∀ ds l vs H2, P ds → Ex H H2 → H l = none → H2 l = some (.lst vs) → RepL X.K (mask (addOwn ow l) H2) ds vs → Q (.ref l) H2) :
    tLc (semI X tg iter) (semGF (Blk X scope) tg) (semTF (Blk X scope) ifs) (semF (Blk X scope) elt) (own.map (·.2)) σ H Q := by
  refine h σ H ow _ S fun ds J H1 ⟨xs, emb, q, f, hds, hlen, body, fin⟩ e1 wk => ?_
  subst hds
  intro l hl
  have hlH : H l = none := e1.free hl
  have S1 := S.mono e1
  have e0 : Ex H1 (upd H1 l (.lst [])) := Ex.new hl
  have sl1 : ∀ {H' : Hp}, Ex H1 H' → Slots X.K (addOwn ow l) H' σ δ := fun {H'} e' => S1.sl.add e' hl
  let out := fun i => ((xs.take i).filter q).map f
  refine ⟨fun i m H' => m = xs.length - i ∧ i ≤ xs.length ∧ Ex H1 H' ∧ ∃ vs, H' l = some (.lst vs) ∧ RepL X.K (mask (addOwn ow l) H') (out i) vs, ⟨xs.length, by simp, Nat.zero_le _, e0, [], upd_same, rfl⟩, ?_⟩
  rintro i m H' ⟨rfl, hi, e', vs, hv, r⟩
  have ow' : ∀ a, addOwn ow l a = true → H' a ≠ none := fun a ha z => by
    unfold addOwn at ha
    rcases Bool.or_eq_true_iff.mp ha with h | h
    · exact S1.ow a h (e'.free z)
    · have : a = l := by simpa using h
      subst this
      rw [hv] at z; cases z
  obtain ⟨wk1, wk2⟩ := wk (addOwn ow l) H' ow' e' (mask_add e' hl)
  by_cases hlt : i < xs.length
  · have hd : (xs.map emb)[i]? = some (emb xs[i]) := by simp [hlt]
    obtain ⟨go, yld⟩ := wk1 i _ hd
    obtain ⟨δ2, T, ⟨gg, g1, g2⟩, hT, ht, hb⟩ := body xs[i] (by simp)
    have htake : xs.take (i + 1) = xs.take i ++ [xs[i]] := by simp
    refine .inr ⟨go, fun H3 => Ex H1 H3 ∧ ∃ vs, H3 l = some (.lst vs) ∧ RepL X.K (mask (addOwn ow l) H3) (out (i + 1)) vs, fun H3 ⟨e3, v3⟩ => ⟨xs.length - (i + 1), by omega, rfl, hlt, e3, v3⟩, fun y H2 hy => ?_⟩
    obtain ⟨e2, ry⟩ := yld y H2 hy
    have S2 := ((sl1 (e'.trans e2)).wipe (own.map (·.2)))
    rw [← hw.S] at S2
    rw [c.hK] at S2 ry
    intro X' hX pins s u Iv ru
    refine (g1 X' W0 k (hX.ct c hkd)).run pins s _ H2 y u _ Iv ru (g2 y _ H2 (addOwn ow l) (fun _ => false) _ S2 (fun _ _ _ _ _ => rfl) ry fun σ3 S3 _ but => ⟨?_, ?_⟩)
    · exact (wipe_but but hT).trans wipe_wipe
    · intro X3 hX3
      have c3 := hX3.ct c hkd
      have ow2 : ∀ a, addOwn ow l a = true → H2 a ≠ none := fun a ha z => ow' a ha (e2.free z)
      have S3' : Sy X3.K W0 (addOwn ow l) σ3 H2 δ2 X0 := ⟨ow2, by rw [c3.hK]; exact S3, wish0⟩
      refine ht X3 c3 σ3 H2 (addOwn ow l) _ S3' fun bb H4 hq1 e4 => ?_
      cases bb with
      | true =>
        rw [if_pos rfl]
        intro X5 hX5
        have c5 := hX5.ct c hkd
        have S5 : Sy X5.K W0 (addOwn ow l) σ3 H4 δ2 X0 := Sy.mono e4 ⟨ow2, by rw [c5.hK]; exact S3, wish0⟩
        refine hb hq1.symm X5 c5 σ3 H4 (addOwn ow l) _ S5 fun d v H5 hd e5 rv => ?_
        subst hd
        have e25 := (e2.trans e4).trans e5
        have hv5 := e25 _ _ hv
        have hz : vs.length < sizeLine := by
          rw [r.length, sizeLine_eq]
          have : (out i).length ≤ i := by
            show (((xs.take i).filter q).map f).length ≤ i
            rw [List.length_map]
            refine Nat.le_trans (List.length_filter_le _ _) ?_
            rw [List.length_take]; omega
          omega
        have ow5 : ∀ a, addOwn ow l a = true → H5 a ≠ none := fun a ha z => ow' a ha (e25.free z)
        have hm : mask (addOwn ow l) (upd H5 l (.lst (vs ++ [v]))) = mask (addOwn ow l) H5 := by
          funext a
          unfold mask upd
          by_cases ha : a = l
          · subst ha; rw [if_pos addOwn_self, if_pos addOwn_self]
          · rw [if_neg ha]
        refine ⟨vs, hv5, hz, ?_, vs ++ [v], upd_same, ?_⟩
        · intro a u ha
          have hn : a ≠ l := by rintro rfl; rw [hl] at ha; cases ha
          rw [upd_ne hn]
          exact (e'.trans e25) a u ha
        · rw [hm]
          have : out (i + 1) = out i ++ [f xs[i]] := by
            show ((xs.take (i + 1)).filter q).map f = _
            rw [htake, List.filter_append, List.filter_cons, if_pos hq1.symm]
            simp [out]
          rw [this]
          rw [c5.hK] at rv
          rw [c.hK] at r ⊢
          exact (r.mono (mask_ex e25)).append (RepL.one rv)
      | false =>
        rw [if_neg Bool.false_ne_true]
        refine ⟨(e'.trans e2).trans e4, vs, e4 _ _ (e2 _ _ hv), ?_⟩
        have : out (i + 1) = out i := by
          show ((xs.take (i + 1)).filter q).map f = _
          rw [htake, List.filter_append, List.filter_cons, if_neg (by rw [← hq1]; exact Bool.false_ne_true)]
          simp [out]
        rw [this]
        exact r.mono (mask_ex (e2.trans e4))
  · have e2 : i = xs.length := by omega
    subst e2
    refine .inl ⟨wk2 _ (by simp), hq _ l vs H' fin (e1.trans e') hlH hv ?_⟩
    have : out xs.length = (xs.filter q).map f := by simp [out]
    rw [← this]
    exact r
theorem df_lc2 (α : Type) (c : Ct M X W k Nm sc) {P : List D → Prop} {PX : Xd → Prop} {tg iter elt : Expr} {ifs : List Expr} {kd : ScopeKind} {ns : List (Str × NameKind)} {ge co : Bool} {mo : List (Str × Const)} {own : List (Str × Nat)} (ho : OwnW ns Nm δ own δ1) (hb : blkC Nm sc (Scope.mk kd ns ge co mo) own = true)
    (h : DI2 X W tg iter δ (LcB M k Nm (Scope.mk kd ns ge co mo) own δ1 tg elt ifs α P) PX) (hs : ∀ x, foldedSetIterable iter X.env x = pure x := by intro _; rfl) : DF X W (.ListComp elt [⟨tg, iter, ifs, 0⟩] (Scope.mk kd ns ge co mo) pos) δ P PX := by
  intro σ H own' Q S q
  refine sem_pe (pe_lc c.calm c.nd pi_sem (c.blk _ _ hb) pg_blk pts_blk pe_blk hs) ?_
  exact lc_read2 (α := α) (P := P) c (kind_of_blk hb) ho.wp h S fun ds l vs H2 p e hl h2 r => q ds l vs H2 p e hl h2 r
end
end PV

set_option Elab.async false
set_option linter.all false
set_option maxRecDepth 100000
set_option maxHeartbeats 4000000
/-! PV44: o.m() whose answer is a new list -/
namespace PV
open PySem PySem.Spec PyProof.Rows L2
section
variable {M : Md} {X : Cx} {W : WX} {k : Nat} {Nm : List Str} {sc : Scope} {δ δ' δ1 : List Slot} {e a b d2 o : Expr} {es : List Expr} {pos p apos : Pos} {x m : Str} {K : Fr}
theorem df_methL0 {P : List D → Prop} {PX : Xd → Prop} {j : Nat} {F : PhiL} {C : Addr} (c : Ct M X W k Nm sc) (f : MethOkL M C j m 1 F) (cl : Cls M.K C) (hj : j ≤ k) (h : DE X W o δ (fun x => ∃ fs, x = .obj C fs ∧ fs.lookup m = none ∧ F [x] P (fun _ => False)) PX) {pl : Sem Bool}
    (ht : eval (.Call (.Attribute o m apos) [] [] pos) X.env = (do
      let ov ← eval o X.env
      standAt apos.atName
      let (f, first) ← holding [ov] (getMethod ov m pl)
      callWith pos f first (backTo pos (starEach [] X.env)) (backToKw pos (keywordEach [] X.env))) := by rfl) : DF X W (.Call (.Attribute o m apos) [] [] pos) δ P PX := by
  obtain ⟨fa, fd, ps, G, hm, hb⟩ := f.ex
  rw [← c.hK] at cl hm hb
  rw [← c.hP, ← c.hw, ← c.hK, ← c.hmg, ← c.hb] at G
  intro σ H own Q S q
  refine sem_pe (pe_meth0 pe_sem cl hm G (c.room.mono hj) hb .nil (E := fun _ _ _ => False) ?_ ht) ?_
  · intro pins σ H s u s' _ z
    obtain ⟨_, _, _, _, _, _, _, _, _, _, _, _, z⟩ := z
    exact z.elim
  · refine h σ H own _ S fun x v H1 ⟨fs, hx, hl, hF⟩ e1 r => ?_
    subst hx
    have r0 := r
    obtain ⟨l, dx, es', rfl, h1, h2'⟩ := r
    refine ⟨l, dx, es', rfl, mask_le _ _ h1, h2'.lookupN hl, ?_⟩
    exact ⟨own, [.obj C fs], P, _, (S.mono e1).ow, ⟨_, _, rfl, r0, rfl⟩, rfl, hF, fun ys l' us H' p e3 hl' g3 r3 => q ys l' us H' p (e1.trans e3) (e1.free hl') g3 r3, wish_false⟩
end
end PV

set_option Elab.async false
set_option linter.all false
set_option maxRecDepth 100000
set_option maxHeartbeats 4000000
/-! PV45: objects lent to be changed -/
namespace PV
open PySem PySem.Spec PyProof.Rows L2
/-- the heap without some objects -/
def minus (cs : List (Addr × Cell)) (H : Hp) : Hp := fun a => if a ∈ cs.map (·.1) then none else H a
theorem minus_ex {cs : List (Addr × Cell)} {H : Hp} : Ex (minus cs H) H := fun a o h => by
  unfold minus at h
  split at h
  · cases h
  · exact h
theorem minus_of {cs : List (Addr × Cell)} {H : Hp} {a : Addr} {o : HO} (h : a ∉ cs.map (·.1)) (e : H a = some o) : minus cs H a = some o := by
  unfold minus
  rw [if_neg h]
  exact e
structure CsOk (K : Fr) (own : Addr → Bool) (H : Hp) (cs : List (Addr × Cell)) : Prop where
  nd : (cs.map (·.1)).Nodup
  ok : LkOk K own H cs
theorem CsOk.own {K : Fr} {own : Addr → Bool} {H : Hp} {cs : List (Addr × Cell)} (h : CsOk K own H cs) {a : Addr} (ha : a ∈ cs.map (·.1)) : own a = true := by
  obtain ⟨z, hz, e⟩ := List.mem_map.mp ha
  rw [← e]
  exact (h.ok z hz).1
/-- what a call leaves, the lent objects perhaps changed -/
structure Grown (own own' : Addr → Bool) (H H' : Hp) (cs cs' : List (Addr × Cell)) : Prop where
  keep : ∀ a, own a = true → a ∉ cs.map (·.1) → own' a = true
  ow : ∀ a, own' a = true → H' a ≠ none
  old : ∀ a, own' a = true → own a = true ∨ H a = none
  ex : Ex (minus cs H) H'
  fresh : ∀ a ∈ cs'.map (·.1), a ∈ cs.map (·.1) ∨ H a = none
theorem Grown.mask {K : Fr} {own own' : Addr → Bool} {H H' : Hp} {cs cs' : List (Addr × Cell)} (g : Grown own own' H H' cs cs') (hc : CsOk K own H cs) : Ex (mask own H) (PV.mask own' H') := fun a o h => by
  unfold PV.mask at h ⊢
  split at h
  · cases h
  · rename_i hn
    have hk : a ∉ cs.map (·.1) := fun z => hn (hc.own z)
    have h2 := g.ex a o (minus_of hk h)
    rw [if_neg ?_]
    · exact h2
    · intro z
      rcases g.old a z with y | y
      · exact hn y
      · rw [h] at y; cases y
abbrev PhiC := List D → List (Addr × Cell) → List (Addr × Cell) → (D → List (Addr × Cell) → Prop) → (Xd → List (Addr × Cell) → Prop) → Prop
/-- a def to which objects are lent: lk to be read, cs to be changed -/
def spC (K : Fr) (n : Nat) (F : PhiC) : Sp := fun vs H Q E => ∃ own ds lk cs P PX, (∀ a, own a = true → H a ≠ none) ∧ LkOk K own H lk ∧ CsOk K own H cs ∧ (∀ z ∈ lk, z.1 ∉ cs.map (·.1)) ∧ RepL K (mask own H) ds vs ∧ ds.length = n ∧ F ds lk cs P PX ∧
  (∀ d v own' H' cs', P d cs' → Grown own own' H H' cs cs' → CsOk K own' H' cs' → Rep K (mask own' H') d v → Q v H') ∧
  (∀ own' H' cs', Grown own own' H H' cs cs' → CsOk K own' H' cs' → WishX K E own' H' (fun x => PX x cs'))
theorem slots_two {K : Fr} {own : Addr → Bool} {H : Hp} {N : List Str} {ds : List D} {vs : List V} {lk cs : List (Addr × Cell)} (h : Slots0 K own H (L2.start N vs) (startS N ds)) (hl : LkOk K own H lk) (hc : CsOk K own H cs) (dis : ∀ z ∈ lk, z.1 ∉ cs.map (·.1)) : Slots K own H (L2.start N vs) (startS N ds ++ [.look lk, .heap cs]) := by
  have dis2 : ∀ l, l ∈ lk.map (·.1) → l ∉ cs.map (·.1) := fun l hl hm => by
    obtain ⟨z, hz, e⟩ := List.mem_map.mp hl
    exact dis z hz (by rw [e]; exact hm)
  have at_ : ∀ {i : Nat} {x : Option V} {s : Slot}, (L2.start N vs ++ [none, none])[i]? = some x → (startS N ds)[i]? = some s → (L2.start N vs)[i]? = some x := fun {i x s} a b => by
    have hi : i < (startS N ds).length := (List.getElem?_eq_some_iff.mp b).1
    rw [List.getElem?_append_left (by rw [h.len]; exact hi)] at a
    exact a
  refine ⟨[none, none], by simp [h.len], fun i x s a b => ?_, fun i j x y s t l ij a b c d e f => ?_⟩
  · rcases tail2 b with h1 | ⟨_, rfl⟩ | ⟨_, rfl⟩
    · exact h.ok i x s (at_ a h1) h1
    · exact hl
    · exact ⟨hc.nd, hc.ok⟩
  · rcases tail2 c with c1 | ⟨c1, rfl⟩ | ⟨c1, rfl⟩
    · exact (startS_has i s x l c1 e).elim
    · rcases tail2 d with d1 | ⟨d1, rfl⟩ | ⟨d1, rfl⟩
      · exact (startS_has j t y l d1 f).elim
      · exact ij (c1.trans d1.symm)
      · exact dis2 l e f
    · rcases tail2 d with d1 | ⟨d1, rfl⟩ | ⟨d1, rfl⟩
      · exact (startS_has j t y l d1 f).elim
      · exact dis2 l f e
      · exact ij (c1.trans d1.symm)
/-- what is told of a state by its lent objects -/
def AtC (P : List (Addr × Cell) → Prop) (δ : List Slot) : Prop := ∃ j cs, Hs δ j cs ∧ P cs
section
variable {M : Md} {X : Cx} {W : WX} {k : Nat} {Nm : List Str} {sc : Scope} {δ δ' δ1 : List Slot} {e a b d2 o i' : Expr} {es : List Expr} {pos p apos : Pos} {x m : Str} {K : Fr} {st : Stmt} {rest : List Stmt}
theorem fn_okK {M : Md} {y qual : Str} {st : Stmt} {f : Addr} {fd : FuncData} {N ps : List Str} {k n : Nat} {F : PhiC} (G : Fun M.K y qual st f fd) (S : FnScope N ps (defScope st)) (hn : ps.length = n)
    (h : ∀ ds lk cs P PX, ds.length = n → F ds lk cs P PX → ∀ X W, Ct M X W k N (defScope st) → FnB X → X.env.code = fd.code ∧ X.env.qual = qual ++ ".<locals>." → DSs X W (defBody st) (startS N ds ++ [.look lk, .heap cs]) (AtC (P .non)) (fun d => AtC (P d)) (fun _ => False) (fun _ => False) (fun x => AtC (PX x))) :
    FnOk M.P M.w M.K M.mg M.base (L2.CX M.P M.w) (k + 1) f fd ps (spC M.K n F) := by
  obtain ⟨oc, od, kV, doc, pm, an, cdv, ct, osl, rfl, lkf, hcd⟩ := G.ex
  refine fn_of lkf hcd S (fun vs H Q E hh => ?_) (fun A outer s H vs Q E hr hh => ?_)
  · obtain ⟨own, ds, lk, cs, P, PX, _, _, _, _, r, hl, _⟩ := hh
    rw [r.length, hl, hn]
  · obtain ⟨own, ds, lk, cs, P, PX, ow, hlk, hcs, dis, r, hl, hF, hq, hw⟩ := hh
    refine ⟨_, pss_sem, ?_⟩
    have c : Ct M (cxOf (L2.CX M.P M.w) M.P M.w M.K M.mg M.base N qual (defScope st) f cdv A outer s H E) (fun cls d _ H => E cls d H) k N (defScope st) :=
      ⟨hr, rfl, takes_of rfl rfl rfl rfl, S.nd, rfl, rfl, rfl, rfl, rfl, rfl, fun x hx => hx, fun x hx => hx, fun x hx => hx, S.kind, fun x hx => hx, fun sc own hb => blkOk_by hb, passes_of rfl, fun x hx => .inl rfl⟩
    have o0 : ∀ a, (own a && !decide (a ∈ cs.map (·.1))) = true ↔ own a = true ∧ a ∉ cs.map (·.1) := fun a => by simp
    have grown : ∀ {own' : Addr → Bool} {σ' : L2.St} {H' : Hp} {δ' : List Slot} {j : Nat} {cs' : List (Addr × Cell)}, Ok M.K (minus cs H) (fun a => own a && !decide (a ∈ cs.map (·.1))) own' σ' H' δ' → Hs δ' j cs' → Grown own own' H H' cs cs' ∧ CsOk M.K own' H' cs' := by
      intro own' σ' H' δ' j cs' o' hs
      obtain ⟨x, nd, hc⟩ := o'.sl.any hs.S
      have gone : ∀ a, own' a = true → (own a && !decide (a ∈ cs.map (·.1))) = false → a ∈ cs.map (·.1) ∨ H a = none := fun a h1 h2 => by
        have h3 := o'.mine a h1 h2
        unfold minus at h3
        split at h3
        · rename_i hm; exact .inl hm
        · exact .inr h3
      refine ⟨⟨fun a h1 h2 => o'.sub a ((o0 a).mpr ⟨h1, h2⟩), o'.ow, fun a h1 => ?_, o'.ex, fun a ha => ?_⟩, ⟨nd, hc⟩⟩
      · cases h2 : (own a && !decide (a ∈ cs.map (·.1))) with
        | true => exact .inl ((o0 a).mp h2).1
        | false =>
          rcases gone a h1 h2 with h3 | h3
          · exact .inl (hcs.own h3)
          · exact .inr h3
      · obtain ⟨z, hz, e⟩ := List.mem_map.mp ha
        have h1 := (hc z hz).1
        rw [e] at h1
        exact gone a h1 (o'.acc j _ a hs.S ha)
    refine h ds lk cs P PX hl hF _ _ c ⟨rfl, rfl, rfl⟩ ⟨rfl, rfl⟩ (minus cs H) (fun a => own a && !decide (a ∈ cs.map (·.1))) own _ _ H ⟨fun a z => ((o0 a).mp z).1, ow, fun a h1 h2 => ?_, minus_ex, slots_two (slots_start0 r) hlk hcs dis, fun i s l a b => ?_⟩
      ⟨fun own' σ' H' δ' ⟨j, cs', hs, p⟩ o' => ?_, fun own' σ' H' δ' d v ⟨j, cs', hs, p⟩ o' r => ?_, fun _ _ _ _ z _ => z.elim, fun _ _ _ _ z _ => z.elim, fun own' σ' H' δ' o' => ⟨fun c' ⟨j, cs', hs, p⟩ H2 e => ?_, fun c' fs ⟨j, cs', hs, p⟩ H2 d es e h1 r => ?_⟩⟩
    · unfold minus
      rw [if_pos]
      refine Classical.byContradiction fun hm => ?_
      have := (o0 a).mpr ⟨h1, hm⟩
      rw [h2] at this; cases this
    · rcases tail2 a with h1 | ⟨_, rfl⟩ | ⟨_, rfl⟩
      · exact start_own0 (o0 := fun a => own a && !decide (a ∈ cs.map (·.1))) i s l h1 b
      · exact b.elim
      · have b : l ∈ cs.map (·.1) := b
        show (own l && !decide (l ∈ cs.map (·.1))) = false
        simp [b]
    · obtain ⟨g1, g2⟩ := grown o' hs
      exact hq .non .non own' H' cs' p g1 g2 rfl
    · obtain ⟨g1, g2⟩ := grown o' hs
      exact hq d v own' H' cs' p g1 g2 r
    · obtain ⟨g1, g2⟩ := grown o' hs
      exact (hw own' H' cs' g1 g2).pl c' p H2 e
    · obtain ⟨g1, g2⟩ := grown o' hs
      exact (hw own' H' cs' g1 g2).fl c' fs p H2 d es e h1 r
theorem fn_okC {M : Md} {y qual : Str} {st : Stmt} {f : Addr} {fd : FuncData} {N ps : List Str} {k n : Nat} {F : PhiC} (G : Fun M.K y qual st f fd) (S : FnScope N ps (defScope st)) (hn : ps.length = n)
    (h : ∀ ds lk cs P PX, ds.length = n → F ds lk cs P PX → ∀ X W, Ct M X W k N (defScope st) → FnB X → DSs X W (defBody st) (startS N ds ++ [.look lk, .heap cs]) (AtC (P .non)) (fun d => AtC (P d)) (fun _ => False) (fun _ => False) (fun x => AtC (PX x))) :
    FnOk M.P M.w M.K M.mg M.base (L2.CX M.P M.w) (k + 1) f fd ps (spC M.K n F) :=
  fn_okK G S hn fun ds lk cs P PX hl hF X W c fb _ => h ds lk cs P PX hl hF X W c fb
structure CaOk (M : Md) (j : Nat) (x : Str) (n : Nat) (F : PhiC) : Prop where
  ex : ∃ f fd ps, FnOk M.P M.w M.K M.mg M.base (L2.CX M.P M.w) j f fd ps (spC M.K n F) ∧ M.mg x = some (.ref f) ∧ PySem.W.keepIn M.K (.ref f) = true ∧ Binds M.K fd ps []
structure MethOkC (M : Md) (C : Addr) (j : Nat) (m : Str) (n : Nat) (F : PhiC) : Prop where
  ex : ∃ f fd ps, FnOk M.P M.w M.K M.mg M.base (L2.CX M.P M.w) j f fd ps (spC M.K n F) ∧ Meth M.K C m f ∧ Binds M.K fd ps []
/-- some of one's own objects, and the rest -/
inductive Split : List (Addr × Cell) → List (Addr × Cell) → List (Addr × Cell) → Prop
  | nil : Split [] [] []
  | l {z cs c1 c2} : Split cs c1 c2 → Split (z :: cs) (z :: c1) c2
  | r {z cs c1 c2} : Split cs c1 c2 → Split (z :: cs) c1 (z :: c2)
theorem Split.mem {cs c1 c2 : List (Addr × Cell)} (h : Split cs c1 c2) : ∀ z, z ∈ cs ↔ z ∈ c1 ∨ z ∈ c2 := by
  induction h with
  | nil => intro z; simp
  | l _ ih => intro z; simp only [List.mem_cons, ih z]; exact ⟨fun h => by rcases h with h | h | h <;> simp [h], fun h => by rcases h with (h | h) | h <;> simp [h]⟩
  | r _ ih => intro z; simp only [List.mem_cons, ih z]; exact ⟨fun h => by rcases h with h | h | h <;> simp [h], fun h => by rcases h with h | (h | h) <;> simp [h]⟩
theorem Split.nd {cs c1 c2 : List (Addr × Cell)} (h : Split cs c1 c2) : (cs.map (·.1)).Nodup → (c1.map (·.1)).Nodup ∧ (c2.map (·.1)).Nodup ∧ ∀ a, a ∈ c1.map (·.1) → a ∉ c2.map (·.1) := by
  induction h with
  | nil => intro _; simp
  | @l z cs c1 c2 h ih =>
    intro nd
    rw [List.map_cons, List.nodup_cons] at nd
    obtain ⟨a, b, c⟩ := ih nd.2
    have hz : z.1 ∉ c1.map (·.1) ∧ z.1 ∉ c2.map (·.1) := ⟨fun hm => nd.1 (by obtain ⟨y, hy, e⟩ := List.mem_map.mp hm; exact List.mem_map.mpr ⟨y, (h.mem y).mpr (.inl hy), e⟩), fun hm => nd.1 (by obtain ⟨y, hy, e⟩ := List.mem_map.mp hm; exact List.mem_map.mpr ⟨y, (h.mem y).mpr (.inr hy), e⟩)⟩
    refine ⟨by rw [List.map_cons, List.nodup_cons]; exact ⟨hz.1, a⟩, b, fun x hx => ?_⟩
    rw [List.map_cons] at hx
    rcases List.mem_cons.mp hx with rfl | hx
    · exact hz.2
    · exact c x hx
  | @r z cs c1 c2 h ih =>
    intro nd
    rw [List.map_cons, List.nodup_cons] at nd
    obtain ⟨a, b, c⟩ := ih nd.2
    have hz : z.1 ∉ c1.map (·.1) ∧ z.1 ∉ c2.map (·.1) := ⟨fun hm => nd.1 (by obtain ⟨y, hy, e⟩ := List.mem_map.mp hm; exact List.mem_map.mpr ⟨y, (h.mem y).mpr (.inl hy), e⟩), fun hm => nd.1 (by obtain ⟨y, hy, e⟩ := List.mem_map.mp hm; exact List.mem_map.mpr ⟨y, (h.mem y).mpr (.inr hy), e⟩)⟩
    refine ⟨a, by rw [List.map_cons, List.nodup_cons]; exact ⟨hz.2, b⟩, fun x hx => ?_⟩
    rw [List.map_cons]
    intro hm
    rcases List.mem_cons.mp hm with rfl | hm
    · exact hz.1 hx
    · exact c x hx hm
/-- after a call: the state with the lent objects as they are now -/
theorem Ok.back {Hb : Hp} {o0 own own' : Addr → Bool} {σ : L2.St} {H H' : Hp} {i : Nat} {cs c1 c2 c1' : List (Addr × Cell)} (ok0 : Ok K Hb o0 own σ H δ) (hi : δ[i]? = some (.heap cs)) (sp : Split cs c1 c2) (g : Grown own own' H H' c1 c1') (hc : CsOk K own' H' c1') : Ok K Hb o0 own' σ H' (δ.set i (.heap (c1' ++ c2))) := by
  obtain ⟨x, nd, hcs⟩ := ok0.sl.any hi
  obtain ⟨n1, n2, n3⟩ := sp.nd nd
  have h1 : CsOk K own H c1 := ⟨n1, fun z hz => hcs z ((sp.mem z).mpr (.inl hz))⟩
  have h2 : LkOk K own H c2 := fun z hz => hcs z ((sp.mem z).mpr (.inr hz))
  have in1 : ∀ l, l ∈ c1.map (·.1) → l ∈ cs.map (·.1) := fun l hl => by
    obtain ⟨z, hz, e⟩ := List.mem_map.mp hl
    exact List.mem_map.mpr ⟨z, (sp.mem z).mpr (.inl hz), e⟩
  have in2 : ∀ l, l ∈ c2.map (·.1) → l ∈ cs.map (·.1) := fun l hl => by
    obtain ⟨z, hz, e⟩ := List.mem_map.mp hl
    exact List.mem_map.mpr ⟨z, (sp.mem z).mpr (.inr hz), e⟩
  have z0 : ∀ l, l ∈ cs.map (·.1) → o0 l = false := fun l hl => ok0.acc i _ l hi hl
  have own2 : ∀ l, l ∈ c2.map (·.1) → own l = true := fun l hl => by
    obtain ⟨z, hz, e⟩ := List.mem_map.mp hl
    rw [← e]; exact (h2 z hz).1
  have e := ok0.chg i (own' := own') (H' := H') (x' := (σ[i]?).getD none) (s' := .heap (c1' ++ c2)) (fun a ha => g.keep a (ok0.sub a ha) fun hm => by rw [z0 a (in1 a hm)] at ha; cases ha) g.ow (fun a ha hb => ?_) (fun a u ha => ?_) ?_ (fun y s okx dis => ?_) (fun l' z y => ⟨_, hi, fun _ _ => ?_⟩) (fun x0 l' z y => ?_)
  · rw [set_old] at e
    exact e
  · rcases g.old a ha with h | h
    · exact ok0.mine a h hb
    · exact ok0.ex.free h
  · refine g.ex a u (minus_of (fun hm => ?_) (ok0.ex a u ha))
    rw [ok0.mine a (h1.own hm) (z0 a (in1 a hm))] at ha
    cases ha
  · refine ⟨?_, fun z hz => ?_⟩
    · rw [List.map_append, List.nodup_append]
      refine ⟨hc.nd, n2, fun a ha b hb e => ?_⟩
      subst e
      rcases g.fresh a ha with h | h
      · exact n3 a h hb
      · exact ok0.ow a (own2 a hb) h
    · rcases List.mem_append.mp hz with hz | hz
      · exact hc.ok z hz
      · have hm : z.1 ∉ c1.map (·.1) := fun y => n3 _ y (List.mem_map.mpr ⟨z, hz, rfl⟩)
        exact ⟨g.keep _ (h2 z hz).1 hm, (h2 z hz).2.to (fun o ho => g.ex _ o (minus_of hm ho)) (g.mask h1)⟩
  · obtain ⟨x0, _, hd⟩ := dis _ hi
    refine okx.to (fun l hl ho => ?_) (g.mask h1)
    have hm : l ∉ c1.map (·.1) := fun y => hd l hl (in1 l y)
    exact ⟨g.keep l ho hm, fun o e => g.ex l o (minus_of hm e)⟩
  · have z : l' ∈ (c1' ++ c2).map (·.1) := z
    rw [List.map_append] at z
    rcases List.mem_append.mp z with z | z
    · rcases g.fresh l' z with h | h
      · exact in1 l' h
      · exact absurd h (ok0.ow l' y)
    · exact in2 l' z
  · have z : l' ∈ (c1' ++ c2).map (·.1) := z
    rw [List.map_append] at z
    rcases List.mem_append.mp z with z | z
    · rcases g.fresh l' z with h | h
      · exact z0 l' (in1 l' h)
      · exact ok0.not0 h
    · exact z0 l' (in2 l' z)
/-! ### expressions that change what is one's own -/
def DX (X : Cx) (W : WX) (e : Expr) (δ : List Slot) (P : D → List Slot → Prop) (PX : Xd → List Slot → Prop) : Prop := ∀ Hb o0 own σ H (Q : VK), Ok X.K Hb o0 own σ H δ → (∀ own' H' δ', Ok X.K Hb o0 own' σ H' δ' → WishX X.K (fun c d H => W c d σ H) own' H' (fun x => PX x δ')) →
  (∀ d v own' H' δ', P d δ' → Ok X.K Hb o0 own' σ H' δ' → Rep X.K (mask own' H') d v → Q v H') → semE X e σ H Q
theorem dx_of {P : D → List Slot → Prop} {PX : Xd → List Slot → Prop} (h : DE X W e δ (fun d => P d δ) (fun x => PX x δ)) : DX X W e δ P PX := fun Hb o0 own σ H Q o w q =>
  h σ H own Q ⟨o.ow, o.sl, w own H δ o⟩ fun d v H2 p e2 r => q d v own H2 δ p (o.mono e2) r
/-- what is handed over -/
structure Lend (δ : List Slot) (j : Nat) (cs lk c1 c2 : List (Addr × Cell)) : Prop where
  hs : Hs δ j cs
  sp : Split cs c1 c2
  see : Sees δ lk
  dis : ∀ z ∈ lk, z.1 ∉ c1.map (·.1)
theorem dx_call {j n : Nat} {F : PhiC} {P : D → List Slot → Prop} {PX : Xd → List Slot → Prop} (c : Ct M X W k Nm sc) (f : CaOk M j x n F) (hj : j ≤ k) (hg : GlS sc x) (h : DA X W (e :: es) δ (fun ds => ds.length = n ∧ ∃ i cs lk c1 c2, Lend δ i cs lk c1 c2 ∧ F ds lk c1 (fun d c1' => ∃ δ', Hput δ (c1' ++ c2) i δ' ∧ P d δ') (fun x c1' => ∃ δ', Hput δ (c1' ++ c2) i δ' ∧ PX x δ')) (fun x => PX x δ))
    (hdb : (x == ("__debug__" : Str)) = false := by decide) (he : starEach (e :: es) X.env = (false, eval e X.env) :: starEach es X.env := by rfl) (hpl : (backTo pos (starEach es X.env)).any (·.1) = false := by rfl) : DX X W (.Call (.Name x p) (e :: es) [] pos) δ P PX := by
  obtain ⟨f, fd, ps, G, hm, hk, hb⟩ := f.ex
  rw [← c.hP, ← c.hw, ← c.hK, ← c.hmg, ← c.hb] at G
  rw [← c.hK] at hk hb
  rw [← c.hmg] at hm
  intro Hb o0 own σ H Q o w q
  refine sem_pe (pe_callS G (c.room.mono hj) (c.gl _ hg) hm hk hb (fun σ => passAt c.tk σ) pa_sem hdb he hpl) ?_
  refine h σ H own _ ⟨o.ow, o.sl, w own H δ o⟩ fun ds vs H1 ⟨hl, i, cs, lk, c1, c2, L, hF⟩ e1 r => ?_
  have o1 := o.mono e1
  obtain ⟨x0, nd, hcs⟩ := o1.sl.any L.hs.S
  have h1 : CsOk X.K own H1 c1 := ⟨(L.sp.nd nd).1, fun z hz => hcs z ((L.sp.mem z).mpr (.inl hz))⟩
  refine ⟨own, ds, lk, c1, _, _, o1.ow, o1.sl.sees L.see, h1, L.dis, r, hl, hF, fun d v own' H' cs' ⟨δ', hp, p⟩ g hc r2 => ?_, fun own' H' cs' g hc => ⟨fun c' ⟨δ', hp, p⟩ H2 e => ?_, fun c' fs ⟨δ', hp, p⟩ H2 d es e h3 r3 => ?_⟩⟩
  · refine q d v own' H' δ' p ?_ r2
    rw [hp.S]
    exact o1.back L.hs.S L.sp g hc
  · have o2 := o1.back L.hs.S L.sp g hc
    rw [← hp.S] at o2
    exact (w own' H' δ' o2).pl c' p H2 e
  · have o2 := o1.back L.hs.S L.sp g hc
    rw [← hp.S] at o2
    exact (w own' H' δ' o2).fl c' fs p H2 d es e h3 r3
theorem dx_meth {j n : Nat} {F : PhiC} {C : Addr} {P : D → List Slot → Prop} {PX : Xd → List Slot → Prop} (c : Ct M X W k Nm sc) (f : MethOkC M C j m n F) (cl : Cls M.K C) (hj : j ≤ k) (h : DE X W o δ (fun x => ∃ s fs, x = .opq (.ref s) ∧ See δ s (.ins C fs) ∧ fs.lookup m = none ∧ DA X W (e :: es) δ (fun ds => ds.length + 1 = n ∧ ∃ i cs lk c1 c2, Lend δ i cs lk c1 c2 ∧ F (.opq (.ref s) :: ds) lk c1 (fun d c1' => ∃ δ', Hput δ (c1' ++ c2) i δ' ∧ P d δ') (fun x c1' => ∃ δ', Hput δ (c1' ++ c2) i δ' ∧ PX x δ')) (fun x => PX x δ)) (fun x => PX x δ)) {pl : Sem Bool}
    (hst : starEach (e :: es) X.env = (false, eval e X.env) :: starEach es X.env := by rfl) (hpl : (backTo pos (starEach es X.env)).any (·.1) = false := by rfl)
    (ht : eval (.Call (.Attribute o m apos) (e :: es) [] pos) X.env = (do
      let ov ← eval o X.env
      standAt apos.atName
      let (f, first) ← holding [ov] (getMethod ov m pl)
      callWith pos f first (backTo pos (starEach (e :: es) X.env)) (backToKw pos (keywordEach [] X.env))) := by rfl) : DX X W (.Call (.Attribute o m apos) (e :: es) [] pos) δ P PX := by
  obtain ⟨fa, fd, ps, G, hm, hb⟩ := f.ex
  rw [← c.hK] at cl hm hb
  rw [← c.hP, ← c.hw, ← c.hK, ← c.hmg, ← c.hb] at G
  intro Hb o0 own σ H Q ok w q pins s I
  have S : Sy X.K W own σ H δ (fun x => PX x δ) := ⟨ok.ow, ok.sl, w own H δ ok⟩
  have h1 : semE X o σ H fun v H1 => ∃ (l dx : Addr) (es' : List (Str × V)), v = .ref l ∧ H1 l = some (.ins C dx es') ∧ es'.lookup m = none ∧ semA X (e :: es) σ H1 fun vs H2 => spC X.K n F (.ref l :: vs) H2 Q (fun cls d H => W cls d σ H) := by
    refine h σ H own _ S fun x v H1 ⟨l, fs, hx, hs, hl, h2⟩ e1 r => ?_
    subst hx
    obtain rfl : v = .ref l := r
    obtain ⟨_, dx, es', g1, g2⟩ := (S.mono e1).sl.see hs
    refine ⟨l, dx, es', rfl, g1, g2.lookupN hl, ?_⟩
    refine h2 σ H1 own _ (S.mono e1) fun ds vs H2 ⟨hn, i, cs, lk, c1, c2, L, hF⟩ e2 r2 => ?_
    have o1 := ok.mono (e1.trans e2)
    obtain ⟨x0, nd, hcs⟩ := o1.sl.any L.hs.S
    have k1 : CsOk X.K own H2 c1 := ⟨(L.sp.nd nd).1, fun z hz => hcs z ((L.sp.mem z).mpr (.inl hz))⟩
    refine ⟨own, .opq (.ref l) :: ds, lk, c1, _, _, o1.ow, o1.sl.sees L.see, k1, L.dis, ⟨_, _, rfl, rfl, r2⟩, by rw [List.length_cons]; exact hn, hF, fun d v own' H' cs' ⟨δ', hp, p⟩ g hc r3 => ?_, fun own' H' cs' g hc => ⟨fun c' ⟨δ', hp, p⟩ H3 e => ?_, fun c' fs ⟨δ', hp, p⟩ H3 d es e h3 r3 => ?_⟩⟩
    · refine q d v own' H' δ' p ?_ r3
      rw [hp.S]
      exact o1.back L.hs.S L.sp g hc
    · have o2 := o1.back L.hs.S L.sp g hc
      rw [← hp.S] at o2
      exact (w own' H' δ' o2).pl c' p H3 e
    · have o2 := o1.back L.hs.S L.sp g hc
      rw [← hp.S] at o2
      exact (w own' H' δ' o2).fl c' fs p H3 d es e h3 r3
  refine PySem.W.methodCall_KW (pl := pl) (thn (h1 pins s I) fun u s1 ⟨v, H1, I1, rx, l, dx, es', hv, ea, hl, q1⟩ => ?_) ht
  subst hv
  obtain rfl : u = Value.ref l := rx
  refine getmeth_ok I1 ea cl hm hl ?_
  refine PySem.W.callWith_K (first := [.ref l]) (h₀ := X.base) I.ok.mod.kin hm.kp (thn (q1 pos pins s1 I1) fun us s2 ⟨vs, H2, I2, r, q2⟩ => ⟨I2.kIn, ?_⟩) hst hpl
  exact run_fnS (E := fun σ cls d H => W cls d σ H) (us := .ref l :: us) (vs := .ref l :: vs) G (c.room.mono hj) hb (passAt c.tk σ) I2 (.cons rfl r) q2
/-! statements of such -/
variable {N : List Slot → Prop} {R : D → List Slot → Prop} {B C : List Slot → Prop} {PX : Xd → List Slot → Prop}
theorem ds_exprX (h : DX X W e δ (fun _ δ' => N δ') PX) (hs : swapsWith e none pos.line X.env = pure false := by rfl) : DS X W (.Expr e pos) δ N R B C PX := fun Hb o0 own D' σ H o g =>
  sem_ps (ps_expr pe_sem hs) (h Hb o0 own σ H _ o (fun own' H' δ' o' => g.px own' σ H' δ' o') fun d v own' H' δ' p o' r => g.nx own' σ H' δ' p o')
theorem ds_retX (h : DX X W e δ (fun d δ' => R d δ') PX) : DS X W (.Return (some e) pos) δ N R B C PX := fun Hb o0 own D' σ H o g =>
  sem_ps (ps_ret pe_sem) (h Hb o0 own σ H _ o (fun own' H' δ' o' => g.px own' σ H' δ' o') fun d v own' H' δ' p o' r => g.rt own' σ H' δ' d v p o' r)
theorem ds_asgX (c : Ct M X W k Nm sc) {tg : Expr} (h : DX X W e δ (fun d δ1 => ∃ δ' T, DG M Nm sc tg d δ1 δ' T ∧ N δ') PX) (hs : swapsWithSole [tg] e pos.line X.env = pure false := by rfl) (hw : swappedStores [tg] e X.env = pure none := by rfl)
    (h1 : (assignEach [tg] X.env).map (·.2) = [assign tg X.env] := by rfl) : DS X W (.Assign [tg] e pos) δ N R B C PX := fun Hb o0 own D' σ H o g => by
  refine sem_ps (ps_asg pe_sem pg_sem hs hw h1) ?_
  refine h Hb o0 own σ H _ o (fun own' H' δ' o' => g.px own' σ H' δ' o') fun d v own' H2 δ1 ⟨δ', T, ⟨gg, g1, g2⟩, n⟩ o2 r => ?_
  have S2 := o2.sl
  rw [c.hK] at S2 r
  intro pins s u I ru
  refine (g1 X W k c).run pins s σ H2 v u _ I ru (g2 v σ H2 own' o0 _ S2 o2.acc r fun σ' S' a' _ => ?_)
  rw [← c.hK] at S'
  exact g.nx own' σ' H2 δ' n ⟨o2.sub, o2.ow, o2.mine, o2.ex, S', a'⟩
end
end PV

set_option Elab.async false
set_option linter.all false
set_option maxRecDepth 100000
set_option maxHeartbeats 4000000
/-! PV46: dicts with tuples for keys, as owned or lent objects; pop; bits; fields of such objects written -/
namespace PV
open PySem PySem.Spec PyProof.Rows L2
def getT (kvs : List (List Key × D)) (k : List Key) : Option D := (kvs.find? fun kv => decide (kv.1 = k)).map (·.2)
def putTD (kvs : List (List Key × D)) (k : List Key) (v : D) : List (List Key × D) :=
  if (kvs.any fun kv => decide (kv.1 = k)) = true then kvs.map (fun kv => if kv.1 = k then (kv.1, v) else kv) else kvs ++ [(k, v)]
def dropTD (kvs : List (List Key × D)) (k : List Key) : List (List Key × D) := kvs.filter fun kv => decide (kv.1 ≠ k)
def dropKD (kvs : List (Key × D)) (k : Key) : List (Key × D) := kvs.filter fun kv => decide (kv.1 ≠ k)
section
variable {K : Fr} {H : Hp}
theorem RepT.get {k : List Key} : ∀ {kvs : List (List Key × D)} {es : List (List Key × V)}, RepT K H kvs es → (∀ d, getT kvs k = some d → ∃ v, valV es k = some v ∧ Rep K H d v) ∧ (getT kvs k = none → valV es k = none)
  | [], es, h => by
    have h : es = [] := h
    subst h
    exact ⟨(fun d z => nomatch z), fun _ => rfl⟩
  | (k2, d2) :: r, _, h => by
    obtain ⟨v, t, rfl, h2, h3⟩ := h
    have ih := RepT.get (k := k) h3
    by_cases e : k2 = k
    · subst e
      refine ⟨fun d z => ⟨v, valV_pos rfl, ?_⟩, fun z => ?_⟩
      · have : d2 = d := by simpa [getT, List.find?_cons] using z
        rw [← this]; exact h2
      · simp [getT, List.find?_cons] at z
    · have eg : getT ((k2, d2) :: r) k = getT r k := by simp [getT, List.find?_cons, e]
      rw [eg, valV_neg e]
      exact ih
theorem RepT.append : ∀ {kds kds' : List (List Key × D)} {es es' : List (List Key × V)}, RepT K H kds es → RepT K H kds' es' → RepT K H (kds ++ kds') (es ++ es')
  | [], _, es, _, h, h' => by obtain rfl : es = [] := h; exact h'
  | (k, d) :: r, _, es, _, h, h' => by
    obtain ⟨v, es, rfl, h1, h2⟩ := h
    exact ⟨v, _, rfl, h1, h2.append h'⟩
theorem RepT.length : ∀ {kvs : List (List Key × D)} {es : List (List Key × V)}, RepT K H kvs es → es.length = kvs.length
  | [], es, h => by obtain rfl : es = [] := h; rfl
  | (k, d) :: r, _, h => by
    obtain ⟨v, t, rfl, _, h3⟩ := h
    simp [h3.length]
theorem RepT.mapPut {key : List Key} {d : D} {v : V} (hv : Rep K H d v) : ∀ {kds : List (List Key × D)} {es : List (List Key × V)}, RepT K H kds es → RepT K H (kds.map fun kv => if kv.1 = key then (kv.1, d) else kv) (es.map fun kv => if kv.1 = key then (kv.1, v) else kv)
  | [], es, h => by obtain rfl : es = [] := h; rfl
  | (k', d') :: r, es, h => by
    obtain ⟨w, es, rfl, h1, h2⟩ := h
    by_cases e : k' = key
    · simp only [List.map_cons, if_pos e]
      exact ⟨v, _, rfl, hv, h2.mapPut hv⟩
    · simp only [List.map_cons, if_neg e]
      exact ⟨w, _, rfl, h1, h2.mapPut hv⟩
theorem RepT.any {key : List Key} : ∀ {kds : List (List Key × D)} {es : List (List Key × V)}, RepT K H kds es → (es.any fun kv => decide (kv.1 = key)) = (kds.any fun kv => decide (kv.1 = key))
  | [], es, h => by obtain rfl : es = [] := h; rfl
  | (k', d') :: r, es, h => by
    obtain ⟨w, es, rfl, h1, h2⟩ := h
    simp only [List.any_cons, h2.any]
theorem RepT.put {key : List Key} {d : D} {v : V} {kds : List (List Key × D)} {es : List (List Key × V)} (h : RepT K H kds es) (hv : Rep K H d v) : RepT K H (putTD kds key d) (putK es key v) := by
  unfold putTD putK
  rw [h.any]
  split
  · exact h.mapPut hv
  · exact h.append ⟨v, [], rfl, hv, rfl⟩
theorem RepT.drop {key : List Key} : ∀ {kds : List (List Key × D)} {es : List (List Key × V)}, RepT K H kds es → RepT K H (dropTD kds key) (dropK es key)
  | [], es, h => by obtain rfl : es = [] := h; rfl
  | (k', d') :: r, es, h => by
    obtain ⟨w, es, rfl, h1, h2⟩ := h
    unfold dropTD dropK
    by_cases e : k' = key
    · rw [List.filter_cons_of_neg (by simp [e]), List.filter_cons_of_neg (by simp [e])]
      exact h2.drop
    · rw [List.filter_cons_of_pos (by simp [e]), List.filter_cons_of_pos (by simp [e])]
      exact ⟨w, _, rfl, h1, h2.drop⟩
theorem RepK.drop {key : Key} : ∀ {kds : List (Key × D)} {es : List (Key × V)}, RepK K H kds es → RepK K H (dropKD kds key) (dropK es key)
  | [], es, h => by obtain rfl : es = [] := h; rfl
  | (k', d') :: r, es, h => by
    obtain ⟨w, es, rfl, h1, h2⟩ := h
    unfold dropKD dropK
    by_cases e : k' = key
    · rw [List.filter_cons_of_neg (by simp [e]), List.filter_cons_of_neg (by simp [e])]
      exact h2.drop
    · rw [List.filter_cons_of_pos (by simp [e]), List.filter_cons_of_pos (by simp [e])]
      exact ⟨w, _, rfl, h1, h2.drop⟩
theorem RepL.keys : ∀ {ks : List Key} {vs : List V}, RepL K H (ks.map keyD) vs → vs = ks.map kV
  | [], _, h => h
  | k :: r, _, h => by
    obtain ⟨v, t, rfl, h2, h3⟩ := h
    rw [keyD_rep h2, RepL.keys h3]
    rfl
end
/-- a dict with tuples for keys, seen -/
def DKT (X : Cx) (W : WX) (e : Expr) (δ : List Slot) (P : List (List Key × D) → Prop) (PX : Xd → Prop) : Prop := ∀ σ H own (Q : VK), Sy X.K W own σ H δ PX → (∀ kvs a es H2, P kvs → Ex H H2 → H2 a = some (.dT es) → RepT X.K (mask own H2) kvs es → Q (.ref a) H2) → semE X e σ H Q
section
variable {X : Cx} {pins : List (Addr × Obj)} {σ : L2.St} {H : Hp} {s : Shared} {A : Around} {a b : Addr} {k : List Key} {kvs : List (List Key × V)}
/-- d.pop(k), k a tuple that is there -/
theorem d_popT {v : V} {Q : Value → Shared → Prop} (hu : A.units + 1 < cLine) (I : L2.Inv X pins σ H s) (e : H a = some (.dT kvs)) (eb : H b = some (.tup (k.map kV))) (l : valV kvs k = some v)
    (h : ∀ w' s', L2.Inv X pins σ (upd H a (.dT (dropK kvs k))) s' → RelV v w' → Q w' s') : wpAny (model X.prog X.w) A (call (.builtin "dict.pop") [.ref a, .ref b]) Q E s := by
  obtain ⟨z, hd, xs, rel, dd⟩ := dt_of I.hok e
  have hz : xs.length ≤ sizeLine := by rw [← Paired.length rel]; exact z
  refine call_meetsIn PySem.F.slot_dict_pop dd.typeIs PySem.F.entry_dict_pop (PySem.F.args_dict_pop_2 _ _) (meetsH_dict_pop (tupleKind (mixKind X.prog X.w)) a b hd [] (.inl rfl))
    ⟨tupleKind_room_in1 hu, k, xs, key_of I.hok eb, dd, hz, fun p hp h' dd' hs => ?_, fun hn => ?_⟩
  · have r := rel.val k
    rw [hp, l] at r
    obtain ⟨o, es, ep, hq, h2, h3, h4, _, h5⟩ := dd'
    have I2 : L2.Inv X pins σ (upd H a (.dT (dropK kvs k))) { s with heap := h', toks := s.toks + (tupleKind (mixKind X.prog X.w)).draws k } :=
      d_write I (by rw [e]; exact True.intro) hs ⟨o, hq⟩ ⟨Nat.le_trans (dropK_le kvs k) z, hd, _, (L2.DX.KT_drop k rel).keeps (fun c ys ec => (by rw [upd_ne (ne_of ec e (fun z => nomatch z))]; exact ec)), o, es, ep, hq, h2, h3, h4, h5⟩
    exact h _ _ I2 r
  · have r := rel.val k
    rw [hn, l] at r
    exact (show False from r).elim
def tDPopT (td ty : TE) : TE := fun σ H Q => td σ H fun x H1 => ∃ a, x = .ref a ∧ IsD H1 a ∧ ty σ H1 fun y H2 => ∃ kvs k b v, H2 a = some (.dT kvs) ∧ y = .ref b ∧ H2 b = some (.tup (k.map kV)) ∧ valV kvs k = some v ∧ Q v (upd H2 a (.dT (dropK kvs k)))
theorem pe_dpopT {o e : Expr} {apos cpos : Pos} {td ty : TE} (hu : X.A.units + 1 < cLine) (ho : PE X o td) (he : PE X e ty) (m : M1 X o "pop" apos e cpos) : PE X (.Call (.Attribute o "pop" apos) [e] [] cpos) (tDPopT td ty) := by
  refine ⟨fun pins s σ H Q I h => ?_⟩
  refine wpAny_Call_method m.base m.few m.line PySem.F.plainAttrs_dict PySem.F.slot_dict_pop PySem.F.type_dict_pop (thn (ho.run pins s σ H _ I h) fun u s1 ⟨x, H1, I1, rx, a, ex, d, q1⟩ => ?_)
  subst ex
  obtain rfl : u = Value.ref a := rx
  obtain ⟨t1, t2, _⟩ := isD_at I1 d
  refine ⟨t1, t2, ?_⟩
  rw [m.trees]
  refine Calls.callWith_builtin rfl (Calls.evalArgs_plain (Calls.spliced_cons (thn (he.run pins s1 σ H1 _ I1 q1) fun iv s2 ⟨y, H2, I2, ry, kvs, k, b, v, ea, ey, eb, l, q2⟩ => Calls.spliced_nil ?_)))
  subst ey
  obtain rfl : iv = Value.ref b := ry
  exact d_popT hu I2 ea eb l fun w' s3 I3 rw' => ⟨v, _, I3, rw', q2⟩
end
section
variable {M : Md} {X : Cx} {W : WX} {k : Nat} {Nm : List Str} {sc : Scope} {δ δ' δ1 : List Slot} {e a b d2 o i' f : Expr} {es : List Expr} {pos p apos : Pos} {x m : Str} {K : Fr} {st : Stmt} {rest : List Stmt} {P : D → Prop} {PX : Xd → Prop}
theorem dkt_see {P : List (List Key × D) → Prop} (h : DE X W e δ (fun d => ∃ q kvs, d = .opq (.ref q) ∧ See δ q (.dct kvs) ∧ P kvs) PX) : DKT X W e δ P PX := by
  intro σ H own Q S q'
  refine h σ H own _ S fun d v H2 ⟨q, kvs, hd, hs, p⟩ e2 r => ?_
  subst hd
  obtain rfl : v = .ref q := r
  obtain ⟨_, es, g1, g2⟩ := (S.mono e2).sl.see hs
  exact q' kvs q es H2 p e2 g1 g2
/-- d.get((..)) -/
theorem de_tget1 {x1 : Nat} {tp cpos : Pos} (c : Ct M X W k Nm sc) (h : DKT X W o δ (fun kvs => DA X W es δ (fun ks => ∃ key : List Key, ks = key.map keyD ∧ key.length ≤ 100 ∧ P ((getT kvs key).getD .non)) PX) PX) (m : M1 X o "get" apos (.Tuple es x1 tp) cpos := by exact ⟨rfl, rfl, rfl, rfl⟩) :
    DE X W (.Call (.Attribute o "get" apos) [.Tuple es x1 tp] [] cpos) δ P PX := by
  refine de_mk (pe_dget1 (by have := c.u64; omega) pe_sem (pe_tup pa_sem) m) ?_
  intro σ H own Q S q
  refine h σ H own _ S fun kvs a es' H1 h2 e1 g1 g2 => ⟨a, rfl, .inr ⟨es', .inl g1⟩, ?_⟩
  refine h2 σ H1 own _ (S.mono e1) fun ks vs H2 ⟨key, hk, hl, p⟩ e2 r => ?_
  subst hk
  obtain rfl := RepL.keys r
  refine ⟨by rw [List.length_map, sizeLine_eq]; omega, fun b hb => ?_⟩
  have e3 : Ex H2 (upd H2 b (.tup (key.map kV))) := Ex.new hb
  refine ⟨_, DGet.t (e3 _ _ (e2 _ _ g1)) upd_same, ?_⟩
  have gk := g2.get (k := key)
  have e13 := e2.trans e3
  cases hg : getT kvs key with
  | none =>
    rw [gk.2 hg]
    rw [hg] at p
    exact q _ _ _ p (e1.trans e13) rfl
  | some d =>
    obtain ⟨v, hv, rv⟩ := gk.1 d hg
    rw [hv]
    rw [hg] at p
    exact q _ _ _ p (e1.trans e13) (rv.mono (mask_ex e13))
/-- d.get((..), z) -/
theorem de_tget2 {x1 : Nat} {tp cpos : Pos} (c : Ct M X W k Nm sc) (h : DKT X W o δ (fun kvs => DA X W es δ (fun ks => ∃ key : List Key, ks = key.map keyD ∧ key.length ≤ 100 ∧ DE X W f δ (fun z => P ((getT kvs key).getD z)) PX) PX) PX) (m : M2 X o "get" apos (.Tuple es x1 tp) f cpos := by exact ⟨rfl, rfl, rfl, rfl⟩) :
    DE X W (.Call (.Attribute o "get" apos) [.Tuple es x1 tp, f] [] cpos) δ P PX := by
  refine de_mk (pe_dget2 (by have := c.u64; omega) pe_sem (pe_tup pa_sem) pe_sem m) ?_
  intro σ H own Q S q
  refine h σ H own _ S fun kvs a es' H1 h2 e1 g1 g2 => ⟨a, rfl, .inr ⟨es', .inl g1⟩, ?_⟩
  refine h2 σ H1 own _ (S.mono e1) fun ks vs H2 ⟨key, hk, hl, hf⟩ e2 r => ?_
  subst hk
  obtain rfl := RepL.keys r
  refine ⟨by rw [List.length_map, sizeLine_eq]; omega, fun b hb => ?_⟩
  have e3 : Ex H2 (upd H2 b (.tup (key.map kV))) := Ex.new hb
  refine hf σ _ own _ (S.mono ((e1.trans e2).trans e3)) fun z w H4 p e4 rz => ?_
  refine ⟨_, DGet.t (e4 _ _ (e3 _ _ (e2 _ _ g1))) (e4 _ _ upd_same), ?_⟩
  have gk := g2.get (k := key)
  have e14 := (e2.trans e3).trans e4
  cases hg : getT kvs key with
  | none =>
    rw [gk.2 hg]
    rw [hg] at p
    exact q _ _ _ p (e1.trans e14) rz
  | some d =>
    obtain ⟨v, hv, rv⟩ := gk.1 d hg
    rw [hv]
    rw [hg] at p
    exact q _ _ _ p (e1.trans e14) (rv.mono (mask_ex e14))
variable {N : List Slot → Prop} {R : D → List Slot → Prop} {B C : List Slot → Prop}
/-- d[(..)] = e, d an owned object -/
theorem ds_tputC (c : Ct M X W k Nm sc) {j x1 : Nat} {cs : List (Addr × Cell)} {q : Addr} {kvs : List (List Key × D)} {tp tpos : Pos} {PX : Xd → List Slot → Prop} (hh : Hs δ j cs) (m : Cin q (.dct kvs) cs) (hz : kvs.length < 100000) (ho : DE X W o δ (fun d => d = .opq (.ref q)) (fun x => PX x δ))
    (h : DE X W e δ (fun z => DA X W es δ (fun ks => ∃ key : List Key, ks = key.map keyD ∧ key.length ≤ 100 ∧ ∃ cs' δ', Cput q (.dct (putTD kvs key z)) cs cs' ∧ Hput δ cs' j δ' ∧ N δ') (fun x => PX x δ)) (fun x => PX x δ))
    (hs : swapsWith e (some (.Subscript o (.Tuple es x1 tp) tpos)) pos.line X.env = pure false := by rfl) : DS X W (.Assign [.Subscript o (.Tuple es x1 tp) tpos] e pos) δ N R B C PX := fun Hb o0 own D' σ H ok g => by
  refine sem_ps (ps_dput (by have := c.u64; omega) pe_sem (pe_tup pa_sem) pe_sem hs) ?_
  refine h σ H own _ (ok.sy g) fun z v H1 h2 e1 r1 => ?_
  have o1 := ok.mono e1
  refine ho σ H1 own _ (o1.sy g) fun d u H2 hd e2 r2 => ?_
  subst hd
  obtain rfl : u = .ref q := r2
  have o2 := o1.mono e2
  refine h2 σ H2 own _ (o2.sy g) fun ks vs H3 ⟨key, hk, hl, cs', δ', w1, w2, hn⟩ e3 r3 => ?_
  subst hk
  obtain rfl := RepL.keys r3
  refine ⟨by rw [List.length_map, sizeLine_eq]; omega, fun b hb => ?_⟩
  have e4 : Ex H3 (upd H3 b (.tup (key.map kV))) := Ex.new hb
  have o4 := (o2.mono e3).mono e4
  obtain ⟨hq, es, g1, g2⟩ := o4.sl.cell hh.S m
  refine ⟨q, _, rfl, DPut.t g1 upd_same (by rw [g2.length, sizeLine_eq]; omega), ?_⟩
  refine g.nx own σ _ δ' hn ?_
  rw [w2.S]
  refine o4.wrC hh.S w1 ⟨_, upd_same, ?_⟩
  rw [mask_upd_own hq]
  exact g2.put (((r1.mono (mask_ex e2)).mono (mask_ex e3)).mono (mask_ex e4))
/-- d.pop((..)), there, d an owned object -/
theorem ds_tpopC (c : Ct M X W k Nm sc) {j x1 : Nat} {cs : List (Addr × Cell)} {q : Addr} {kvs : List (List Key × D)} {tp cpos : Pos} {PX : Xd → List Slot → Prop} (hh : Hs δ j cs) (m : Cin q (.dct kvs) cs) (ho : DE X W o δ (fun d => d = .opq (.ref q)) (fun x => PX x δ))
    (h : DA X W es δ (fun ks => ∃ key : List Key, ks = key.map keyD ∧ key.length ≤ 100 ∧ (getT kvs key).isSome = true ∧ ∃ cs' δ', Cput q (.dct (dropTD kvs key)) cs cs' ∧ Hput δ cs' j δ' ∧ N δ') (fun x => PX x δ))
    (m1 : M1 X o "pop" apos (.Tuple es x1 tp) cpos := by exact ⟨rfl, rfl, rfl, rfl⟩) (hsw : swapsWith (.Call (.Attribute o "pop" apos) [.Tuple es x1 tp] [] cpos) none pos.line X.env = pure false := by rfl) :
    DS X W (.Expr (.Call (.Attribute o "pop" apos) [.Tuple es x1 tp] [] cpos) pos) δ N R B C PX := fun Hb o0 own D' σ H ok g => by
  refine sem_ps (ps_expr (pe_dpopT (by have := c.u64; omega) pe_sem (pe_tup pa_sem) m1) hsw) ?_
  refine ho σ H own _ (ok.sy g) fun d u H1 hd e1 r1 => ?_
  subst hd
  obtain rfl : u = .ref q := r1
  have o1 := ok.mono e1
  obtain ⟨hq0, es0, g01, g02⟩ := o1.sl.cell hh.S m
  refine ⟨q, rfl, .inr ⟨_, .inl g01⟩, ?_⟩
  refine h σ H1 own _ (o1.sy g) fun ks vs H3 ⟨key, hk, hl, hin, cs', δ', w1, w2, hn⟩ e3 r3 => ?_
  subst hk
  obtain rfl := RepL.keys r3
  refine ⟨by rw [List.length_map, sizeLine_eq]; omega, fun b hb => ?_⟩
  have e4 : Ex H3 (upd H3 b (.tup (key.map kV))) := Ex.new hb
  have o4 := (o1.mono e3).mono e4
  obtain ⟨hq, es, g1, g2⟩ := o4.sl.cell hh.S m
  obtain ⟨d, hd⟩ := Option.isSome_iff_exists.mp hin
  obtain ⟨v, hv, rv⟩ := (g2.get (k := key)).1 d hd
  refine ⟨es, key, b, v, g1, rfl, upd_same, hv, ?_⟩
  refine g.nx own σ _ δ' hn ?_
  rw [w2.S]
  refine o4.wrC hh.S w1 ⟨_, upd_same, ?_⟩
  rw [mask_upd_own hq]
  exact g2.drop
/-- d.pop(k), there, d an owned object -/
theorem ds_dpopC (c : Ct M X W k Nm sc) {j : Nat} {cs : List (Addr × Cell)} {q : Addr} {kvs : List (Key × D)} {cpos : Pos} {PX : Xd → List Slot → Prop} (hh : Hs δ j cs) (m : Cin q (.dic kvs) cs) (ho : DE X W o δ (fun d => d = .opq (.ref q)) (fun x => PX x δ))
    (h : DE X W e δ (fun y => ∃ key : Key, y = keyD key ∧ (getK kvs key).isSome = true ∧ ∃ cs' δ', Cput q (.dic (dropKD kvs key)) cs cs' ∧ Hput δ cs' j δ' ∧ N δ') (fun x => PX x δ))
    (m1 : M1 X o "pop" apos e cpos := by exact ⟨rfl, rfl, rfl, rfl⟩) (hsw : swapsWith (.Call (.Attribute o "pop" apos) [e] [] cpos) none pos.line X.env = pure false := by rfl) :
    DS X W (.Expr (.Call (.Attribute o "pop" apos) [e] [] cpos) pos) δ N R B C PX := fun Hb o0 own D' σ H ok g => by
  refine sem_ps (ps_expr (pe_dpop1 pe_sem pe_sem m1) hsw) ?_
  refine ho σ H own _ (ok.sy g) fun d u H1 hd e1 r1 => ?_
  subst hd
  obtain rfl : u = .ref q := r1
  have o1 := ok.mono e1
  obtain ⟨hq0, es0, g01, g02⟩ := o1.sl.cell hh.S m
  refine ⟨q, rfl, .inl ⟨_, .inl g01⟩, ?_⟩
  refine h σ H1 own _ (o1.sy g) fun y w H3 ⟨key, hk, hin, cs', δ', w1, w2, hn⟩ e3 r3 => ?_
  subst hk
  have o4 := o1.mono e3
  obtain ⟨hq, es, g1, g2⟩ := o4.sl.cell hh.S m
  obtain ⟨d, hd⟩ := Option.isSome_iff_exists.mp hin
  obtain ⟨v, hv, rv⟩ := (g2.get (k := key)).1 d hd
  refine ⟨es, key, v, g1, keyD_rep r3, hv, ?_⟩
  refine g.nx own σ _ δ' hn ?_
  rw [w2.S]
  refine o4.wrC hh.S w1 ⟨_, upd_same, ?_⟩
  rw [mask_upd_own hq]
  exact g2.drop
/-- o.f = e, o an owned object -/
theorem ds_cfset (c : Ct M X W k Nm sc) {j : Nat} {cs : List (Addr × Cell)} {s Cc : Addr} {fs : List (Str × D)} {f : Str} {p2 : Pos} {PX : Xd → List Slot → Prop} (hh : Hs δ j cs) (m : Cin s (.ins Cc fs) cs) (cl : Cls M.K Cc) (na : NoAttr M.K Cc f) (hz : fs.length < 1000) (ho : DE X W o δ (fun d => d = .opq (.ref s)) (fun x => PX x δ))
    (h : DE X W e δ (fun z => ∃ cs' δ', Cput s (.ins Cc (putFD f z fs)) cs cs' ∧ Hput δ cs' j δ' ∧ N δ') (fun x => PX x δ))
    (hs : swapsWith e (some (.Attribute o f p2)) pos.line X.env = pure false := by rfl) : DS X W (.Assign [.Attribute o f p2] e pos) δ N R B C PX := fun Hb o0 own D' σ H ok g => by
  refine sem_ps (ps_fld pe_sem pe_sem hs) ?_
  refine h σ H own _ (ok.sy g) fun z v H1 ⟨cs', δ', w1, w2, hn⟩ e1 r1 => ?_
  have o1 := ok.mono e1
  refine ho σ H1 own _ (o1.sy g) fun d u H2 hd e2 r2 => ?_
  subst hd
  obtain rfl : u = .ref s := r2
  have o2 := o1.mono e2
  obtain ⟨hq, dx, es, g1, g2⟩ := o2.sl.cell hh.S m
  refine ⟨s, Cc, dx, es, rfl, g1, by rw [c.hK]; exact cl, by rw [c.hK]; exact na, by rw [g2.length]; exact hz, ?_⟩
  refine g.nx own σ _ δ' hn ?_
  rw [w2.S]
  refine o2.wrC hh.S w1 ⟨dx, _, upd_same, ?_⟩
  rw [mask_upd_own hq]
  exact g2.put (r1.mono (mask_ex e2))
/-! bits -/
def rShl : R2 := rI CPow fun i j => .int (i * 2 ^ j.toNat)
def rShr : R2 := rI (fun _ j => 0 ≤ j) fun i j => .int (i / 2 ^ j.toNat)
def rAnd : R2 := rI0 fun i j => .int (Builtin.bitAnd i j)
def rOr : R2 := rI0 fun i j => .int (Builtin.bitOr i j)
theorem de_shl (h : DE X W a δ (fun x => DE X W b δ (fun y => RW X.K rShl x y P) PX) PX) : DE X W (.BinOp a .LShift b pos) δ P PX := de_bin op_shl h
theorem de_shr (h : DE X W a δ (fun x => DE X W b δ (fun y => RW X.K rShr x y P) PX) PX) : DE X W (.BinOp a .RShift b pos) δ P PX := de_bin op_shr h
theorem de_bitAnd (h : DE X W a δ (fun x => DE X W b δ (fun y => RW X.K rAnd x y P) PX) PX) : DE X W (.BinOp a .BitAnd b pos) δ P PX := de_bin op_and h
theorem de_bitOr (h : DE X W a δ (fun x => DE X W b δ (fun y => RW X.K rOr x y P) PX) PX) : DE X W (.BinOp a .BitOr b pos) δ P PX := de_bin op_or h
theorem o_shl {i j : Int} (h0 : 0 ≤ j) (h1 : j ≤ 1000000) (h2 : i.natAbs < 2 ^ 64) (p : P (.int (i * 2 ^ j.toNat))) : RW K rShl (.int i) (.int j) P := rw_I (d := .int (i * 2 ^ j.toNat)) (fun _ => rfl) ⟨h0, h1, h2⟩ p
theorem o_shr {i j : Int} (h0 : 0 ≤ j) (p : P (.int (i / 2 ^ j.toNat))) : RW K rShr (.int i) (.int j) P := rw_I (d := .int (i / 2 ^ j.toNat)) (fun _ => rfl) h0 p
theorem o_and {i j : Int} (p : P (.int (Builtin.bitAnd i j))) : RW K rAnd (.int i) (.int j) P := fun v w H own Q _ a b q => by
  cases a; cases b
  exact ⟨i, j, rfl, rfl, q (.int (Builtin.bitAnd i j)) _ H p (Ex.refl H) rfl⟩
theorem o_or {i j : Int} (p : P (.int (Builtin.bitOr i j))) : RW K rOr (.int i) (.int j) P := fun v w H own Q _ a b q => by
  cases a; cases b
  exact ⟨i, j, rfl, rfl, q (.int (Builtin.bitOr i j)) _ H p (Ex.refl H) rfl⟩
theorem de_inv (h : DE X W a δ (fun x => ∃ i, x = .int i ∧ P (.int (Builtin.bitNot i))) PX) : DE X W (.UnaryOp .Invert a pos) δ P PX := by
  refine de_mk (pe_un un_inv pe_sem) (we_un (h.imp fun x ⟨i, hx, p⟩ => ?_))
  subst hx
  intro v H own Q ow r q
  exact ⟨i, r, q (.int (Builtin.bitNot i)) _ H p (Ex.refl H) rfl⟩
end
end PV

set_option Elab.async false
set_option linter.all false
set_option maxRecDepth 100000
set_option maxHeartbeats 4000000
/-! PV47: an instance made as one's own object -/
namespace PV
open PySem PySem.Spec PyProof.Rows L2
abbrev PhiIX := List D → (List (Str × D) → List (Addr × Cell) → Prop) → (Xd → Prop) → Prop
/-- self is fresh; behind it stand the fields and the new objects that they point to -/
def spIX (K : Fr) (C : Addr) (n : Nat) (F : PhiIX) : Sp := fun vs H Q E => ∃ own x dx ws ds P PX, vs = .ref x :: ws ∧ own x = false ∧ (∀ a, own a = true → H a ≠ none) ∧ H x = some (.ins C dx []) ∧ RepL K (mask (addOwn own x) H) ds ws ∧ ds.length + 1 = n ∧ F ds P PX ∧
  (∀ fs own' H' cs', P fs cs' → (∀ a, own a = true → own' a = true) → (∀ a, own' a = true → H' a ≠ none) → (∀ a, own' a = true → own a = true ∨ a = x ∨ H a = none) → Ex (but x H) H' → CsOk K own' H' ((x, .ins C fs) :: cs') → (∀ a ∈ cs'.map (·.1), H a = none) → Q .non H') ∧ WishX K E own (but x H) PX
section
variable {M : Md} {X : Cx} {W : WX} {k : Nat} {Nm : List Str} {sc : Scope} {δ δ' δ1 : List Slot} {e a b d2 o i' f : Expr} {es : List Expr} {pos p apos : Pos} {x m : Str} {K : Fr} {st : Stmt} {rest : List Stmt}
theorem init_okX {M : Md} {y qual : Str} {st : Stmt} {f C : Addr} {fd : FuncData} {N ps : List Str} {k n : Nat} {F : PhiIX} (G : Fun M.K y qual st f fd) (S : FnScope N ps (defScope st)) (hn : ps.length = n)
    (h : ∀ l ds P PX, ds.length + 1 = n → F ds P PX → ∀ X W, Ct M X W k N (defScope st) → DSs X W (defBody st) (startI N l C ds ++ [.heap []]) (fun δ => ∃ fs cs j, δ[0]? = some (.ins l C fs) ∧ Hs δ j cs ∧ P fs cs) (fun _ _ => False) (fun _ => False) (fun _ => False) (fun x _ => PX x)) :
    FnOk M.P M.w M.K M.mg M.base (L2.CX M.P M.w) (k + 1) f fd ps (spIX M.K C n F) := by
  refine G.okX S (fun vs H Q E hh => ?_) (fun cdv A outer s H vs Q E hr hh => ?_)
  · obtain ⟨own, x, dx, ws, ds, P, PX, rfl, _, _, _, r, hl, _⟩ := hh
    rw [List.length_cons, r.length, hl, hn]
  · obtain ⟨own, x, dx, ws, ds, P, PX, rfl, hx, ow, he, r, hl, hF, hq, hw⟩ := hh
    refine ⟨_, pss_sem, ?_⟩
    have c : Ct M (cxOf (L2.CX M.P M.w) M.P M.w M.K M.mg M.base N qual (defScope st) f cdv A outer s H E) (fun cls d _ H => E cls d H) k N (defScope st) :=
      ⟨hr, rfl, takes_of rfl rfl rfl rfl, S.nd, rfl, rfl, rfl, rfl, rfl, rfl, fun x hx => hx, fun x hx => hx, fun x hx => hx, S.kind, fun x hx => hx, fun sc own hb => blkOk_by hb, passes_of rfl, fun x hx => .inl rfl⟩
    have s0 : Slots0 M.K (addOwn own x) H (L2.start N (.ref x :: ws)) (startS N (.opq (.ref x) :: ds)) := slots_start0 ⟨_, _, rfl, rfl, r⟩
    have h0 : (L2.start N (.ref x :: ws))[0]? = some (some (.ref x)) := rfl
    have s1 := s0.chg 0 (x' := some (.ref x)) (s' := .ins x C []) ⟨dx, [], rfl, addOwn_self, he, rfl⟩ (fun _ _ _ _ _ _ o => o) fun l _ j x s _ _ b c => startS_has j s x l b c
    rw [set_same h0] at s1
    refine h x ds P PX hl hF _ _ c (but x H) own (addOwn own x) _ _ H ⟨fun a z => addOwn_old z, fun a z => ?_, fun a z1 z2 => ?_, but_ex, slots_heap s1, fun i s l a b => ?_⟩
      ⟨fun own' σ' H' δ' ⟨fs, cs, j, p0, ph, p⟩ o' => ?_, fun _ _ _ _ _ _ z => z.elim, fun _ _ _ _ z _ => z.elim, fun _ _ _ _ z _ => z.elim, fun own' σ' H' δ' o' => ?_⟩
    · by_cases hz : a = x
      · subst hz; rw [he]; exact fun z => nomatch z
      · refine ow a ?_
        unfold addOwn at z
        simpa [hz] using z
    · have : a = x := by
        unfold addOwn at z1
        simpa [z2] using z1
      subst this
      exact if_pos rfl
    · have e := (start_own0 (o0 := own) (σ := L2.start N (.ref x :: ws)) (N := N) (ds := .opq (.ref x) :: ds)).chg 0 (x' := some (.ref x)) (s' := .ins x C []) fun x0 l' z y => by
        have z : x0 = some (V.ref l') := z
        subst z
        rcases y with y | y
        · cases y
        · cases y
          exact hx
      rw [set_same h0] at e
      by_cases hi : i < (startI N x C ds).length
      · rw [List.getElem?_append_left hi] at a
        exact e i s l a b
      · rw [List.getElem?_append_right (by omega)] at a
        have : s = .heap [] := by
          cases hz : i - (startI N x C ds).length with
          | zero => rw [hz] at a; exact (Option.some.inj a).symm
          | succ n => rw [hz] at a; cases a
        subst this
        cases b
    · obtain ⟨γ, z0⟩ := o'.sl
      have len0 : 0 < (σ' ++ γ).length := by rw [z0.len]; exact (List.getElem?_eq_some_iff.mp p0).1
      have lenj : j < (σ' ++ γ).length := by rw [z0.len]; exact (List.getElem?_eq_some_iff.mp ph.S).1
      obtain ⟨dx', es, y1, y2, y3, y4⟩ := z0.ok 0 _ _ (List.getElem?_eq_getElem len0) p0
      obtain ⟨nd, hc⟩ := z0.ok j _ _ (List.getElem?_eq_getElem lenj) ph.S
      have j0 : (0 : Nat) ≠ j := by
        rintro rfl
        have := p0.symm.trans ph.S
        cases this
      have nx : x ∉ cs.map (·.1) := fun hm => z0.sep 0 j _ _ _ _ x j0 (List.getElem?_eq_getElem len0) (List.getElem?_eq_getElem lenj) p0 ph.S y1 hm
      have gone : ∀ a, own' a = true → own a = false → a = x ∨ H a = none := fun a h1 h2 => by
        have h3 := o'.mine a h1 h2
        unfold but at h3
        split at h3
        · rename_i hm; exact .inl hm
        · exact .inr h3
      refine hq fs own' H' cs p o'.sub o'.ow (fun a h1 => ?_) o'.ex ⟨by rw [List.map_cons, List.nodup_cons]; exact ⟨nx, nd⟩, fun z hz => ?_⟩ fun a ha => ?_
      · cases h2 : own a with
        | true => exact .inl rfl
        | false => exact .inr (gone a h1 h2)
      · rcases List.mem_cons.mp hz with rfl | hz
        · exact ⟨y2, dx', es, y3, y4⟩
        · exact hc z hz
      · obtain ⟨z, hz, e⟩ := List.mem_map.mp ha
        have h1 := (hc z hz).1
        rw [e] at h1
        rcases gone a h1 (o'.acc j _ a ph.S ha) with h | h
        · rw [h] at ha; exact (nx ha).elim
        · exact h
    · exact ⟨fun c' p H2 e => hw.pl c' p H2 (o'.ex.trans e), fun c' fs p H2 d es e h1 r => hw.fl c' fs p H2 d es (o'.ex.trans e) (mask_mono o'.sub _ _ h1) (r.mono (mask_mono o'.sub))⟩
structure MkOkX (M : Md) (C : Addr) (j n : Nat) (F : PhiIX) : Prop where
  ex : ∃ f fd ps, FnOk M.P M.w M.K M.mg M.base (L2.CX M.P M.w) j f fd ps (spIX M.K C n F) ∧ Mk M.K C f ∧ Binds M.K fd ps []
theorem Split.rs : ∀ cs : List (Addr × Cell), Split cs [] cs
  | [] => .nil
  | _ :: t => .r (Split.rs t)
/-- C(e, ..), an object of one's own from now on -/
theorem dx_make {j n : Nat} {F : PhiIX} {C : Addr} {P : D → List Slot → Prop} {PX : Xd → List Slot → Prop} (c : Ct M X W k Nm sc) (hm : M.mg x = some (.ref C)) (f : MkOkX M C j n F) (hj : j + 1 ≤ k) (hg : GlS sc x) {i : Nat} {cs : List (Addr × Cell)} (hh : Hs δ i cs) (h : DA X W (e :: es) δ (fun ds => ds.length + 1 = n ∧ F ds (fun fs cs' => ∀ l, ∃ δ', Hput δ ((l, .ins C fs) :: cs' ++ cs) i δ' ∧ P (.opq (.ref l)) δ') (fun x => PX x δ)) (fun x => PX x δ))
    (hdb : (x == ("__debug__" : Str)) = false := by decide) (he : starEach (e :: es) X.env = (false, eval e X.env) :: starEach es X.env := by rfl) (hpl : (backTo pos (starEach es X.env)).any (·.1) = false := by rfl) : DX X W (.Call (.Name x p) (e :: es) [] pos) δ P PX := by
  obtain ⟨fa, fd, ps, G, hM, hb⟩ := f.ex
  rw [← c.hK] at hM hb
  rw [← c.hmg] at hm
  rw [← c.hP, ← c.hw, ← c.hK, ← c.hmg, ← c.hb] at G
  intro Hb o0 own σ H Q ok w q pins s I
  have S : Sy X.K W own σ H δ (fun x => PX x δ) := ⟨ok.ow, ok.sl, w own H δ ok⟩
  have h1 : semA X (e :: es) σ H fun vs H1 => ∀ l dx, H1 l = none → H1 dx = none → dx ≠ l → spIX X.K C n F (.ref l :: (vs ++ [])) (upd (upd H1 dx (.own l)) l (.ins C dx [])) (fun v H2 => v = .non ∧ Q (.ref l) H2) (fun cls d H => W cls d σ H) := by
    refine h σ H own _ S fun ds vs H1 ⟨hn, hF⟩ e1 r l dx hl hd hne => ?_
    have S1 := S.mono e1
    have o1 := ok.mono e1
    have e2 : Ex H1 (upd (upd H1 dx (.own l)) l (.ins C dx [])) := fun a u z => by
      rw [upd_ne (ne_of_none z hl), upd_ne (ne_of_none z hd)]
      exact z
    have ho : own l = false := not_own S1.ow hl
    have eb : Ex H1 (but l (upd (upd H1 dx (.own l)) l (.ins C dx []))) := fun a u z => by
      rw [but_ne (ne_of_none z hl)]
      exact e2 a u z
    refine ⟨own, l, dx, vs, ds, _, _, by rw [List.append_nil], ho, fun a z y => S1.ow a z (e2.free y), upd_same, r.mono (mask_add e2 hl), hn, hF, fun fs own' H' cs' hp hsub how hold hex hcs hfr => ⟨rfl, ?_⟩, S1.wi.mono eb⟩
    obtain ⟨δ', hpt, pp⟩ := hp l
    have hnone : ∀ a, upd (upd H1 dx (.own l)) l (.ins C dx []) a = none → H1 a = none := fun a z => e2.free z
    have g : Grown own own' H1 H' [] ((l, .ins C fs) :: cs') := by
      refine ⟨fun a h1 _ => hsub a h1, how, fun a h1 => ?_, fun a u z => ?_, fun a ha => .inr ?_⟩
      · rcases hold a h1 with h | h | h
        · exact .inl h
        · exact .inr (by rw [h]; exact hl)
        · exact .inr (hnone a h)
      · have z : H1 a = some u := minus_ex a u z
        exact hex a u (eb a u z)
      · rw [List.map_cons] at ha
        rcases List.mem_cons.mp ha with h | h
        · rw [h]; exact hl
        · exact hnone a (hfr a h)
    refine q (.opq (.ref l)) (.ref l) own' H' δ' pp ?_ rfl
    rw [hpt.S]
    exact o1.back hh.S (Split.rs cs) g hcs
  refine wpAny_Call_Name_kw (ld_glob I (c.gl _ hg) hm ?_ hdb)
  refine PySem.W.callWith_K (h₀ := X.base) I.ok.mod.kin hM.kp (thn (h1 pos pins s I) fun us s1 ⟨vs, H1, I1, r, q1⟩ => ⟨I1.kIn, ?_⟩) he hpl
  exact make_at hM G (c.room.mono hj) hb .nil (passAt c.tk σ) I1 r q1
end
end PV

set_option Elab.async false
set_option linter.all false
set_option maxRecDepth 100000
set_option maxHeartbeats 4000000
/-! PV48: new dicts for tuple keys, as owned objects -/
namespace PV
open PySem PySem.Spec PyProof.Rows L2
theorem RepL.eraseIdx {K : Fr} {H : Hp} : ∀ {ds : List D} {vs : List V} (i : Nat), RepL K H ds vs → RepL K H (ds.eraseIdx i) (vs.eraseIdx i)
  | [], _, i, h => by obtain rfl : _ = [] := h; exact rfl
  | d :: ds, _, 0, h => by obtain ⟨v, t, rfl, h2, h3⟩ := h; exact h3
  | d :: ds, _, i + 1, h => by obtain ⟨v, t, rfl, h2, h3⟩ := h; exact ⟨v, _, rfl, h2, RepL.eraseIdx i h3⟩
section
variable {M : Md} {X : Cx} {W : WX} {k : Nat} {Nm : List Str} {sc : Scope} {δ δ' δ1 : List Slot} {e a b d2 o i' f : Expr} {es : List Expr} {pos p apos : Pos} {x m : Str} {K : Fr} {st : Stmt} {rest : List Stmt}
/-- self.f = {}, an owned object for tuple keys -/
theorem ds_fldDT (c : Ct M X W k Nm sc) {i j : Nat} {l C : Addr} {fs : List (Str × D)} {f : Str} {p2 p3 : Pos} {cs : List (Addr × Cell)} {N : List Slot → Prop} {R : D → List Slot → Prop} {B C' : List Slot → Prop} {PX : Xd → List Slot → Prop} (hh : Hs δ j cs) (hx : At Nm δ x i (.ins l C fs)) (hv : Vis sc x) (cl : Cls M.K C) (na : NoAttr M.K C f) (hn : fs.lookup f = none) (hz : fs.length < 1000)
    (h : ∀ q, ∃ δ1 δ', Hput δ ((q, .dct []) :: cs) j δ1 ∧ Put Nm δ1 x (.ins l C (fs ++ [(f, .opq (.ref q))])) i δ' ∧ N δ') (hd : (x == ("__debug__" : Str)) = false := by decide) (hcd : (x == ("__classdict__" : Str)) = false := by decide)
    (hs : swapsWith (.Dict [] [] p3) (some (.Attribute (.Name x p2) f p)) pos.line X.env = pure false := by rfl) : DS X W (.Assign [.Attribute (.Name x p2) f p] (.Dict [] [] p3) pos) δ N R B C' PX := fun Hb o0 own D' σ H o g => by
  refine sem_psL (ps_fld (pe_var (i := i) (by rw [c.hN]; exact hx.N) (c.vis _ hv) hd hcd) pe_dnewT hs) fun hlen => ?_
  intro q hq
  obtain ⟨δ1, δ', n1, n2, hnn⟩ := h q
  have o1 := o.newC (c := .dct []) hh.S (Ex.new hq) hq upd_same ⟨[], upd_same, rfl⟩
  have ij : j ≠ i := by
    rintro rfl
    have := hh.S.symm.trans hx.S
    cases this
  have hx1 : (δ.set j (.heap ((q, .dct []) :: cs)))[i]? = some (.ins l C fs) := by
    rw [List.getElem?_set_ne ij]; exact hx.S
  obtain ⟨y, h1, dx, es, rfl, h2, h3, h4⟩ := o1.sl.at (hx.lt c hlen) hx1
  refine ⟨_, h1, l, C, dx, es, rfl, h3, by rw [c.hK]; exact cl, by rw [c.hK]; exact na, by rw [h4.length]; exact hz, ?_⟩
  refine g.nx (addOwn own q) _ _ δ' hnn ?_
  rw [n2.S, n1.S]
  refine o1.wrG hx1 rfl h1 h2 ⟨dx, _, rfl, h2, upd_same, ?_⟩ fun _ _ z => z
  rw [mask_upd_own h2, ← putFD_new hn]
  exact h4.put (d := .opq (.ref q)) (v := .ref q) rfl
/-- x = {}, an owned object for tuple keys -/
theorem ds_celDT (c : Ct M X W k Nm sc) {i j : Nat} {s0 : Slot} {p2 p3 : Pos} {cs : List (Addr × Cell)} {N : List Slot → Prop} {R : D → List Slot → Prop} {B C : List Slot → Prop} {PX : Xd → List Slot → Prop} (hh : Hs δ j cs) (hx : At Nm δ x i s0) (hv : Loc sc x)
    (h : ∀ q, ∃ δ1 δ', Hput δ ((q, .dct []) :: cs) j δ1 ∧ Put Nm δ1 x (.val (.opq (.ref q))) i δ' ∧ N δ')
    (hs : swapsWith (.Dict [] [] p3) (some (.Name x p2)) pos.line X.env = pure false := by rfl) : DS X W (.Assign [.Name x p2] (.Dict [] [] p3) pos) δ N R B C PX := fun Hb o0 own D' σ H o g => by
  refine sem_ps (ps_set c.nd (by rw [c.hN]; exact hx.N) (c.loc _ hv) pe_dnewT hs (c.fn x hv)) ?_
  intro l hl
  obtain ⟨δ1, δ', n1, n2, hn⟩ := h l
  refine g.nx (addOwn own l) _ _ δ' hn ?_
  rw [n2.S, n1.S]
  exact (o.newC (c := .dct []) hh.S (Ex.new hl) hl upd_same ⟨[], upd_same, rfl⟩).put (d := .opq (.ref l)) i rfl
/-- o.m(), o an object lent or owned -/
theorem de_methR0 {P : D → Prop} {PX : Xd → Prop} {j : Nat} {F : PhiR} {C : Addr} (c : Ct M X W k Nm sc) (f : MethOkR M C j m 1 F) (cl : Cls M.K C) (hj : j ≤ k) (h : DE X W o δ (fun x => ∃ s fs, x = .opq (.ref s) ∧ See δ s (.ins C fs) ∧ fs.lookup m = none ∧ ∃ cs, Sees δ cs ∧ F [.opq (.ref s)] cs P (fun _ => False)) PX) {pl : Sem Bool}
    (ht : eval (.Call (.Attribute o m apos) [] [] pos) X.env = (do
      let ov ← eval o X.env
      standAt apos.atName
      let (f, first) ← holding [ov] (getMethod ov m pl)
      callWith pos f first (backTo pos (starEach [] X.env)) (backToKw pos (keywordEach [] X.env))) := by rfl) : DE X W (.Call (.Attribute o m apos) [] [] pos) δ P PX := by
  obtain ⟨fa, fd, ps, G, hm, hb⟩ := f.ex
  rw [← c.hK] at cl hm hb
  rw [← c.hP, ← c.hw, ← c.hK, ← c.hmg, ← c.hb] at G
  intro σ H own Q S q
  refine sem_pe (pe_meth0 pe_sem cl hm G (c.room.mono hj) hb .nil (E := fun _ _ _ => False) ?_ ht) ?_
  · intro pins σ H s u s' _ z
    obtain ⟨_, _, _, _, _, _, _, _, _, _, _, _, z⟩ := z
    exact z.elim
  · refine h σ H own _ S fun x v H1 ⟨s, fs, hx, hs, hl, cs, hsee, hF⟩ e1 r => ?_
    subst hx
    obtain rfl : v = .ref s := r
    have S1 := S.mono e1
    obtain ⟨_, dx, es', g1, g2⟩ := S1.sl.see hs
    refine ⟨s, dx, es', rfl, g1, g2.lookupN hl, ?_⟩
    exact ⟨own, [.opq (.ref s)], cs, P, _, S1.ow, S1.sl.sees hsee, ⟨_, _, rfl, rfl, rfl⟩, rfl, hF, fun d v H' p e3 r3 => q d v H' p (e1.trans e3) r3, wish_false⟩
/-- x[b] = e, x an owned list by its address -/
theorem ds_csetL (c : Ct M X W k Nm sc) {j : Nat} {cs : List (Addr × Cell)} {q : Addr} {ds : List D} {tpos : Pos} {N : List Slot → Prop} {R : D → List Slot → Prop} {B C : List Slot → Prop} {PX : Xd → List Slot → Prop} (hh : Hs δ j cs) (m : Cin q (.lst ds) cs) (ho : DE X W o δ (fun d => d = .opq (.ref q)) (fun x => PX x δ))
    (h : DE X W e δ (fun z => DE X W b δ (fun y => ∃ i : Int, y = .int i ∧ 0 ≤ i ∧ i < ds.length ∧ ∃ cs' δ', Cput q (.lst (ds.set i.toNat z)) cs cs' ∧ Hput δ cs' j δ' ∧ N δ') (fun x => PX x δ)) (fun x => PX x δ))
    (ha : ∀ v, assign (.Subscript o b tpos) X.env v = (do
      let ov ← holding [v] (eval o X.env)
      let iv ← holding [v, ov] (eval b X.env)
      standAt tpos
      holding [v, ov, iv] (setItem ov iv v)
      release [v, ov, iv] []) := by intro _; rfl)
    (hs : swapsWithSole [.Subscript o b tpos] e pos.line X.env = pure false := by rfl) (hw : swappedStores [.Subscript o b tpos] e X.env = pure none := by rfl)
    (h1 : (assignEach [.Subscript o b tpos] X.env).map (·.2) = [assign (.Subscript o b tpos) X.env] := by rfl) : DS X W (.Assign [.Subscript o b tpos] e pos) δ N R B C PX := fun Hb o0 own D' σ H ok g => by
  refine sem_ps (ps_asg pe_sem (pg_sub pe_sem pe_sem set_list ha) hs hw h1) ?_
  refine h σ H own _ (ok.sy g) fun z v H1 h2 e1 r1 => ?_
  have o1 := ok.mono e1
  refine ho σ H1 own _ (o1.sy g) fun d u H2 hd e2 r2 => ?_
  subst hd
  obtain rfl : u = .ref q := r2
  have o2 := o1.mono e2
  refine h2 σ H2 own _ (o2.sy g) fun y w H3 ⟨i, hy, i0, i1, cs', δ', w1, w2, hn⟩ e3 r3 => ?_
  subst hy
  obtain ⟨i, rfl⟩ : ∃ n : Nat, i = n := ⟨i.toNat, by omega⟩
  have o3 := o2.mono e3
  obtain ⟨hq, vs, g1, g2⟩ := o3.sl.cell hh.S m
  refine ⟨q, vs, i, i, rfl, r3, g1, ixN_nat (by rw [g2.length]; omega), ?_⟩
  refine g.nx own σ _ δ' hn ?_
  rw [w2.S]
  refine o3.wrC hh.S w1 ⟨_, upd_same, ?_⟩
  rw [mask_upd_own hq]
  exact g2.set i ((r1.mono (mask_ex e2)).mono (mask_ex e3))
/-! ### expressions made of such that change what is owned -/
section
variable {P : D → List Slot → Prop} {PX : Xd → List Slot → Prop}
theorem dx_bin {op : Operator} {r : R2} (ho : OpR X (binaryOp op) r) (h : DX X W a δ (fun x δ1 => DX X W b δ1 (fun y δ2 => RW X.K r x y (fun d => P d δ2)) PX) PX) : DX X W (.BinOp a op b pos) δ P PX := by
  intro Hb o0 own σ H Q o w q
  refine sem_pe (pe_op ho pe_sem pe_sem) ?_
  refine h Hb o0 own σ H _ o w fun x v own1 H1 δ1 hx o1 r1 => ?_
  refine hx _ o0 own1 σ H1 _ o1.fix (fun own' H' δ' o' => w own' H' δ' (o'.unfix o1.fixEx)) fun y u own2 H2 δ2 hy o2 r2 => ?_
  have e := Ok.still (Hb := Hb) o1.sub o2
  refine hy v u H2 own2 Q o2.ow (r1.mono e) r2 fun d t H3 p e3 r3 => ?_
  exact q d t own2 H3 δ2 p ((o2.unfix o1.fixEx).mono e3) r3
theorem dx_add (h : DX X W a δ (fun x δ1 => DX X W b δ1 (fun y δ2 => RW X.K (rAddA X.K) x y (fun d => P d δ2)) PX) PX) : DX X W (.BinOp a .Add b pos) δ P PX := dx_bin (op_add.or (op_add_str.or (op_catS.or op_catA))) h
theorem dx_ix (h : DX X W a δ (fun x δ1 => DX X W b δ1 (fun y δ2 => RW X.K (rIx X.K) x y (fun d => P d δ2)) PX) PX) (hs : PlainIx b := by intro _ _; rfl) : DX X W (.Subscript a b pos) δ P PX := by
  intro Hb o0 own σ H Q o w q
  refine sem_pe (pe_ix ix_seq pe_sem pe_sem hs) ?_
  refine h Hb o0 own σ H _ o w fun x v own1 H1 δ1 hx o1 r1 => ?_
  refine hx _ o0 own1 σ H1 _ o1.fix (fun own' H' δ' o' => w own' H' δ' (o'.unfix o1.fixEx)) fun y u own2 H2 δ2 hy o2 r2 => ?_
  have e := Ok.still (Hb := Hb) o1.sub o2
  refine hy v u H2 own2 Q o2.ow (r1.mono e) r2 fun d t H3 p e3 r3 => ?_
  exact q d t own2 H3 δ2 p ((o2.unfix o1.fixEx).mono e3) r3
theorem dx_slice {lo hi : Option Expr} {p2 : Pos} (h : DX X W e δ (fun x δ1 => DO X W lo δ1 (fun l => DO X W hi δ1 (fun u => RS X.K x l u (fun d => P d δ1)) (fun x => PX x δ1)) (fun x => PX x δ1)) PX) : DX X W (.Subscript e (.Slice lo hi none p2) pos) δ P PX := by
  intro Hb o0 own σ H Q o w q
  refine sem_pe (pe_slice (sl_list.or (sl_tupA.or sl_str)) pe_sem po_sem po_sem) ?_
  refine h Hb o0 own σ H _ o w fun x v own1 H1 δ1 p1 o1 r1 => ?_
  have S1 : Sy X.K W own1 σ H1 δ1 (fun x => PX x δ1) := ⟨o1.ow, o1.sl, w own1 H1 δ1 o1⟩
  refine p1 σ H1 own1 _ S1 fun l H2 p2 e2 => ?_
  refine p2 σ H2 own1 _ (S1.mono e2) fun u H3 p3 e3 => ?_
  exact p3 v H3 own1 Q (S1.mono (e2.trans e3)).ow (r1.mono (mask_ex (e2.trans e3))) fun d u H4 p e4 r4 => q d u own1 H4 δ1 p (o1.mono ((e2.trans e3).trans e4)) r4
def DAX (X : Cx) (W : WX) (es : List Expr) (δ : List Slot) (P : List D → List Slot → Prop) (PX : Xd → List Slot → Prop) : Prop := ∀ Hb o0 own σ H (Q : List V → Hp → Prop), Ok X.K Hb o0 own σ H δ → (∀ own' H' δ', Ok X.K Hb o0 own' σ H' δ' → WishX X.K (fun c d H => W c d σ H) own' H' (fun x => PX x δ')) →
  (∀ ds vs own' H' δ', P ds δ' → Ok X.K Hb o0 own' σ H' δ' → RepL X.K (mask own' H') ds vs → Q vs H') → semA X es σ H Q
theorem dax_nil {P : List D → List Slot → Prop} (p : P [] δ) : DAX X W [] δ P PX := fun Hb o0 own σ H Q o w q => sem_pa pa_nil (q [] [] own H δ p o rfl)
theorem dax_cons {P : List D → List Slot → Prop} (h : DX X W e δ (fun d δ1 => DAX X W es δ1 (fun ds δ2 => P (d :: ds) δ2) PX) PX) (hs : starEach (e :: es) X.env = (false, eval e X.env) :: starEach es X.env := by rfl) : DAX X W (e :: es) δ P PX := by
  intro Hb o0 own σ H Q o w q
  refine sem_pa (pa_cons pe_sem pa_sem hs) ?_
  refine h Hb o0 own σ H _ o w fun d v own1 H1 δ1 p o1 r1 => ?_
  refine p _ o0 own1 σ H1 _ o1.fix (fun own' H' δ' o' => w own' H' δ' (o'.unfix o1.fixEx)) fun ds vs own2 H2 δ2 p2 o2 r2 => ?_
  exact q _ _ own2 H2 δ2 p2 (o2.unfix o1.fixEx) ⟨v, vs, rfl, r1.mono (Ok.still (Hb := Hb) o1.sub o2), r2⟩
theorem dx_lst (h : DAX X W es δ (fun ds δ' => ds.length ≤ 100000 ∧ P (.lst ds) δ') PX) : DX X W (.List es pos) δ P PX := by
  intro Hb o0 own σ H Q o w q
  refine sem_pe (pe_lst pa_sem) ?_
  refine h Hb o0 own σ H _ o w fun ds vs own1 H1 δ1 ⟨hl, p⟩ o1 r => ⟨by rw [r.length, sizeLine_eq]; omega, fun l hl1 => ?_⟩
  refine q _ _ own1 _ δ1 p (o1.mono (Ex.new hl1)) ?_
  rw [mask_new o1.ow hl1]
  exact ⟨l, vs, rfl, SqL.of upd_same, r.mono (Ex.new (mask_at hl1))⟩
/-- x.pop(e), x an owned list -/
theorem dx_popA (c : Ct M X W k Nm sc) {i : Nat} {ds : List D} {p2 cpos : Pos} (hx : At Nm δ x i (.acc ds)) (hv : Vis sc x) (hz : ds.length < 100000)
    (h : DX X W e δ (fun y δ1 => ∃ (j : Int) (d : D), y = .int j ∧ 0 ≤ j ∧ At Nm δ1 x i (.acc ds) ∧ ds[j.toNat]? = some d ∧ ∃ δ', Put Nm δ1 x (.acc (ds.eraseIdx j.toNat)) i δ' ∧ P d δ') PX)
    (hd : (x == ("__debug__" : Str)) = false := by decide) (hcd : (x == ("__classdict__" : Str)) = false := by decide)
    (hbase : attributeBase (.Name x p2) "pop" X.env (eval (.Name x p2) X.env) = eval (.Name x p2) X.env := by rfl)
    (hfew : ((backTo cpos (starEach [e] X.env)).all (fun x => !x.1) && (backToKw cpos (keywordEach [] X.env)).all (fun x => x.1.isSome)
      && decide ([e].length + ([] : List Keyword).length + (if ([] : List Keyword).isEmpty then 0 else 1) < 30)) = true := by rfl)
    (hline : (apos.endLine == cpos.line) = true := by rfl) (hs : starEach [e] X.env = (false, eval e X.env) :: starEach [] X.env := by rfl) (hplain : (backTo cpos (starEach [] X.env)).any (·.1) = false := by rfl) :
    DX X W (.Call (.Attribute (.Name x p2) "pop" apos) [e] [] cpos) δ P PX := by
  intro Hb o0 own σ H Q o w q
  refine sem_peL (pe_bm PySem.F.plainAttrs_list PySem.F.slot_list_pop PySem.F.type_list_pop mt_popAt (pe_var (i := i) (by rw [c.hN]; exact hx.N) (c.vis _ hv) hd hcd) (pa_cons pe_sem pa_nil hs) hbase hfew hline hs hplain) fun hlen => ?_
  obtain ⟨y, h1, l, vs, rfl, h2, h3, r⟩ := o.sl.at (hx.lt c hlen) hx.S
  refine ⟨_, h1, .inl ⟨rfl, vs, SqL.of h3⟩, ?_⟩
  refine h Hb o0 own σ H _ o w fun y v own1 H1 δ1 ⟨j, d, hy, j0, a1, hj, δ', n, p⟩ o1 r1 => ?_
  subst hy
  obtain rfl : v = .int j := r1
  obtain ⟨y1, g1, l1, vs1, rfl, g2, g3, g4⟩ := o1.sl.at (hx.lt c hlen) a1.S
  have : l1 = l := by rw [h1] at g1; cases g1; rfl
  subst this
  obtain ⟨t, ht, rt⟩ := g4.get hj
  have hlt := (List.getElem?_eq_some_iff.mp hj).1
  refine ⟨l1, vs1, j, j.toNat, t, rfl, rfl, g3, by omega, by omega, ?_, ht, ?_⟩
  · rw [g4.length]
    obtain ⟨j, rfl⟩ : ∃ n : Nat, j = n := ⟨j.toNat, by omega⟩
    simp only [Int.toNat_natCast] at hlt
    have e : (if (j : Int) < 0 then (j : Int) + (ds.length : Int) else (j : Int)) = (j : Int) := if_neg (by omega)
    unfold seqIndex?
    simp only [e]
    rw [if_pos (by rw [Bool.and_eq_true, decide_eq_true_iff, decide_eq_true_iff]; omega)]
  · refine q d t own1 _ δ' p ?_ ?_
    · rw [n.S]
      exact o1.wr a1.S g1 g2 (g4.eraseIdx _)
    · rw [mask_upd_own g2]
      exact rt
end
end
end PV

set_option Elab.async false
set_option linter.all false
set_option maxRecDepth 100000
set_option maxHeartbeats 4000000
/-! PV49: comprehensions whose items change what is owned -/
namespace PV
open PySem PySem.Spec PyProof.Rows L2
/-- behind the names stand owned objects alone, nothing is lent to be read -/
def tidy (n : Nat) (δ : List Slot) : Bool := (δ.all fun s => match s with | .look (_ :: _) => false | _ => true) && (δ.drop n).all fun s => match s with | .heap _ => true | .look [] => true | .no => true | _ => false
section
variable {K : Fr} {δ : List Slot}
theorem tidy_has {n : Nat} {o0 own : Addr → Bool} {σ : L2.St} {H Hb : Hp} (t : tidy n δ = true) (hn : σ.length = n) (o : Ok K Hb o0 own σ H δ) {γ : List (Option V)} {i : Nat} {x : Option V} {s : Slot} {l : Addr} (a : (σ ++ γ)[i]? = some x) (b : δ[i]? = some s) (c : s.has x l) : o0 l = false := by
  unfold tidy at t
  rw [Bool.and_eq_true] at t
  obtain ⟨t1, t2⟩ := t
  have hs : s ∈ δ := List.mem_of_getElem? b
  have c1 := List.all_eq_true.mp t1 s hs
  by_cases hi : i < σ.length
  · rw [List.getElem?_append_left hi] at a
    refine o.acc i s l b ?_
    rw [a]
    cases s with
    | look cs => cases cs with
      | nil => cases c
      | cons _ _ => cases c1
    | _ => exact c
  · have hm : s ∈ δ.drop n := by
      refine List.mem_of_getElem? (i := i - n) ?_
      rw [List.getElem?_drop, ← b]
      congr 1
      omega
    have c2 := List.all_eq_true.mp t2 s hm
    cases s with
    | heap cs => exact o.acc i _ l b c
    | look cs => cases cs with
      | nil => cases c
      | cons _ _ => cases c1
    | no => exact c.elim
    | _ => cases c2
/-- an object behind the back is written -/
theorem Ok.poke {n : Nat} {o0 own : Addr → Bool} {σ : L2.St} {H Hb : Hp} {l : Addr} {u u' : HO} (t : tidy n δ = true) (hn : σ.length = n) (o : Ok K (upd Hb l u) o0 own σ H δ) (hl : o0 l = true) : Ok K (upd Hb l u') o0 own σ (upd H l u') δ := by
  have hq := o.sub l hl
  refine ⟨o.sub, fun a ha => ?_, fun a h1 h2 => ?_, fun a z h => ?_, ?_, o.acc⟩
  · by_cases e : a = l
    · subst e; rw [upd_same]; exact fun z => nomatch z
    · rw [upd_ne e]; exact o.ow a ha
  · have e : a ≠ l := by rintro rfl; rw [hl] at h2; cases h2
    have := o.mine a h1 h2
    rw [upd_ne e] at this ⊢
    exact this
  · by_cases e : a = l
    · subst e; rw [upd_same] at h ⊢; exact h
    · rw [upd_ne e] at h ⊢
      exact o.ex a z (by rw [upd_ne e]; exact h)
  · obtain ⟨γ, z⟩ := o.sl
    refine ⟨γ, z.to (fun l' h1 ⟨i, x, s, a, b, c⟩ => ⟨h1, fun ob h => ?_⟩) ?_⟩
    · have e : l' ≠ l := by
        rintro rfl
        rw [tidy_has t hn o a b c] at hl
        cases hl
      rw [upd_ne e]; exact h
    · rw [mask_upd_own hq]
      exact Ex.refl _
theorem wipeS_get {j : Nat} : ∀ {vs : List Nat}, (wipeS δ vs)[j]? = if j ∈ vs ∧ j < δ.length then some .no else δ[j]?
  | [] => by simp [wipeS]
  | v :: vs => by
    have hl : ∀ vs : List Nat, (wipeS δ vs).length = δ.length := fun vs => by
      induction vs with
      | nil => rfl
      | cons v vs ih => show ((wipeS δ vs).set v .no).length = _; rw [List.length_set, ih]
    show ((wipeS δ vs).set v .no)[j]? = _
    rw [List.getElem?_set, hl, wipeS_get (vs := vs)]
    by_cases h1 : v = j
    · subst h1
      by_cases h2 : v < δ.length
      · simp [h2]
      · have : δ[v]? = none := by simp; omega
        simp [h2, this]
    · have h1' : ¬ j = v := fun z => h1 z.symm
      simp [h1, h1']
theorem Ok.wipe {o0 own : Addr → Bool} {σ : L2.St} {H Hb : Hp} (o : Ok K Hb o0 own σ H δ) (vs : List Nat) : Ok K Hb o0 own (L2.wipe σ vs) H (wipeS δ vs) :=
  ⟨o.sub, o.ow, o.mine, o.ex, o.sl.wipe vs, fun i s l a b => by
    rw [wipeS_get] at a
    split at a
    · cases a; exact b.elim
    · rename_i hn
      refine o.acc i s l a ?_
      rw [wipe_get] at b
      split at b
      · rename_i hw
        have : ¬ i < δ.length := fun z => hn ⟨hw.1, z⟩
        rw [List.getElem?_eq_none (by omega)] at a
        cases a
      · exact b⟩
theorem Ok.unwipe {o0 own : Addr → Bool} {σ : L2.St} {H Hb : Hp} {vs : List Nat} (e : wipeS δ vs = δ) (o : Ok K Hb o0 own (L2.wipe σ vs) H δ) : Ok K Hb o0 own σ H δ := by
  have hno : ∀ {j : Nat} {s : Slot}, j ∈ vs → δ[j]? = some s → s = .no := fun {j s} h1 h2 => by
    rw [← e, wipeS_get] at h2
    by_cases hj : j < δ.length
    · rw [if_pos ⟨h1, hj⟩] at h2
      exact (Option.some.inj h2).symm
    · rw [if_neg (fun z => hj z.2), List.getElem?_eq_none (by omega)] at h2
      cases h2
  have look : ∀ {j : Nat} {γ : List (Option V)} {x : Option V}, j ∉ vs → (σ ++ γ)[j]? = some x → (L2.wipe σ vs ++ γ)[j]? = some x := fun {j γ x} h1 h2 => by
    by_cases hj : j < σ.length
    · rw [List.getElem?_append_left hj] at h2
      rw [List.getElem?_append_left (by rw [L2.wipe_length]; exact hj), wipe_get, if_neg (fun z => h1 z.1)]
      exact h2
    · rw [List.getElem?_append_right (by omega)] at h2
      rw [List.getElem?_append_right (by rw [L2.wipe_length]; omega), L2.wipe_length]
      exact h2
  refine ⟨o.sub, o.ow, o.mine, o.ex, ?_, fun i s l a b => ?_⟩
  · obtain ⟨γ, z⟩ := o.sl
    refine ⟨γ, by rw [List.length_append, ← z.len, List.length_append, L2.wipe_length], fun i x s a b => ?_, fun i j x y s t l ij a b c d e1 f => ?_⟩
    · by_cases hi : i ∈ vs
      · rw [hno hi b]; trivial
      · exact z.ok i x s (look hi a) b
    · by_cases hi : i ∈ vs
      · rw [hno hi c] at e1; exact e1
      · by_cases hj : j ∈ vs
        · rw [hno hj d] at f; exact f
        · exact z.sep i j x y s t l ij (look hi a) (look hj b) c d e1 f
  · by_cases hi : i ∈ vs
    · rw [hno hi a] at b; exact b.elim
    · refine o.acc i s l a ?_
      rw [wipe_get, if_neg (fun z => hi z.1)]
      exact b
/-- an object behind the back is one's own no more -/
theorem Ok.leave {n : Nat} {o0 own : Addr → Bool} {σ : L2.St} {H Hb : Hp} {l : Addr} {u : HO} (t : tidy n δ = true) (hn : σ.length = n) (o : Ok K (upd Hb l u) (addOwn o0 l) own σ H δ) (h0 : o0 l = false) (hb : Hb l = none) :
    Ok K Hb o0 (fun a => own a && !(a == l)) σ H δ := by
  have le : Ex (mask own H) (mask (fun a => own a && !(a == l)) H) := mask_mono fun a z => (Bool.and_eq_true_iff.mp z).1
  refine ⟨fun a ha => ?_, fun a ha => o.ow a (Bool.and_eq_true_iff.mp ha).1, fun a h1 h2 => ?_, fun a z h => ?_, ?_, fun i s l' a b => ?_⟩
  · have e : a ≠ l := by rintro rfl; rw [ha] at h0; cases h0
    simp [o.sub a (addOwn_old ha), e]
  · obtain ⟨h3, h4⟩ := Bool.and_eq_true_iff.mp h1
    have e : a ≠ l := by simpa using h4
    have := o.mine a h3 (by unfold addOwn; simp [h2, e])
    rw [upd_ne e] at this
    exact this
  · have e : a ≠ l := by rintro rfl; rw [hb] at h; cases h
    exact o.ex a z (by rw [upd_ne e]; exact h)
  · obtain ⟨γ, z⟩ := o.sl
    refine ⟨γ, z.to (fun l' h1 ⟨i, x, s, a, b, c⟩ => ⟨?_, fun _ h => h⟩) le⟩
    have := tidy_has t hn o a b c
    have e : l' ≠ l := by rintro rfl; rw [addOwn_self] at this; cases this
    simp [h1, e]
  · have := o.acc i s l' a b
    unfold addOwn at this
    exact (Bool.or_eq_false_iff.mp this).1
end
section
variable {M : Md} {X : Cx} {W : WX} {k : Nat} {Nm : List Str} {sc : Scope} {δ δ' δ1 : List Slot} {e a b d2 o i' f : Expr} {es : List Expr} {pos p apos : Pos} {x m : Str} {K : Fr} {st : Stmt} {rest : List Stmt}
theorem dx_lc (c : Ct M X W k Nm sc) {P : D → List Slot → Prop} {PX : Xd → List Slot → Prop} {tg iter elt : Expr} {kd : ScopeKind} {ns : List (Str × NameKind)} {ge co : Bool} {mo : List (Str × Const)} {own : List (Str × Nat)} (hb : blkC Nm sc (Scope.mk kd ns ge co mo) own = true) (I : Nat → List D → List Slot → Prop)
    (hI : ∀ i ys δi, I i ys δi → tidy Nm.length δi = true ∧ wipeS δi (own.map (·.2)) = δi) (h0 : I 0 [] δ)
    (h : DI X W tg iter δ (fun ds => ds.length ≤ 100000 ∧ (∀ i d ys δi, ds[i]? = some d → I i ys δi → ys.length = i → ∃ δ2 T, DG M Nm (Scope.mk kd ns ge co mo) tg d δi δ2 T ∧ (∀ j ∈ T, j ∈ own.map (·.2)) ∧ ∀ X', Ct M X' W0 k Nm (Scope.mk kd ns ge co mo) → DX X' W0 elt δ2 (fun y δ3 => I (i + 1) (ys ++ [y]) (wipeS δ3 (own.map (·.2)))) (fun _ _ => False)) ∧
      ∀ ys δn, ys.length = ds.length → I ds.length ys δn → P (.lst ys) δn) (fun x => PX x δ)) (hs : ∀ x, foldedSetIterable iter X.env x = pure x := by intro _; rfl) :
    DX X W (.ListComp elt [⟨tg, iter, [], 0⟩] (Scope.mk kd ns ge co mo) pos) δ P PX := by
  intro Hb o0 own0 σ H Q o w q pins s Iv
  have hlen : σ.length = Nm.length := by rw [Iv.len, c.hN]
  revert pins s Iv
  show semE X _ σ H Q
  have hkd := kind_of_blk hb
  refine sem_pe (pe_lc c.calm c.nd pi_sem (c.blk _ _ hb) pg_blk pts_blk pe_blk hs) ?_
  have S : Sy X.K W own0 σ H δ (fun x => PX x δ) := ⟨o.ow, o.sl, w own0 H δ o⟩
  refine h σ H own0 _ S fun ds J H1 ⟨hz, body, fin⟩ e1 wk => ?_
  intro l hl
  have o1 := o.mono e1
  have hlo : own0 l = false := not_own o1.ow hl
  have h0l : o0 l = false := by
    cases hc : o0 l with
    | false => rfl
    | true => rw [o.sub l hc] at hlo; cases hlo
  have hbl : ∀ {H'' : Hp}, Ex H'' H1 → H'' l = none := fun e => e.free hl
  have wl : ∀ vs : List Nat, (L2.wipe σ vs).length = Nm.length := fun vs => by rw [L2.wipe_length]; exact hlen
  let Hf := fixedH own0 o0 H1
  let vs := own.map (·.2)
  have hfl : Hf l = none := hbl fixedH_le
  -- the state at the start
  have oF : Ok X.K Hf o0 own0 (L2.wipe σ vs) H1 δ := by
    have := o1.fix.wipe vs
    rw [(hI 0 [] δ h0).2] at this
    exact this
  have start : Ok X.K (upd Hf l (.lst [])) (addOwn o0 l) (addOwn own0 l) (L2.wipe σ vs) (upd H1 l (.lst [])) δ := by
    refine ⟨fun a ha => ?_, fun a ha => ?_, fun a h1 h2 => ?_, fun a u z => ?_, ?_, fun i s l' a b => ?_⟩
    · unfold addOwn at ha ⊢
      rcases Bool.or_eq_true_iff.mp ha with h | h
      · rw [oF.sub a h]; rfl
      · rw [h, Bool.or_true]
    · by_cases e : a = l
      · subst e; rw [upd_same]; exact fun z => nomatch z
      · rw [upd_ne e]
        refine oF.ow a ?_
        unfold addOwn at ha
        simpa [e] using ha
    · have e : a ≠ l := by rintro rfl; rw [addOwn_self] at h2; cases h2
      rw [upd_ne e]
      unfold addOwn at h1 h2
      exact oF.mine a (by simpa [e] using h1) (by simpa [e] using h2)
    · by_cases e : a = l
      · subst e; rw [upd_same] at z ⊢; exact z
      · rw [upd_ne e] at z ⊢; exact oF.ex a u z
    · exact oF.sl.add (Ex.new hl) hl
    · have h1 := oF.acc i s l' a b
      have e : l' ≠ l := by
        rintro rfl
        obtain ⟨γ, z⟩ := oF.sl
        have lt : i < (L2.wipe σ vs ++ γ).length := by rw [z.len]; exact (List.getElem?_eq_some_iff.mp a).1
        have hh : s.has ((L2.wipe σ vs ++ γ)[i]'lt) l' := by
          by_cases hi : i < (L2.wipe σ vs).length
          · have e2 : (L2.wipe σ vs)[i]? = some ((L2.wipe σ vs ++ γ)[i]'lt) := by
              rw [List.getElem?_eq_getElem hi, List.getElem_append_left hi]
            rw [e2] at b
            exact Slot.hasW_has b
          · rw [List.getElem?_eq_none (by omega)] at b
            cases s with
            | heap cs => exact b
            | look cs => exact b.elim
            | no => exact b.elim
            | val d => exact b.elim
            | acc d => cases b
            | adi d => cases b
            | ins l2 C fs => cases b
        have := (z.ok i _ s (List.getElem?_eq_getElem lt) a).own hh
        rw [hlo] at this; cases this
      unfold addOwn
      simp [h1, e]
  refine ⟨fun i mm H' => mm = ds.length - i ∧ i ≤ ds.length ∧ ∃ own' δi ys acc, I i ys δi ∧ ys.length = i ∧ Ok X.K (upd Hf l (.lst acc)) (addOwn o0 l) own' (L2.wipe σ vs) H' δi ∧ RepL X.K (mask own' H') ys acc, ⟨ds.length, by simp, Nat.zero_le _, _, δ, [], [], h0, rfl, start, rfl⟩, ?_⟩
  rintro i mm H' ⟨rfl, hi, own', δi, ys, acc, hIi, hyl, o', r⟩
  have still : Ex (mask own0 H1) (mask own' H') := fun a u ha => by
    have q1 : own0 a = false := by
      cases qq : own0 a with
      | false => rfl
      | true => unfold mask at ha; rw [if_pos qq] at ha; cases ha
    have q2 : H1 a = some u := mask_le a u ha
    have ne : a ≠ l := by rintro rfl; rw [hl] at q2; cases q2
    have q3 : upd Hf l (.lst acc) a = some u := by
      rw [upd_ne ne]
      show fixedH own0 o0 H1 a = some u
      unfold fixedH
      rw [q1]; exact q2
    unfold mask
    rw [if_neg ?_]
    · exact o'.ex a u q3
    · intro z
      cases q4 : addOwn o0 l a with
      | true =>
        unfold addOwn at q4
        have : o0 a = true := by simpa [ne] using q4
        rw [o.sub a this] at q1; cases q1
      | false => rw [o'.mine a z q4] at q3; cases q3
  obtain ⟨wk1, wk2⟩ := wk own' H' o'.ow still
  have hL : H' l = some (.lst acc) := o'.ex l _ upd_same
  by_cases hlt : i < ds.length
  · have hd : ds[i]? = some ds[i] := by simp [hlt]
    obtain ⟨go, yld⟩ := wk1 i _ hd
    obtain ⟨δ2, T, ⟨gg, g1, g2⟩, hT, hbd⟩ := body i ds[i] ys δi hd hIi hyl
    refine .inr ⟨go, fun H3 => ∃ own' δi ys acc, I (i + 1) ys δi ∧ ys.length = i + 1 ∧ Ok X.K (upd Hf l (.lst acc)) (addOwn o0 l) own' (L2.wipe σ vs) H3 δi ∧ RepL X.K (mask own' H3) ys acc, fun H3 h3 => ⟨ds.length - (i + 1), by omega, rfl, hlt, h3⟩, fun y H2 hy => ?_⟩
    obtain ⟨e2, ry⟩ := yld y H2 hy
    have o2 := o'.mono e2
    have S2 := o2.sl
    rw [c.hK] at S2 ry
    intro X' hX pins s u Iv ru
    refine (g1 X' W0 k (hX.ct c hkd)).run pins s _ H2 y u _ Iv ru (g2 y _ H2 own' (addOwn o0 l) _ S2 o2.acc ry fun σ3 S3 a3 but => ⟨?_, ?_⟩)
    · exact (wipe_but but hT).trans wipe_wipe
    · intro X3 hX3
      have c3 := hX3.ct c hkd
      have o3 : Ok M.K (upd Hf l (.lst acc)) (addOwn o0 l) own' σ3 H2 δ2 := ⟨o2.sub, o2.ow, o2.mine, o2.ex, S3, a3⟩
      have S3' : Sy X3.K W0 own' σ3 H2 δ2 X0 := ⟨o3.ow, by rw [c3.hK]; exact S3, wish0⟩
      refine dts_nil (X := X3) (P := fun b => b = true) rfl σ3 H2 own' _ S3' fun bb H4 hq1 e4 => ?_
      cases bb with
      | true =>
        rw [if_pos rfl]
        intro X5 hX5
        have c5 := hX5.ct c hkd
        have o5 : Ok X5.K (upd Hf l (.lst acc)) (addOwn o0 l) own' σ3 H4 δ2 := by rw [c5.hK]; exact o3.mono e4
        refine hbd X5 c5 _ (addOwn o0 l) own' σ3 H4 _ o5.fix (fun _ _ _ _ => wish0) fun d v own5 H5 δ3 hd5 o6 r5 => ?_
        have o7 := o6.unfix o5.fixEx
        have hL5 : H5 l = some (.lst acc) := o7.ex l _ upd_same
        have st : Ex (mask own' H4) (mask own5 H5) := Ok.still (Hb := upd Hf l (.lst acc)) o5.sub o6
        obtain ⟨ti, wi⟩ := hI _ _ _ hd5
        have o8 : Ok X.K (upd Hf l (.lst acc)) (addOwn o0 l) own5 (L2.wipe σ vs) H5 (wipeS δ3 vs) := by
          have := o7.wipe vs
          rw [wipe_but but hT, wipe_wipe] at this
          rw [c.hK, ← c5.hK]
          exact this
        refine ⟨acc, hL5, by rw [r.length, sizeLine_eq]; omega, own5, wipeS δ3 vs, ys ++ [d], acc ++ [v], hd5, by simp [hyl], o8.poke ti (wl vs) addOwn_self, ?_⟩
        rw [mask_upd_own (o8.sub l addOwn_self)]
        have r' := (r.mono (mask_ex (e2.trans e4))).mono st
        refine r'.append (RepL.one ?_)
        rw [c.hK, ← c5.hK]
        exact r5
      | false => cases hq1
  · have e2 : i = ds.length := by omega
    subst e2
    obtain ⟨ti, wi⟩ := hI _ _ _ hIi
    refine .inl ⟨wk2 _ (Nat.le_refl _), ?_⟩
    have oE := o'.leave ti (wl vs) h0l hfl
    have oE2 := (oE.unwipe wi).unfix o1.fixEx
    refine q (.lst ys) (.ref l) _ H' δi (fin ys δi hyl hIi) oE2 ⟨l, acc, rfl, SqL.of ?_, r.mono (mask_mono fun a z => (Bool.and_eq_true_iff.mp z).1)⟩
    show (if (own' l && !(l == l)) = true then none else H' l) = _
    rw [show (own' l && !(l == l)) = false by simp, if_neg Bool.false_ne_true]
    exact hL
end
end PV

set_option Elab.async false
set_option linter.all false
set_option maxRecDepth 100000
set_option maxHeartbeats 4000000
/-! PV50: a, b = e, f with plain names -/
namespace PV
open PySem PySem.Spec PyProof.Rows L2
theorem sw_par {env : Env} {x y : Str} {px py pt pt2 : Pos} {kt k2 : Nat} {a b : Expr} (hk : env.scope.kind = .function) (hx : env.scope.names.lookup x = some .local) (hy : env.scope.names.lookup y = some .local) (hl : (px.line == py.line) = true) (hxy : ([x, y].eraseDups.length != 2) = false)
    (v1 : ([a, b].any fun | .Starred .. => true | _ => false) = false) (v2 : [a, b].all (foldedForSure 8) = false) (v3 : [a, b].all (constantsAlone 8) = false) :
    swappedStores [.Tuple [.Name x px, .Name y py] kt pt] (.Tuple [a, b] k2 pt2) env = pure (some [x, y]) := by
  have k1 : (env.blockKind != ScopeKind.function) = false := by
    unfold Env.blockKind
    rw [hk]; rfl
  have kx : env.kindOf x = some .local := hx
  have ky : env.kindOf y = some .local := hy
  have hl2 : (py.line == px.line) = true := by
    have := (beq_iff_eq).mp hl
    rw [this]; exact beq_self_eq_true _
  have b1 : (some NameKind.local == some NameKind.local) = true := rfl
  unfold swappedStores
  simp only [List.length_cons, List.length_nil, k1, v2, v3, List.filterMap_cons, List.filterMap_nil, List.head?_cons, Option.map_some, Option.getD_some, Expr.pos, kx, ky, hl2, b1, beq_self_eq_true, Bool.and_true, Bool.true_and, if_true]
  rw [if_neg (by decide)]
  rw [if_neg ?_]
  rotate_left
  · intro z
    exact absurd (v1.symm.trans z) (by decide)
  have hxy' : ([x, y].eraseDups.length != 0 + 1 + 1) = false := hxy
  rw [hxy']
  rfl
section
variable {M : Md} {X : Cx} {W : WX} {k : Nat} {Nm : List Str} {sc : Scope} {δ δ' δ1 : List Slot} {e a b d2 o i' f : Expr} {es : List Expr} {pos p apos : Pos} {x y m : Str} {K : Fr} {st : Stmt} {rest : List Stmt}
variable {N : List Slot → Prop} {R : D → List Slot → Prop} {B C : List Slot → Prop} {PX : Xd → List Slot → Prop}
theorem ds_par (c : Ct M X W k Nm sc) {i j : Nat} {s0 s1 : Slot} {px py pt pt2 : Pos} {kt k2 : Nat} (hx : At Nm δ x i s0) (hy : At Nm δ y j s1) (lx : sc.names.lookup x = some .local) (ly : sc.names.lookup y = some .local)
    (h : DA X W [a, b] δ (fun ds => ∃ d e δ1 δ', ds = [d, e] ∧ Put Nm δ x (.val d) i δ1 ∧ Put Nm δ1 y (.val e) j δ' ∧ N δ') (fun x => PX x δ)) (hij : i ≠ j := by decide)
    (hl : (px.line == py.line) = true := by rfl) (hxy : ([x, y].eraseDups.length != 2) = false := by decide +kernel) (v1 : ([a, b].any fun | .Starred .. => true | _ => false) = false := by rfl) (v2 : [a, b].all (foldedForSure 8) = false := by rfl) (v3 : [a, b].all (constantsAlone 8) = false := by rfl)
    (hs : swapsWithSole [.Tuple [.Name x px, .Name y py] kt pt] (.Tuple [a, b] k2 pt2) pos.line X.env = pure false := by rfl) :
    DS X W (.Assign [.Tuple [.Name x px, .Name y py] kt pt] (.Tuple [a, b] k2 pt2) pos) δ N R B C PX := fun Hb o0 own D' σ H ok g => by
  refine sem_ps (ps_par c.calm c.nd (by rw [c.hN]; exact hx.N) (by rw [c.hN]; exact hy.N) hij (c.lcl _ lx) (c.lcl _ ly) pa_sem (sw_par c.kind (c.lcl _ lx) (c.lcl _ ly) hl hxy v1 v2 v3) hs) ?_
  refine h σ H own _ (ok.sy g) fun ds vs H1 ⟨d, e, δ1, δ', hd, p1, p2, hn⟩ e1 r => ?_
  subst hd
  obtain ⟨v, t, rfl, r1, w, t2, rfl, r2, rfl⟩ := r
  refine ⟨v, w, rfl, g.nx own _ H1 δ' hn ?_⟩
  rw [p2.S, p1.S]
  exact ((ok.mono e1).put i r1).put j r2
end
end PV

set_option Elab.async false
set_option linter.all false
set_option maxRecDepth 100000
set_option maxHeartbeats 4000000
/-! PV51: a written dict's item; f(..) whose answer is a new list -/
namespace PV
open PySem PySem.Spec PyProof.Rows L2
section
variable {M : Md} {X : Cx} {W : WX} {k : Nat} {Nm : List Str} {sc : Scope} {δ δ' δ1 : List Slot} {e a b d2 o i' f : Expr} {es : List Expr} {pos p apos : Pos} {x y m : Str} {K : Fr} {st : Stmt} {rest : List Stmt} {P : D → Prop} {PX : Xd → Prop}
/-- d[k], d a dict of the module's -/
theorem de_ixKD (c : Ct M X W k Nm sc) (h : DE X W a δ (fun x => DE X W b δ (fun y => ∃ q z r d, x = .opq (.ref q) ∧ y = .str z ∧ KDct M.K M.w q z r ∧ (∀ H, Rep M.K H d r) ∧ P d) PX) PX) (hs : PlainIx b := by intro _ _; rfl) : DE X W (.Subscript a b pos) δ P PX := by
  refine de_mk (pe_ix ix_kdict pe_sem pe_sem hs) (we_op (r := rIxD X.K X.w) ?_)
  refine WE.imp h fun x hx => WE.imp hx fun y ⟨q, z, r, d, e1, e2, kd, hr, p⟩ => ?_
  subst e1; subst e2
  intro v w H own Q ow r1 r2 q'
  refine ⟨q, z, r, r1, r2, by rw [c.hK, c.hw]; exact kd, q' d r H p (Ex.refl H) (by rw [c.hK]; exact hr _)⟩
structure LfOk (M : Md) (j : Nat) (x : Str) (n : Nat) (F : PhiL) : Prop where
  ex : ∃ f fd ps, FnOk M.P M.w M.K M.mg M.base (L2.CX M.P M.w) j f fd ps (spL M.K n F) ∧ M.mg x = some (.ref f) ∧ PySem.W.keepIn M.K (.ref f) = true ∧ Binds M.K fd ps []
/-- f(e, ..): a new list -/
theorem df_callL {P : List D → Prop} {j n : Nat} {F : PhiL} (c : Ct M X W k Nm sc) (f : LfOk M j x n F) (hj : j ≤ k) (hg : GlS sc x) (h : DA X W (e :: es) δ (fun ds => ds.length = n ∧ F ds P PX) PX)
    (hdb : (x == ("__debug__" : Str)) = false := by decide) (he : starEach (e :: es) X.env = (false, eval e X.env) :: starEach es X.env := by rfl) (hpl : (backTo pos (starEach es X.env)).any (·.1) = false := by rfl) : DF X W (.Call (.Name x p) (e :: es) [] pos) δ P PX := by
  obtain ⟨f, fd, ps, G, hm, hk, hb⟩ := f.ex
  rw [← c.hP, ← c.hw, ← c.hK, ← c.hmg, ← c.hb] at G
  rw [← c.hK] at hk hb
  rw [← c.hmg] at hm
  intro σ H own Q S q
  refine sem_pe (pe_callS G (c.room.mono hj) (c.gl _ hg) hm hk hb (fun σ => passAt c.tk σ) pa_sem hdb he hpl) ?_
  refine h σ H own _ S fun ds vs H1 ⟨hl, hF⟩ e1 r => ?_
  have S1 := S.mono e1
  exact ⟨own, ds, P, PX, S1.ow, r, hl, hF, fun ys l us H' p e3 hl' g3 r3 => q ys l us H' p (e1.trans e3) (e1.free hl') g3 r3, S1.wi⟩
end
end PV
namespace PV
open PySem PySem.Spec PyProof.Rows L2
section
variable {M : Md} {X : Cx} {W : WX} {k : Nat} {Nm : List Str} {sc : Scope} {δ δ' δ1 : List Slot} {e a b d2 o i' f : Expr} {es : List Expr} {pos p apos : Pos} {x y m : Str} {K : Fr} {st : Stmt} {rest : List Stmt} {P : D → Prop} {PX : Xd → Prop}
/-- x[b], x a list that may be read -/
theorem de_ixS (h : DE X W a δ (fun x => ∃ q ds, x = .opq (.ref q) ∧ See δ q (.lst ds) ∧ DE X W b δ (fun y => ∃ j d, y = .int j ∧ atI ds j = some d ∧ P d) PX) PX) (hs : PlainIx b := by intro _ _; rfl) : DE X W (.Subscript a b pos) δ P PX := by
  refine de_mk (pe_ix ix_list pe_sem pe_sem hs) ?_
  intro σ H own Q S q
  refine h σ H own _ S fun x v H1 ⟨q0, ds, hx, hsee, h2⟩ e1 r => ?_
  subst hx
  obtain rfl : v = .ref q0 := r
  refine h2 σ H1 own _ (S.mono e1) fun y w H2 ⟨j, d, hy, hj, p⟩ e2 r2 => ?_
  subst hy
  obtain ⟨_, vs, g1, g2⟩ := (S.mono (e1.trans e2)).sl.see hsee
  obtain ⟨u, hu, ru⟩ := g2.atI hj
  exact ⟨q0, vs, j, u, rfl, r2, SqL.of g1, hu, q d u H2 p (e1.trans e2) ru⟩
theorem RepL.maps {α : Type} {H : Hp} {f : α → D} {g : α → V} (h : ∀ x, Rep K H (f x) (g x)) : ∀ xs : List α, RepL K H (xs.map f) (xs.map g)
  | [] => rfl
  | x :: xs => ⟨g x, _, rfl, h x, RepL.maps h xs⟩
/-- list(range(n)) -/
theorem df_listRg {P : List D → Prop} {p2 q : Pos} (c : Ct M X W k Nm sc) (hg : GlS sc "list") (hm : Bi M "list") (hg2 : GlS sc "range") (hm2 : Bi M "range") (h : DE X W a δ (fun d => ∃ n : Int, d = .int n ∧ 0 ≤ n ∧ n ≤ 100000 ∧ P (rangeD 0 n.toNat)) PX)
    (na : starEach [a] X.env = (false, eval a X.env) :: starEach [] X.env := by rfl) (nb : starEach [.Call (.Name "range" p2) [a] [] q] X.env = (false, eval (.Call (.Name "range" p2) [a] [] q) X.env) :: starEach [] X.env := by rfl) : DF X W (.Call (.Name "list" p) [.Call (.Name "range" p2) [a] [] q] [] pos) δ P PX := by
  intro σ H own Q S q'
  refine sem_pe (pe_listRg c.calm (c.gl _ hg) (by rw [c.hmg]; exact hm) (prg_1 (c.gl _ hg2) (by rw [c.hmg]; exact hm2) pe_sem na) nb) ?_
  refine h σ H own _ S fun d v H1 ⟨n, hd, n0, n1, p⟩ e1 r => ?_
  subst hd
  refine ⟨n, r, RgOk.of_le (Int.le_refl 0) (by omega) (by decide) n0, fun l hl => ?_⟩
  refine q' _ l _ _ p (e1.trans (Ex.new hl)) (e1.free hl) upd_same ?_
  have e : (n - 0).toNat = n.toNat := by rw [Int.sub_zero]
  unfold rgV
  rw [e]
  exact RepL.maps (f := fun (i : Nat) => D.int (0 + (i : Int))) (g := fun (i : Nat) => V.int (0 + (i : Int))) (fun i => rfl) _
/-- return x, x an owned list, as a new list -/
theorem ls_retA {P : List D → Prop} {PX : Xd → List Slot → Prop} (c : Ct M X W k Nm sc) {i : Nat} {ds : List D} {p2 : Pos} (hx : At Nm δ x i (.acc ds)) (hv : Vis sc x) (p : P ds) (hd : (x == ("__debug__" : Str)) = false := by decide) (hcd : (x == ("__classdict__" : Str)) = false := by decide) : LSs X W [.Return (some (.Name x p2)) pos] δ P PX := by
  intro Hb o0 own D' σ H o g
  have hS : ∀ (I : Nat) , True := fun _ => trivial
  intro pins s I
  have hlen : σ.length = X.N.length := I.len
  revert pins s I
  refine sem_pss (pss_cons (ps_ret (pe_var (i := i) (by rw [c.hN]; exact hx.N) (c.vis _ hv) hd hcd)) pss_nil) ?_
  obtain ⟨y, h1, l, vs, rfl, h2, h3, r⟩ := o.sl.at (hx.lt c hlen) hx.S
  have h0 : o0 l = false := o.acc i _ l hx.S (by rw [h1]; rfl)
  refine ⟨_, h1, g.rt ds l vs H p o.ex (o.mine l h2 h0) h3 (r.mono (mask_mono fun a z => ?_))⟩
  unfold addOwn at z
  rcases Bool.or_eq_true_iff.mp z with z | z
  · exact o.sub a z
  · have : a = l := by simpa using z
    rw [this]; exact h2
end
end PV

set_option Elab.async false
set_option linter.all false
set_option maxRecDepth 100000
set_option maxHeartbeats 4000000
/-! PV52: owned lists by their address: popped, read as values from now on; parts of what is owned -/
namespace PV
open PySem PySem.Spec PyProof.Rows L2
theorem Split.app : ∀ (a b : List (Addr × Cell)), Split (a ++ b) a b
  | [], b => Split.rs b
  | z :: a, b => .l (Split.app a b)
theorem Split.mid (z : Addr × Cell) : ∀ (a b : List (Addr × Cell)), Split (a ++ z :: b) [z] (a ++ b)
  | [], b => .l (Split.rs b)
  | y :: a, b => .r (Split.mid z a b)
theorem Split.alls : ∀ cs : List (Addr × Cell), Split cs cs []
  | [] => .nil
  | _ :: t => .l (Split.alls t)
theorem Cput.app {q : Addr} {c : Cell} {b b' : List (Addr × Cell)} (h : Cput q c b b') : ∀ a : List (Addr × Cell), Cput q c (a ++ b) (a ++ b')
  | [] => h
  | _ :: a => .s (Cput.app h a)
theorem Cin.app {q : Addr} {c : Cell} {b : List (Addr × Cell)} (h : Cin q c b) : ∀ a : List (Addr × Cell), Cin q c (a ++ b)
  | [] => h
  | _ :: a => .s (Cin.app h a)
theorem Cin.appl {q : Addr} {c : Cell} {a : List (Addr × Cell)} (h : Cin q c a) (b : List (Addr × Cell)) : Cin q c (a ++ b) := by
  induction h with
  | z => exact .z
  | s _ ih => exact .s ih
section
variable {M : Md} {X : Cx} {W : WX} {k : Nat} {Nm : List Str} {sc : Scope} {δ δ' δ1 : List Slot} {e a b d2 o i' f : Expr} {es : List Expr} {pos p apos : Pos} {x y m : Str} {K : Fr} {st : Stmt} {rest : List Stmt}
theorem Sees.part {j : Nat} {cs c1 c2 : List (Addr × Cell)} (h : Hs δ j cs) (sp : Split cs c1 c2) : Sees δ c1 := fun z hz => by
  have : ∀ {cs : List (Addr × Cell)}, z ∈ cs → Cin z.1 z.2 cs := fun {cs} => by
    induction cs with
    | nil => exact fun h => nomatch h
    | cons y r ih =>
      intro h
      rcases List.mem_cons.mp h with rfl | h
      · exact .z
      · exact .s (ih h)
  exact .heap h (this ((sp.mem z).mpr (.inl hz)))
/-- x.pop(e), x an owned list by its address -/
theorem dx_popC {P : D → List Slot → Prop} {PX : Xd → List Slot → Prop} (c : Ct M X W k Nm sc) {j : Nat} {cs : List (Addr × Cell)} {q : Addr} {ds : List D} {cpos : Pos} (hh : Hs δ j cs) (m : Cin q (.lst ds) cs) (hz : ds.length < 100000) (ho : DE X W o δ (fun d => d = .opq (.ref q)) (fun x => PX x δ))
    (h : DX X W e δ (fun y δ1 => ∃ (i : Int) (d : D) (j1 : Nat) (cs1 cs2 : List (Addr × Cell)) (δ' : List Slot), y = .int i ∧ 0 ≤ i ∧ Hs δ1 j1 cs1 ∧ Cin q (.lst ds) cs1 ∧ ds[i.toNat]? = some d ∧ Cput q (.lst (ds.eraseIdx i.toNat)) cs1 cs2 ∧ Hput δ1 cs2 j1 δ' ∧ P d δ') PX)
    (hbase : attributeBase o "pop" X.env (eval o X.env) = eval o X.env := by rfl)
    (hfew : ((backTo cpos (starEach [e] X.env)).all (fun x => !x.1) && (backToKw cpos (keywordEach [] X.env)).all (fun x => x.1.isSome)
      && decide ([e].length + ([] : List Keyword).length + (if ([] : List Keyword).isEmpty then 0 else 1) < 30)) = true := by rfl)
    (hline : (apos.endLine == cpos.line) = true := by rfl) (hs : starEach [e] X.env = (false, eval e X.env) :: starEach [] X.env := by rfl) (hplain : (backTo cpos (starEach [] X.env)).any (·.1) = false := by rfl) :
    DX X W (.Call (.Attribute o "pop" apos) [e] [] cpos) δ P PX := by
  intro Hb o0 own σ H Q ok w q0
  refine sem_pe (pe_bm PySem.F.plainAttrs_list PySem.F.slot_list_pop PySem.F.type_list_pop mt_popAt pe_sem (pa_cons pe_sem pa_nil hs) hbase hfew hline hs hplain) ?_
  refine ho σ H own _ ⟨ok.ow, ok.sl, w own H δ ok⟩ fun d v H1 hd e1 r => ?_
  subst hd
  obtain rfl : v = .ref q := r
  have o1 := ok.mono e1
  obtain ⟨hq0, vs0, g01, g02⟩ := o1.sl.cell hh.S m
  refine ⟨.inl ⟨rfl, vs0, SqL.of g01⟩, ?_⟩
  refine h Hb o0 own σ H1 _ o1 (fun own' H' δ' o' => w own' H' δ' o') fun y v own1 H2 δ1 ⟨i, d, j1, cs1, cs2, δ', hy, i0, a1, a2, hi, w1, w2, p⟩ o2 r2 => ?_
  subst hy
  obtain rfl : v = .int i := r2
  obtain ⟨hq, vs, g1, g2⟩ := o2.sl.cell a1.S a2
  obtain ⟨t, ht, rt⟩ := g2.get hi
  have hlt := (List.getElem?_eq_some_iff.mp hi).1
  refine ⟨q, vs, i, i.toNat, t, rfl, rfl, g1, by omega, by omega, ?_, ht, ?_⟩
  · rw [g2.length]
    obtain ⟨i, rfl⟩ : ∃ n : Nat, i = n := ⟨i.toNat, by omega⟩
    simp only [Int.toNat_natCast] at hlt
    have e : (if (i : Int) < 0 then (i : Int) + (ds.length : Int) else (i : Int)) = (i : Int) := if_neg (by omega)
    unfold seqIndex?
    simp only [e]
    rw [if_pos (by rw [Bool.and_eq_true, decide_eq_true_iff, decide_eq_true_iff]; omega)]
  · refine q0 d t own1 _ δ' p ?_ ?_
    · rw [w2.S]
      refine o2.wrC a1.S w1 ⟨_, upd_same, ?_⟩
      rw [mask_upd_own hq]
      exact g2.eraseIdx _
    · rw [mask_upd_own hq]
      exact rt
theorem Ok.freezeC {Hb : Hp} {o0 own : Addr → Bool} {σ : L2.St} {H : Hp} {i : Nat} {q : Addr} {ds : List D} {cs cs' : List (Addr × Cell)} (ok0 : Ok K Hb o0 own σ H δ) (hi : δ[i]? = some (.heap cs)) (sp : Split cs [(q, .lst ds)] cs') :
    Ok K Hb o0 (fun a => own a && !(a == q)) σ H (δ.set i (.heap cs')) ∧ Rep K (mask (fun a => own a && !(a == q)) H) (.lst ds) (.ref q) := by
  obtain ⟨x, nd, hcs⟩ := ok0.sl.any hi
  obtain ⟨n1, n2, n3⟩ := sp.nd nd
  have le : Ex (mask own H) (mask (fun a => own a && !(a == q)) H) := mask_mono fun a z => (Bool.and_eq_true_iff.mp z).1
  have hqm : (q, Cell.lst ds) ∈ cs := (sp.mem _).mpr (.inl (List.mem_singleton.mpr rfl))
  obtain ⟨hq, vs, g1, g2⟩ := hcs _ hqm
  have hqc : q ∈ cs.map (·.1) := List.mem_map.mpr ⟨_, hqm, rfl⟩
  have q0 : o0 q = false := ok0.acc i _ q hi hqc
  have in2 : ∀ l, l ∈ cs'.map (·.1) → l ∈ cs.map (·.1) := fun l hl => by
    obtain ⟨z, hz, e⟩ := List.mem_map.mp hl
    exact List.mem_map.mpr ⟨z, (sp.mem z).mpr (.inr hz), e⟩
  have ne2 : ∀ l, l ∈ cs'.map (·.1) → l ≠ q := fun l hl e => n3 q (by simp) (e ▸ hl)
  refine ⟨?_, ⟨q, vs, rfl, SqL.of ?_, g2.mono le⟩⟩
  · have e := ok0.chg i (own' := fun a => own a && !(a == q)) (H' := H) (x' := (σ[i]?).getD none) (s' := .heap cs') (fun a ha => ?_) (fun a ha => ok0.ow a (Bool.and_eq_true_iff.mp ha).1) (fun a ha hb => ok0.mine a (Bool.and_eq_true_iff.mp ha).1 hb) ok0.ex ⟨n2, fun z hz => ?_⟩ (fun y s okx dis => ?_) (fun l' z y => ⟨_, hi, fun _ _ => in2 l' z⟩) (fun x0 l' z _ => ok0.acc i _ l' hi (in2 l' z))
    · rw [set_old] at e
      exact e
    · have : a ≠ q := by rintro rfl; rw [ha] at q0; cases q0
      simp [ok0.sub a ha, this]
    · have hm : z.1 ∈ cs'.map (·.1) := List.mem_map.mpr ⟨z, hz, rfl⟩
      obtain ⟨h1, h2⟩ := hcs z ((sp.mem z).mpr (.inr hz))
      refine ⟨?_, h2.to (fun _ h => h) le⟩
      have := ne2 _ hm
      simp [h1, this]
    · obtain ⟨x0, _, hd⟩ := dis _ hi
      refine okx.to (fun l hl ho => ⟨?_, fun _ h => h⟩) le
      have : l ≠ q := by rintro rfl; exact hd l hl hqc
      simp [ho, this]
  · show (if (own q && !(q == q)) = true then none else H q) = _
    rw [show (own q && !(q == q)) = false by simp, if_neg Bool.false_ne_true]
    exact g1
/-- an owned list by its address is a value from now on -/
theorem dss_freezeC {N : List Slot → Prop} {R : D → List Slot → Prop} {B C : List Slot → Prop} {PX : Xd → List Slot → Prop} (c : Ct M X W k Nm sc) {i j : Nat} {q : Addr} {ds : List D} {cs cs' : List (Addr × Cell)} (hh : Hs δ j cs) (sp : Split cs [(q, .lst ds)] cs') (hx : At Nm δ x i (.val (.opq (.ref q)))) (h : ∃ δ1 δ', Hput δ cs' j δ1 ∧ Put Nm δ1 x (.val (.lst ds)) i δ' ∧ DSs X W rest δ' N R B C PX) : DSs X W rest δ N R B C PX := by
  obtain ⟨δ1, δ', n1, n2, h⟩ := h
  intro Hb o0 own D' σ H o g pins sh I
  obtain ⟨o2, r2⟩ := o.freezeC hh.S sp
  refine h Hb o0 (fun a => own a && !(a == q)) D' σ H ?_ g pins sh I
  obtain ⟨v, h1, h2⟩ := o.sl.at (hx.lt c I.len) hx.S
  have hv : σ[i]? = some (some (.ref q)) := by
    obtain ⟨w, e1, e2⟩ := h2
    rw [h1, e1]
    have : w = V.ref q := e2
    rw [this]
  rw [n2.S, n1.S]
  have := o2.put (d := .lst ds) i r2
  rw [set_same hv] at this
  exact this
end
end PV

set_option Elab.async false
set_option linter.all false
set_option maxRecDepth 100000
set_option maxHeartbeats 3200000
/-! PV53: sorted(set(ns)), ns a list of whole numbers -/
namespace PVS
open PySem PySem.Spec PySem.Calls PyProof.Rows
section
variable {P : Program} {w : World} {A : Around} {E : Value → Shared → Prop} {s : Shared}
abbrev emptySet (w : World) : Obj := { cls := .type "set", dict := none, data := .set #[] 0 (.fresh 0 0 (!w.params.followText "set-order")) }
abbrev withSet (w : World) (s : Shared) : Shared := { s with heap := s.heap.push (emptySet w) }
/-- what the filling leaves behind -/
abbrev Filled (w : World) (s s2 : Shared) (ns : List Int) : Prop := ∃ h' tk c, s2 = { s with heap := h', toks := tk } ∧ L2.SetR w h' s.heap.objs.size (fun j => decide (j ∈ ns)) c ∧ c ≤ ns.length ∧ ∀ b o, s.heap.get? b = some o → h'.get? b = some o
theorem set_list {l : Addr} {xs : Array Value} {ns : List Int} {Q : Value → Shared → Prop} (calm : A.handled = none) (isl : s.heap.IsList l xs) (whole : IntsAre xs.toList ns) (few : ns.length + 1 < scanBound)
    (next : ∀ (h' : Heap) (tk c : Nat), L2.SetR w h' s.heap.objs.size (fun j => decide (j ∈ ns)) c → c ≤ ns.length → (∀ b o, s.heap.get? b = some o → h'.get? b = some o) → Q (.ref s.heap.objs.size) { s with heap := h', toks := tk }) :
    wpAny (model P w) A (call (.type "set") [.ref l]) Q E s := by
  have many : xs.size = ns.length := (Array.length_toList (xs := xs)).symm.trans (IntsAre.length whole)
  obtain ⟨_, _, way⟩ := F.called_set.mro
  have f1 := F.called_set.made
  have f2 := F.called_set.sub
  have f3 := F.called_set.notType
  have f4 := F.called_set.canCreate
  have f5 := F.typeCall_set_1 (.ref l)
  apply wpAny_call
  apply codeAny_of_tree
  change wpAny _ _ (callAny (Value.type "set") _) _ _ s
  apply wpAny_pure
  refine ⟨Code.quiet_builtin _ (by decide +kernel), ?_⟩
  apply codeAny_builtin F.entry_type_call
  rw [Around.under_plain (weight_type_call_type "set" [.ref l] []) (by rfl)]
  repeat (any_goals first | wp_step | assumption)
  refine codeAny_mono (L2.code_set_led1 (w := w) (.ref l) (E := E) (Q₁ := fun v s1 => v = .ref s.heap.objs.size ∧ s1 = withSet w s) ⟨rfl, rfl⟩) ?_
  rintro (e | fl) s1 got
  · exact got
  cases fl with
  | ret v =>
    obtain ⟨e1, e2⟩ := got
    subst e1 e2
    have new : (s.heap.push (emptySet w)).get? s.heap.objs.size = some (emptySet w) := Heap.get?_push_size _ rfl
    have isSet : Shared.TypeIs (withSet w s) (.ref s.heap.objs.size) "set" := ⟨emptySet w, new, rfl⟩
    have f6 := F.called_set.init.lookup
    have f7 := F.called_set.init.bind (.ref s.heap.objs.size)
    repeat (any_goals first | wp_step | assumption)
    refine codeAny_mono (codeAny_call_builtin (R := wants (fun v s2 => v = .none ∧ Filled w s s2 ns) E) F.called_set.init.plain F.entry_set_init (check_set_init_1 isSet ?_)) ?_
    · obtain ⟨⟨cl, dd, data, sl⟩, at_, k1, z, k2⟩ := isl
      have k1 : cl = .type "list" := k1
      have k2 : data = .seq xs z := k2
      subst k1 k2
      have at2 := Heap.get?_push_of_some (emptySet w) at_
      have isl2 : (s.heap.push (emptySet w)).IsList l xs := ⟨_, at2, rfl, z, rfl⟩
      have g1 := F.sub_list_set
      have g2 := F.sub_list_frozenset
      have g3 : (Value.type "list" == Value.type "dict") = false := by decide
      unfold Builtin.«set.__init__» Builtin.Frozenset.updateFrom noKeywords
      generalize io : pyIter = it
      wp_walk
      subst io
      apply wpAny_pyIter_list isl2
      apply wpAny_bind
      apply wpAny_runValue
      have low : l < s.heap.objs.size := Heap.lt_size at_
      have calm3 : A.in1.in1.in1.handled = none := by simp [calm]
      have one : (s.heap.push (emptySet w)).objs.size = s.heap.objs.size + 1 := Heap.size_push ..
      have apart : l ≠ (s.heap.push (emptySet w)).objs.size := fun z => Nat.ne_of_lt (Nat.lt_succ_of_lt low) (z.trans one)
      have out : s.heap.objs.size ∉ [(s.heap.push (emptySet w)).objs.size, l] := by
        intro m
        rcases List.mem_cons.mp m with m | m
        · exact Nat.ne_of_lt (Nat.lt_succ_self _) (m.trans one)
        · exact Nat.ne_of_lt low (List.mem_singleton.mp m).symm
      have item : ∀ (i : Nat) (v : Value), xs[i]? = some v → ∃ k t, ns[i]? = some k ∧ v = .int k t := by
        intro i v hv
        have hi : i < ns.length := many ▸ (Array.getElem?_eq_some_iff.mp hv).1
        obtain ⟨t, e⟩ := IntsAre.int_at whole i v (Array.getElem?_toList (xs := xs) ▸ hv)
        have e3 : ns.getD i 0 = ns[i] := by simp [hi]
        exact ⟨ns[i], t, List.getElem?_eq_getElem hi, e3 ▸ e⟩
      refine L2.set_update_ints ((Walks.list calm3 _ l apart xs).toS) s.heap.objs.size out ns many few item (xs.size - 0) 0 _ rfl (Nat.zero_le _) ⟨⟨_, Heap.get?_push_size _ rfl, rfl, rfl⟩, isl2.push _⟩ ?_ ?_
      · exact ⟨0, Nat.le_refl 0, L2.setR_new_at (Heap.get?_push_of_some _ new)⟩
      · rintro ⟨h', gs, ds, tk, os⟩ c ch hc R
        obtain rfl : gs = s.gens := ch.gens
        obtain rfl : ds = s.drawn := ch.drawn
        obtain rfl : os = s.os := ch.os
        apply wpAny_pure
        change wpAny _ _ (ret Value.none) _ _ _
        apply wpAny_pure
        refine ⟨rfl, h', tk, c, rfl, R, many ▸ hc, fun b o hb => ?_⟩
        have lt := Heap.lt_size hb
        refine ch.heap b o (fun m => ?_) (Heap.get?_push_of_some _ (Heap.get?_push_of_some _ hb))
        rcases List.mem_cons.mp m with m | m
        · exact Nat.ne_of_lt lt m
        · exact Nat.ne_of_lt (Nat.lt_succ_of_lt lt) ((List.mem_singleton.mp m).trans one)
    · rintro (e | fl2) s2 got2
      · exact got2
      cases fl2 with
      | ret v2 =>
        obtain ⟨e3, h', tk, c, e4, R, hc, keep⟩ := got2
        subst e3 e4
        repeat (any_goals first | wp_step | assumption)
        exact next h' tk c R hc keep
      | _ => exact got2.elim
  | _ => exact got.elim
end
end PVS
namespace PV
open PySem PySem.Spec PyProof.Rows L2
/-- what is asked of a list whose unlike members are put in order -/
def tSortSet (K : PySem.W.Frag) (ta : TE) : TE := fun σ H Q => ta σ H fun x G => ∃ (l : Addr) (ns : List Int), x = .ref l ∧ SqL K G l (ns.map V.int) ∧ ns.length < 64 ∧ ∀ (ms : List Int) (p : Addr), ms.Pairwise (· < ·) → (∀ k, k ∈ ms ↔ k ∈ ns) → G p = none → Q (.ref p) (upd G p (.lst (ms.map V.int)))
theorem pe_sortSet {X : Cx} {a : Expr} {ta : TE} {p p2 q pos : Pos} (g1 : Gl X "sorted") (m1 : X.mg "sorted" = none) (g2 : Gl X "set") (m2 : X.mg "set" = none) (ha : PE X a ta) (hc : X.calm = true)
    (one : starEach [a] X.env = (false, eval a X.env) :: starEach [] X.env := by rfl) : PE X (.Call (.Name "sorted" p) [.Call (.Name "set" p2) [a] [] q] [] pos) (tSortSet X.K ta) := by
  constructor
  intro pins s σ H Q I h
  refine Call_ (ld_blt I g1 m1 PyProof.Rows.boot_sorted (PyProof.Rows.callWith_builtin1 (PyProof.Rows.args_cons (Call_ (ld_blt I g2 m2 PyProof.Rows.boot_set (PyProof.Rows.callWith_type1 (PyProof.Rows.args_cons (thn (ha.run pins s σ H _ I h) ?_) one) one rfl))) rfl) rfl rfl))
  rintro v s1 ⟨x, G, inv, rel, l, ns, rfl, hq, hl, fin⟩
  cases rel
  obtain ⟨vals, rel, plain, _⟩ := inv.list hq
  refine PyProof.Rows.args_nil (PVS.set_list (ns := ns) (inv.ok.hd hc) plain.isList (by simpa using RZ.intsAre_vals rel) (Nat.lt_of_lt_of_le (Nat.succ_lt_succ hl) (by decide)) fun h' tk c R hcn keep => PyProof.Rows.args_nil ?_)
  have inv2 : L2.Inv X pins σ G { s1 with heap := h', toks := tk } := inv.kept keep
  refine L2.sorted_set R (inv.ok.hd hc) (by omega) fun s2 p out c2 ms kp hg ho hp hat hi hs hm hln => ?_
  have hn : G p = none := inv2.hok.fresh hp
  have fits : (ms.map V.int).length ≤ sizeLine := by rw [List.length_map, hln, sizeLine_eq]; omega
  exact ⟨.ref p, _, inv2.call' (H' := upd G p (.lst (ms.map V.int))) (ch := []) ho (Un.laid kp hp hn) (inv2.hok.laid (o := .lst (ms.map V.int)) kp hp ⟨fits, out.toList, c2, vals_of_ints hi, hat⟩) (hg ▸ inv2.bare) (fun _ z => nomatch z), rfl, fin ms p hs (fun k => (hm k).trans (by simp)) hn⟩
section
variable {M : Md} {X : Cx} {W : WX} {k : Nat} {Nm : List Str} {sc : Scope} {δ : List Slot} {a : Expr} {pos p : Pos} {P : D → Prop} {PX : Xd → Prop}
/-- sorted(set(ns)) -/
theorem de_sortSet {p2 q : Pos} (c : Ct M X W k Nm sc) (hg : GlS sc "sorted") (hm : Bi M "sorted") (hg2 : GlS sc "set") (hm2 : Bi M "set") (h : DE X W a δ (fun x => ∃ ns : List Int, x = .lst (ns.map .int) ∧ ns.length < 64 ∧ ∀ ms : List Int, ms.Pairwise (· < ·) → (∀ k, k ∈ ms ↔ k ∈ ns) → P (.lst (ms.map .int))) PX)
    (na : starEach [a] X.env = (false, eval a X.env) :: starEach [] X.env := by rfl) : DE X W (.Call (.Name "sorted" p) [.Call (.Name "set" p2) [a] [] q] [] pos) δ P PX := by
  refine de_mk (pe_sortSet (c.gl _ hg) (by rw [c.hmg]; exact hm) (c.gl _ hg2) (by rw [c.hmg]; exact hm2) pe_sem c.calm na) ?_
  intro σ H own Q S q
  refine h σ H own _ S fun x v H1 ⟨ns, hx, hl, p⟩ e1 r => ?_
  subst hx
  obtain ⟨l, ws, rfl, h1, h2⟩ := r
  rw [h2.ints] at h1
  exact ⟨l, ns, rfl, mask_le.sqL h1, hl, fun ms b h3 h4 hb => q _ _ _ (p ms h3 h4) (e1.trans (Ex.new hb)) (by
    rw [mask_new (S.mono e1).ow hb]
    exact ⟨b, _, rfl, SqL.of upd_same, RepL.ofInts ms⟩)⟩
end
end PV

set_option Elab.async false
set_option linter.all false
set_option maxRecDepth 100000
set_option maxHeartbeats 4000000
/-! PV54: owned dicts and lists within tuples, read and changed -/
namespace PV
open PySem PySem.Spec PyProof.Rows L2
section
variable {M : Md} {X : Cx} {W : WX} {k : Nat} {Nm : List Str} {sc : Scope} {δ δ' δ1 : List Slot} {P : D → Prop} {PX : Xd → Prop} {e a b d2 o f : Expr} {es : List Expr} {pos p apos cpos : Pos} {x m : Str} {K : Fr}
/-- a dict that may be read -/
theorem dr_seeD (h : DE X W e δ (fun d => ∃ q kvs, d = .opq (.ref q) ∧ See δ q (.dic kvs) ∧ P (.dic kvs)) PX) : DR X W e δ P PX := by
  intro σ H own Q S q'
  refine h σ H own _ S fun d v H2 ⟨q, kvs, hd, hs, p⟩ e2 r => ?_
  subst hd
  obtain rfl : v = .ref q := r
  obtain ⟨_, es, g1, g2⟩ := (S.mono e2).sl.see hs
  exact q' (.dic kvs) (.ref q) H2 p e2 ⟨q, es, rfl, g1, g2.mono mask_le⟩
/-- a tuple whose first is a list that may be read -/
theorem dr_tupsee (h : DE X W e δ (fun d => ∃ q ds r, d = .tup (.opq (.ref q) :: r) ∧ See δ q (.lst ds) ∧ P (.tup (.lst ds :: r))) PX) : DR X W e δ P PX := by
  intro σ H own Q S q'
  refine h σ H own _ S fun d v H2 ⟨q, ds, r, hd, hs, p⟩ e2 rr => ?_
  subst hd
  obtain ⟨a, vs, rfl, h1, v1, t, rfl, h2, h3⟩ := rr
  obtain rfl : v1 = .ref q := h2
  obtain ⟨_, ws, g1, g2⟩ := (S.mono e2).sl.see hs
  exact q' _ (.ref a) H2 p e2 ⟨a, _, rfl, mask_le.sqT h1, .ref q, t, rfl, ⟨q, ws, rfl, SqL.of g1, g2.mono mask_le⟩, h3.mono mask_le⟩
/-- d.get(k, z) -/
theorem de_kget2 (c : Ct M X W k Nm sc) (h : DK X W o δ (fun kvs => DE X W e δ (fun y => ∃ key : Key, y = keyD key ∧ DE X W f δ (fun z => P ((getK kvs key).getD z)) PX) PX) PX) (m : M2 X o "get" apos e f cpos := by exact ⟨rfl, rfl, rfl, rfl⟩) :
    DE X W (.Call (.Attribute o "get" apos) [e, f] [] cpos) δ P PX := by
  refine de_mk (pe_dget2 (by have := c.u64; omega) pe_sem pe_sem pe_sem m) ?_
  intro σ H own Q S q
  refine h σ H own _ S fun kvs a es' H1 h2 e1 g1 g2 => ⟨a, rfl, .inl ⟨es', .inl g1⟩, ?_⟩
  refine h2 σ H1 own _ (S.mono e1) fun y w H2 ⟨key, hk, hf⟩ e2 r => ?_
  subst hk
  rw [keyD_rep r]
  refine hf σ H2 own _ (S.mono (e1.trans e2)) fun z u H3 p e3 rz => ?_
  refine ⟨_, DGet.k (e3 _ _ (e2 _ _ g1)), ?_⟩
  have gk := g2.get (k := key)
  have e13 := e2.trans e3
  cases hg : getK kvs key with
  | none =>
    rw [gk.2 hg]
    rw [hg] at p
    exact q _ _ _ p (e1.trans e13) rz
  | some d =>
    obtain ⟨v, hv, rv⟩ := gk.1 d hg
    rw [hv]
    rw [hg] at p
    exact q _ _ _ p (e1.trans e13) (rv.mono (mask_ex e13))
/-- d.clear(), d an owned dict -/
theorem ds_clearD (c : Ct M X W k Nm sc) {j : Nat} {cs : List (Addr × Cell)} {q : Addr} {kvs : List (Key × D)} {N : List Slot → Prop} {R : D → List Slot → Prop} {B C : List Slot → Prop} {PX : Xd → List Slot → Prop} (hh : Hs δ j cs) (m : Cin q (.dic kvs) cs) (h : DE X W o δ (fun d => d = .opq (.ref q)) (fun x => PX x δ))
    (hn : ∃ cs' δ', Cput q (.dic []) cs cs' ∧ Hput δ cs' j δ' ∧ N δ')
    (hbase : attributeBase o "clear" X.env (eval o X.env) = eval o X.env := by rfl) (hline : (apos.endLine == cpos.line) = true := by rfl)
    (hsw : swapsWith (.Call (.Attribute o "clear" apos) [] [] cpos) none pos.line X.env = pure false := by rfl) :
    DS X W (.Expr (.Call (.Attribute o "clear" apos) [] [] cpos) pos) δ N R B C PX := fun Hb o0 own D' σ H ok g => by
  refine sem_ps (ps_expr (pe_dclear pe_sem hbase hline) hsw) ?_
  refine h σ H own _ (ok.sy g) fun d v H1 hd e1 r => ?_
  subst hd
  obtain rfl : v = .ref q := r
  have o1 := ok.mono e1
  obtain ⟨cs', δ', w1, w2, hN⟩ := hn
  obtain ⟨hq, vs, g1, g2⟩ := o1.sl.cell hh.S m
  refine ⟨.inr (.inr (.inl ⟨rfl, .inl ⟨vs, g1⟩⟩)), q, vs, rfl, rfl, g1, ?_⟩
  refine g.nx own σ _ δ' hN ?_
  rw [w2.S]
  exact o1.wrC hh.S w1 ⟨[], upd_same, rfl⟩
/-- o.append(e), o an owned list -/
theorem ds_appC (c : Ct M X W k Nm sc) {j : Nat} {cs : List (Addr × Cell)} {q : Addr} {ds : List D} {N : List Slot → Prop} {R : D → List Slot → Prop} {B C : List Slot → Prop} {PX : Xd → List Slot → Prop} (hh : Hs δ j cs) (m : Cin q (.lst ds) cs) (hz : ds.length < 100000)
    (h : DE X W o δ (fun d => d = .opq (.ref q) ∧ DE X W e δ (fun d => ∃ cs' δ', Cput q (.lst (ds ++ [d])) cs cs' ∧ Hput δ cs' j δ' ∧ N δ') (fun x => PX x δ)) (fun x => PX x δ))
    (hbase : attributeBase o "append" X.env (eval o X.env) = eval o X.env := by rfl)
    (hfew : ((backTo cpos (starEach [e] X.env)).all (fun x => !x.1) && (backToKw cpos (keywordEach [] X.env)).all (fun x => x.1.isSome)
      && decide ([e].length + ([] : List Keyword).length + (if ([] : List Keyword).isEmpty then 0 else 1) < 30)) = true := by rfl)
    (hline : (apos.endLine == cpos.line) = true := by rfl) (hs : starEach [e] X.env = (false, eval e X.env) :: starEach [] X.env := by rfl) (hplain : (backTo cpos (starEach [] X.env)).any (·.1) = false := by rfl)
    (hsw : swapsWith (.Call (.Attribute o "append" apos) [e] [] cpos) none pos.line X.env = pure false := by rfl) :
    DS X W (.Expr (.Call (.Attribute o "append" apos) [e] [] cpos) pos) δ N R B C PX := fun Hb o0 own D' σ H ok g => by
  refine sem_ps (ps_expr (pe_bm PySem.F.plainAttrs_list PySem.F.slot_list_append PySem.F.type_list_append mt_append pe_sem (pa_cons pe_sem pa_nil hs) hbase hfew hline hs hplain) hsw) ?_
  refine h σ H own _ (ok.sy g) fun d v H1 ⟨hd, h2⟩ e1 r => ?_
  subst hd
  obtain rfl : v = .ref q := r
  have o1 := ok.mono e1
  obtain ⟨hq, vs, g1, g2⟩ := o1.sl.cell hh.S m
  refine ⟨.inl ⟨rfl, vs, SqL.of g1⟩, ?_⟩
  refine h2 σ H1 own _ (o1.sy g) fun d v H2 ⟨cs', δ', w1, w2, hN⟩ e2 r2 => ?_
  have o2 := o1.mono e2
  refine ⟨q, vs, v, rfl, rfl, e2 _ _ g1, by rw [g2.length, sizeLine_eq]; omega, ?_⟩
  refine g.nx own σ _ δ' hN ?_
  rw [w2.S]
  refine o2.wrC hh.S w1 ⟨vs ++ [v], upd_same, ?_⟩
  rw [mask_upd_own hq]
  exact (g2.mono (mask_ex e2)).append (RepL.one r2)
end
end PV
namespace PV
open PySem PySem.Spec PyProof.Rows L2
section
variable {M : Md} {X : Cx} {W : WX} {k : Nat} {Nm : List Str} {sc : Scope} {δ δ1 : List Slot} {pos p : Pos} {x : Str} {N : List Slot → Prop} {R : D → List Slot → Prop} {B C : List Slot → Prop} {PX : Xd → List Slot → Prop}
/-- y = [.. for ..], a list of one's own from then on -/
theorem ds_celLcN (α : Type) (c : Ct M X W k Nm sc) {i j : Nat} {s0 : Slot} {p2 : Pos} {cs : List (Addr × Cell)} {tg iter elt : Expr} {ifs : List Expr} {kd : ScopeKind} {ns : List (Str × NameKind)} {ge co : Bool} {mo : List (Str × Const)} {own : List (Str × Nat)} (hh : Hs δ j cs) (hx : At Nm δ x i s0) (hl : sc.names.lookup x = some .local) (ho : OwnW ns Nm δ own δ1) (hb : blkC Nm sc (Scope.mk kd ns ge co mo) own = true)
    (h : DI X W tg iter δ (LcB M k Nm (Scope.mk kd ns ge co mo) own δ1 tg elt ifs α (fun ds => ∀ q, ∃ δ2 δ', Hput δ ((q, .lst ds) :: cs) j δ2 ∧ Put Nm δ2 x (.val (.opq (.ref q))) i δ' ∧ N δ')) (fun x => PX x δ)) (hs : ∀ x, foldedSetIterable iter X.env x = pure x := by intro _; rfl)
    (hp : (p2.line == p.line) = true := by rfl) (ha : (ns.any fun (n, k) => n == x && (k == .local || k == .cell)) = false := by decide +kernel) : DS X W (.Assign [.Name x p2] (.ListComp elt [⟨tg, iter, ifs, 0⟩] (Scope.mk kd ns ge co mo) p) pos) δ N R B C PX := fun Hb o0 own' D' σ H o g => by
  refine sem_ps (ps_setLc c.calm c.nd (by rw [c.hN]; exact hx.N) (c.lcl _ hl) (sw_true c.kind (c.lcl _ hl) hp ha) pi_sem (c.blk _ _ hb) pg_blk pts_blk pe_blk hs) ?_
  refine lc_read (α := α) (P := fun ds => ∀ q, ∃ δ2 δ', Hput δ ((q, .lst ds) :: cs) j δ2 ∧ Put Nm δ2 x (.val (.opq (.ref q))) i δ' ∧ N δ') c (kind_of_blk hb) ho.wp h (o.sy g) fun ds l vs H2 hN e hl' h2 r => ?_
  obtain ⟨δ2, δ', n1, n2, hn⟩ := hN l
  refine g.nx (addOwn own' l) _ _ δ' hn ?_
  rw [n2.S, n1.S]
  exact (o.newC (c := .lst ds) hh.S e hl' h2 ⟨vs, h2, r⟩).put i rfl
theorem ds_celLcR (α : Type) (c : Ct M X W k Nm sc) {i j : Nat} {s0 : Slot} {p2 : Pos} {cs : List (Addr × Cell)} {tg iter elt : Expr} {kd : ScopeKind} {ns : List (Str × NameKind)} {ge co : Bool} {mo : List (Str × Const)} {own : List (Str × Nat)} (hh : Hs δ j cs) (hx : At Nm δ x i s0) (hl : sc.names.lookup x = some .local) (ho : OwnW ns Nm δ own δ1) (hb : blkC Nm sc (Scope.mk kd ns ge co mo) own = true)
    (h : DI X W tg iter δ (LcR M k Nm (Scope.mk kd ns ge co mo) own δ1 tg elt α (fun ds => ∀ q, ∃ δ2 δ', Hput δ ((q, .lst ds) :: cs) j δ2 ∧ Put Nm δ2 x (.val (.opq (.ref q))) i δ' ∧ N δ')) (fun x => PX x δ)) (hs : ∀ x, foldedSetIterable iter X.env x = pure x := by intro _; rfl)
    (hp : (p2.line == p.line) = true := by rfl) (ha : (ns.any fun (n, k) => n == x && (k == .local || k == .cell)) = false := by decide +kernel) : DS X W (.Assign [.Name x p2] (.ListComp elt [⟨tg, iter, [], 0⟩] (Scope.mk kd ns ge co mo) p) pos) δ N R B C PX := fun Hb o0 own' D' σ H o g => by
  refine sem_ps (ps_setLc c.calm c.nd (by rw [c.hN]; exact hx.N) (c.lcl _ hl) (sw_true c.kind (c.lcl _ hl) hp ha) pi_sem (c.blk _ _ hb) pg_blk pts_blk pe_blk hs) ?_
  refine lc_readR (α := α) (P := fun ds => ∀ q, ∃ δ2 δ', Hput δ ((q, .lst ds) :: cs) j δ2 ∧ Put Nm δ2 x (.val (.opq (.ref q))) i δ' ∧ N δ') c (kind_of_blk hb) ho.wp h (o.sy g) fun ds l vs H2 hN e hl' h2 r => ?_
  obtain ⟨δ2, δ', n1, n2, hn⟩ := hN l
  refine g.nx (addOwn own' l) _ _ δ' hn ?_
  rw [n2.S, n1.S]
  exact (o.newC (c := .lst ds) hh.S e hl' h2 ⟨vs, h2, r⟩).put i rfl
end
end PV

set_option Elab.async false
set_option linter.all false
set_option maxRecDepth 100000
set_option maxHeartbeats 4000000
/-! PV55: a def whose answer is a new dict or list of the caller's own, told as a value, too -/
namespace PV
open PySem PySem.Spec PyProof.Rows L2
theorem Grown.ex0 {own own' : Addr → Bool} {H H' : Hp} {cs' : List (Addr × Cell)} (g : Grown own own' H H' [] cs') : Ex H H' := fun a o h => g.ex a o (minus_of (by simp) h)
theorem Grown.sub0 {own own' : Addr → Bool} {H H' : Hp} {cs' : List (Addr × Cell)} (g : Grown own own' H H' [] cs') : ∀ a, own a = true → own' a = true := fun a h => g.keep a h (by simp)
theorem WishX.grown {K : Fr} {E : XK} {own own' : Addr → Bool} {H H' : Hp} {PX : Xd → Prop} {cs' : List (Addr × Cell)} (g : Grown own own' H H' [] cs') (h : WishX K E own H PX) : WishX K E own' H' PX := by
  refine ⟨fun c p H2 e2 => h.pl c p H2 (g.ex0.trans e2), fun c fs p H2 d es e2 h1 h2 => h.fl c fs p H2 d es (g.ex0.trans e2) (mask_mono g.sub0 _ _ h1) (h2.mono (mask_mono g.sub0))⟩
abbrev PhiD := List D → (List (Key × D) → Prop) → (Xd → Prop) → Prop
/-- its answer is a new dict of the caller's own -/
def ownD (G : PhiD) : PhiC := fun ds lk cs P PX => lk = [] ∧ cs = [] ∧ G ds (fun kvs => ∀ q, P (.opq (.ref q)) [(q, .dic kvs)]) (fun x => PX x [])
def valD (G : PhiD) : Phi := fun ds P PX => G ds (fun kvs => P (.dic kvs)) PX
theorem Grown.rep {own own' : Addr → Bool} {H H' : Hp} {cs' : List (Addr × Cell)} (g : Grown own own' H H' [] cs') (ow : ∀ a, own a = true → H a ≠ none) {q : Addr} (h : q ∈ cs'.map (·.1)) : own q = false := by
  rcases g.fresh q h with h | h
  · exact absurd h (by simp)
  · cases z : own q with
    | false => rfl
    | true => exact absurd h (ow q z)
theorem own_val {P : Program} {w : World} {K : Fr} {mg : Str → Option Value} {base : Heap} {CX : CXT} {k n : Nat} {f : Addr} {fd : FuncData} {ps : List Str} {G : PhiD} (mono : ∀ ds P P' PX PX', (∀ kvs, P kvs → P' kvs) → (∀ x, PX x → PX' x) → G ds P PX → G ds P' PX') (F : FnOk P w K mg base CX k f fd ps (spC K n (ownD G))) : FnOk P w K mg base CX k f fd ps (spD K n (valD G)) := by
  refine F.imp ?_
  rintro vs H Q E ⟨own, ds, P, PX, ow, r, hl, hG, hq, hw⟩
  refine ⟨own, ds, [], [], fun d cs' => ∃ q kvs, d = .opq (.ref q) ∧ cs' = [(q, .dic kvs)] ∧ P (.dic kvs), fun x _ => PX x, ow, (fun z hz => nomatch hz), ⟨List.nodup_nil, fun z hz => nomatch hz⟩, (fun z hz => nomatch hz), r, hl, ⟨rfl, rfl, mono _ _ _ _ _ (fun kvs p q => ⟨q, kvs, rfl, rfl, p⟩) (fun x p => p) hG⟩, ?_, fun own' H' cs' g _ => hw.grown g⟩
  rintro d v own' H' cs' ⟨q, kvs, rfl, rfl, p⟩ g hc rv
  obtain rfl : v = .ref q := rv
  obtain ⟨_, es, h1, h2⟩ := hc.ok (q, .dic kvs) (by simp)
  have hq0 := g.rep ow (q := q) (by simp)
  refine hq (.dic kvs) (.ref q) H' p g.ex0 ⟨q, es, rfl, ?_, h2.mono (mask_mono g.sub0)⟩
  unfold PV.mask
  rw [hq0]
  exact h1
end PV
namespace PV
open PySem PySem.Spec PyProof.Rows L2
section
variable {M : Md} {X : Cx} {W : WX} {k : Nat} {Nm : List Str} {sc : Scope} {δ : List Slot} {pos p : Pos} {x : Str} {P : List D → Prop} {PX : Xd → Prop}
/-- x[lo:hi], x an owned list by its name: a new list -/
theorem df_cutA (c : Ct M X W k Nm sc) {i : Nat} {ds : List D} {lo hi : Option Expr} {p2 : Pos} (hx : At Nm δ x i (.acc ds)) (hv : Vis sc x) (h2 : DO X W lo δ (fun l => DO X W hi δ (fun u => P (cutD ds l u)) PX) PX) (hd : (x == ("__debug__" : Str)) = false := by decide) (hcd : (x == ("__classdict__" : Str)) = false := by decide) : DF X W (.Subscript (.Name x p) (.Slice lo hi none p2) pos) δ P PX := by
  intro σ H own Q S q
  refine sem_peL (pe_slice sl_list (pe_var (i := i) (by rw [c.hN]; exact hx.N) (c.vis _ hv) hd hcd) po_sem po_sem) fun hl => ?_
  obtain ⟨y, h1, l, vs, rfl, g1, g2, g3⟩ := S.sl.at (hx.lt c hl) hx.S
  refine ⟨_, h1, ?_⟩
  refine h2 σ H own _ S fun lo' H2 p2 e2 => ?_
  refine p2 σ H2 own _ (S.mono e2) fun u H3 p3 e3 => ?_
  have e := e2.trans e3
  exact ⟨l, vs, rfl, SqL.of (e _ _ g2), fun p' hp => q _ _ _ _ p3 (e.trans (Ex.new hp)) (e.free hp) upd_same (((g3.mono (mask_ex e)).cut lo' u).mono (mask_add (Ex.new hp) hp))⟩
end
end PV

set_option Elab.async false
set_option linter.all false
set_option maxRecDepth 100000
set_option maxHeartbeats 4000000
/-! PV56: defs that run where no repr is under way; the law's own call is such a place; repr of data -/
namespace PV
open PySem PySem.Spec PyProof.Rows L2
/-- a def's promise where no repr is under way -/
structure FnG (P : Program) (w : World) (K : Fr) (mg : Str → Option Value) (base : Heap) (k : Nat) (f : Addr) (fd : FuncData) (ps : List Str) (sp : Sp) : Prop where
  len : ∀ vs H Q E, sp vs H Q E → vs.length = ps.length
  run : ∀ (A : Around) (outer : List Env) (s : Shared) (H : Hp) (args : Args) (us : List Value) (vs : List V) (Q : VK) (E : XK), Room k A → A.guards = some [] → Env0 P w K mg base A outer s H → BindsTo s fd args (ps.zip us) → Vals vs us → sp vs H Q E →
    codeAny (model P w) A (.call (.ref f) args) (CR (L2.CX P w) outer P w H s Q E) s
/-- a def's body, where no repr is under way -/
theorem fn_okG {M : Md} {y qual : Str} {st : Stmt} {f : Addr} {fd : FuncData} {N ps : List Str} {k n : Nat} {F : Phi} (G : Fun M.K y qual st f fd) (S : FnScope N ps (defScope st)) (hn : ps.length = n)
    (h : ∀ ds P PX, ds.length = n → F ds P PX → ∀ X W, Ct M X W k N (defScope st) → X.A.guards = some [] → DSs X W (defBody st) (startS N ds) (fun _ => P .non) (fun d _ => P d) (fun _ => False) (fun _ => False) (fun x _ => PX x)) :
    FnG M.P M.w M.K M.mg M.base (k + 1) f fd ps (spD M.K n F) := by
  refine ⟨fun vs H Q E hh => by obtain ⟨own, ds, P, PX, _, r, hl, _⟩ := hh; rw [r.length, hl, hn], fun A outer s H args us vs Q E hr hg e0 hb hv hh => ?_⟩
  obtain ⟨oc, od, kV, doc, pm, an, cdv, ct, osl, rfl, lk, hcd⟩ := G.ex
  obtain ⟨own, ds, P, PX, ow, r, hl, hF, hq, hw⟩ := hh
  refine LamX.run_ofS (N := N) lk hcd S hr e0 hb hv (by rw [r.length, hl, hn]) fun hr' => ⟨_, pss_sem, ?_⟩
  have c : Ct M (cxOf (L2.CX M.P M.w) M.P M.w M.K M.mg M.base N qual (defScope st) f cdv A outer s H E) (fun cls d _ H => E cls d H) k N (defScope st) :=
    ⟨hr', rfl, takes_of rfl rfl rfl rfl, S.nd, rfl, rfl, rfl, rfl, rfl, rfl, fun x hx => hx, fun x hx => hx, fun x hx => hx, S.kind, fun x hx => hx, fun sc own hb => blkOk_by hb, passes_of rfl, fun x hx => .inl rfl⟩
  exact h ds P PX hl hF _ _ c hg H own own _ _ H ⟨fun a z => z, ow, fun a h1 h2 => absurd (h1.symm.trans h2) (by decide), Ex.refl H, slots_start r, start_own0⟩
    ⟨fun own' σ' H' δ' p o' => hq .non .non H' p o'.ex rfl, fun own' σ' H' δ' d v p o' r => hq d v H' p o'.ex (r.mono (mask_mono o'.sub)), fun _ _ _ _ z _ => z.elim, fun _ _ _ _ z _ => z.elim,
      fun own' σ' H' δ' o' => ⟨fun c' p H2 e => hw.pl c' p H2 (o'.ex.trans e), fun c' fs p H2 d es e h1 r => hw.fl c' fs p H2 d es (o'.ex.trans e) (mask_mono o'.sub _ _ h1) (r.mono (mask_mono o'.sub))⟩⟩
/-! the law's own call -/
section
variable {P : Program} {w : World} {K : Fr} {mg mb : Str → Option Value} {k : Nat} {fa a : Addr} {fd : FuncData} {x : Str} {sp : Sp} {s1 : Shared} {vs : List Value} {ns : List Int}
/-- what the call must come to -/
abbrev Told (s1 : Shared) (r : Except Value Flow) (s2 : Shared) : Prop := r = .ok (.ret (.bool true)) ∧ OldK s1.heap s2.heap ∧ s2.os = s1.os ∧ AllBare s2.gens
theorem told_from {H : Hp} (inK : K.In s1.heap) (glob : s1.heap.Ns mainGlobals mg) (bui : s1.heap.Ns builtinsNs mb) (same : ∀ x : Str, x ≠ "__name__" → mb x = bootBuiltins x) (lim : s1.heap.NoLimit) (still : s1.gens = #[])
    (at_ : s1.heap.get? a = some { cls := .type "list", data := .seq vs.toArray }) (room : Room k callerA) (F : ∀ base : Heap, K.In base → base.Ns mainGlobals mg → FnG P w K mg base k fa fd [x] sp) (bind : ∀ (s : Shared) (u : Value), BindsTo s fd ⟨[u], []⟩ [(x, u)])
    (only : Only H) (tells : sp [.ref a] H (fun v _ => v = .bl true) fun _ _ _ => False) (none_up : ∀ e s', L2.CX P w [] H s1 (fun _ _ _ => False) e s' → False) (okH : HOk P w H s1.heap) (one : ∀ b, H b ≠ none → b = a) (apart : H a ≠ none → K.lookup a = none) :
    codeAny (model P w) callerA (.call (.ref fa) ⟨[.ref a], []⟩) (Told s1) s1 := by
  have dict_free : ∀ {b : Addr} {o : Obj} {es : Array DictEntry} {ep : Nat}, s1.heap.get? b = some o → o.data = .dict es ep → H b = none := by
    intro b o es ep hb hd
    refine Option.eq_none_iff_forall_ne_some.mpr fun u hu => ?_
    obtain rfl := one b (by rw [hu]; exact Option.some_ne_none u)
    rw [at_] at hb
    cases hb
    exact nomatch (show Data.seq vs.toArray _ = Data.dict es ep from hd)
  have ns_hid : ∀ {b : Addr} {m : Str → Option Value}, s1.heap.Ns b m → (hidT s1.heap H).Ns b m := by
    rintro b m ⟨o, es, ep, h1, h2, h3⟩
    exact ⟨o, es, ep, hidT_get h1 (dict_free h1 h2), h2, h3⟩
  have in_hid : K.In (hidT s1.heap H) := by
    intro b o hb
    refine hidT_get (inK b o hb) (Option.eq_none_iff_forall_ne_some.mpr fun u hu => ?_)
    obtain rfl := one b (by rw [hu]; exact Option.some_ne_none u)
    rw [apart (by rw [hu]; exact Option.some_ne_none u)] at hb
    cases hb
  have mod : Mod K mg (hidT s1.heap H) := by
    obtain ⟨mc, l1, l2⟩ := lim
    exact ⟨in_hid, ns_hid glob, ⟨mb, ns_hid bui, same⟩, ⟨mc, ns_hid l1, l2⟩⟩
  have env : Env0 P w K mg (hidT s1.heap H) callerA [] s1 H :=
    { frames := rfl, mod := mod, bs := fun b o hb => of_hidT hb, bsz := Nat.le_of_eq (hidT_size _ _), funs := trivial, frf := (fun b hb => absurd (show b ∈ ([] : List Addr) from hb) (by simp)), hok := okH, bare := .of_eq still }
  refine codeAny_mono ((F _ in_hid (ns_hid glob)).run callerA [] s1 H ⟨[.ref a], []⟩ [.ref a] [.ref a] _ _ room rfl env (bind s1 _) (.cons rfl .nil) tells) ?_
  rintro (e | fl) s2 got
  · exact absurd (none_up e s2 got) id
  cases fl with
  | ret u =>
    obtain ⟨v, H2, h1, h2, h3, h4, h5, h6⟩ := got
    have h6 : v = .bl true := h6
    subst h6
    have h5 : u = .bool true := h5
    subst h5
    refine ⟨rfl, OldK.of_keep ?_, h1, h2⟩
    intro b o hb
    rcases only b with free | ⟨ob, xs, fz⟩
    · exact h3.keep b o hb free (fun z => nomatch z) (by simp)
    · have o1 := (okH b _ fz).1
      rw [hb] at o1
      cases o1
      exact (h4 b _ (h3.frzs b _ _ fz)).1
  | _ => exact absurd got id
theorem told_law (inK : K.In s1.heap) (glob : s1.heap.Ns mainGlobals mg) (bui : s1.heap.Ns builtinsNs mb) (same : ∀ x : Str, x ≠ "__name__" → mb x = bootBuiltins x) (lim : s1.heap.NoLimit) (still : s1.gens = #[])
    (at_ : s1.heap.get? a = some { cls := .type "list", data := .seq vs.toArray }) (whole : IntsAre vs ns) (few : ns.length ≤ sizeLine) (room : Room k callerA) (F : ∀ base : Heap, K.In base → base.Ns mainGlobals mg → FnG P w K mg base k fa fd [x] sp)
    (bind : ∀ (s : Shared) (u : Value), BindsTo s fd ⟨[u], []⟩ [(x, u)]) (tells : ∀ H : Hp, Only H → SqL K H a (ns.map V.int) → sp [.ref a] H (fun v _ => v = .bl true) fun _ _ _ => False) (none_up : ∀ H e s', L2.CX P w [] H s1 (fun _ _ _ => False) e s' → False) :
    codeAny (model P w) callerA (.call (.ref fa) ⟨[.ref a], []⟩) (Told s1) s1 := by
  have vals := vals_ints whole
  have many := whole.length
  cases hk : K.lookup a with
  | some o =>
    have same_o := at_.symm.trans (inK a o hk)
    cases same_o
    have only : Only fun _ => none := fun _ => .inl rfl
    exact told_from inK glob bui same lim still at_ room F bind only (tells _ only (.inr ⟨_, vs.toArray, _, hk, rfl, rfl, rfl, by rw [List.size_toArray, many]; exact few, by simpa using vals⟩)) (none_up _) (fun b u z => nomatch (show (none : Option HO) = some u from z)) (fun b z => absurd rfl z) (fun z => absurd rfl z)
  | none =>
    let H : Hp := fun b => if b = a then some (.frz { cls := .type "list", data := .seq vs.toArray } (.lst (ns.map V.int))) else none
    have self : H a = some (.frz { cls := .type "list", data := .seq vs.toArray } (.lst (ns.map V.int))) := if_pos rfl
    have other : ∀ b, b ≠ a → H b = none := fun b hb => if_neg hb
    have only : Only H := fun b => by
      by_cases hb : b = a
      · rw [hb]; exact .inr ⟨_, _, self⟩
      · exact .inl (other b hb)
    refine told_from inK glob bui same lim still at_ room F bind only (tells H only (.inl (.inr ⟨_, self⟩))) (none_up H) (fun b u hu => ?_) (fun b hb => Decidable.byContradiction fun hn => hb (other b hn)) fun _ => hk
    by_cases hb : b = a
    · subst hb
      rw [self] at hu
      cases hu
      exact ⟨at_, by rw [List.length_map]; exact few, vs, _, vals, at_⟩
    · rw [other b hb] at hu
      cases hu
end
/-- the end of a law whose def's promise is told where no repr is under way -/
theorem walk_lawG {l : PySem.W.OpenLaw} {k : Nat} {q : Program} {loose : List Str} {XP : (Str → Option Value) → Heap → Prop} {YP : World → Heap → Prop} {d : DefRec} {K : Params → PySem.W.Frag} {x : Str}
    (hn : l.most = some 63) (hdf : d.params.defaults = []) (hr : Room k callerA) (hY : ∀ (w : World) (h : Heap), YP w h → (K w.params).In h)
    (F : ∀ (w : World) (mg : Str → Option Value) (fa : Addr) (h : Heap), (K w.params).In h → h.Ns mainGlobals mg → mg d.name = some (.ref fa) →
      ∃ fd : FuncData, (∀ (s : Shared) (u : Value), BindsTo s fd ⟨[u], []⟩ [(x, u)]) ∧
        ∀ base : Heap, (K w.params).In base → base.Ns mainGlobals mg → FnG l.prog w (K w.params) mg base k fa fd [x] (spD (K w.params) 1 F_law)) :
    PySem.W.WalkO q loose XP YP l.row.toRowW d [] (fun f vs => PySem.call f vs) := by
  refine Att.attach_call hn hdf fun w s₀ s1 mg mb fa o pm cd doc a vs ns G Y ho hd hcd hmg hobj whole few still => ?_
  have inK := hY w _ Y
  obtain ⟨fd, bind, FF⟩ := F w mg fa _ inK G.T.g hmg
  refine told_law inK G.T.g G.T.b G.T.builtins G.T.nolimit still hobj whole (Nat.le_trans few (by decide)) hr FF bind (fun H _ seq => ?_) (fun H e s' up => ?_)
  · exact ⟨fun _ => false, [.lst (ns.map .int)], fun d => d = .bl true, fun _ => False, fun _ z => (Bool.false_ne_true z).elim, ⟨.ref a, [], rfl, ⟨a, ns.map V.int, rfl, by rw [mask_none]; exact seq, RepL.ofInts ns⟩, rfl⟩, rfl, ⟨⟨ns, few, rfl⟩, rfl⟩,
      fun d v H' hd _ r => by subst hd; exact r, wish0⟩
  · obtain ⟨_, _, _, _, _, _, _, _, _, _, _, _, z⟩ := up
    exact z
end PV
namespace PV
open PySem PySem.Spec PyProof.Rows L2
/-- data whose repr is told -/
structure RpOk (d : D) : Prop where
  ok : okN 64 d = true
  sh : d.py.showable = true
  nd : d.py.hasDict = false
  ln : d.py.shown.length ≤ 16777216
def rRepr (K : Fr) : List V → Hp → VK → Prop := fun vs H Q => ∃ v d, vs = [v] ∧ Dp K H v d ∧ d.showable = true ∧ d.hasDict = false ∧ d.depth ≤ 64 ∧ d.shown.length ≤ 16777216 ∧ Q (.str d.shown) H
theorem cr_repr {X : Cx} (gu : X.A.guards = some []) (hu : X.A.units + 65 < cLine) : CallR X (.builtin "repr") (rRepr X.K) := by
  rintro pins s σ H xs us Q I rr ⟨v, d, rfl, dp, sh, nd, dd, ln, q⟩
  have ln' : d.shown.length ≤ sizeLine := by rw [sizeLine_eq]; exact ln
  obtain ⟨u, rfl, ru⟩ := vals1 rr
  obtain ⟨as, rd⟩ := Dp.reads I d v u dp ru
  have fin : ∀ tk, EP X pins σ Q (.str d.shown tk) { s with toks := s.toks + 1 } := fun tk => ⟨.str _, H, I.tok _, ⟨_, rfl⟩, q⟩
  cases rd with
  | none => exact PySem.P.repr_of_none (fin _)
  | bool b => exact PySem.P.repr_of_bool (fin _)
  | int i t => exact PySem.P.repr_of_int (by simpa [PyData.showable] using sh) (fin _)
  | str x t => exact PySem.P.repr_of_str (fin _) ln'
  | list h1 h2 h3 h4 => exact repr_of_reads' (.list h1 h2 h3 h4) sh (fun z => by rw [nd] at z; cases z) gu (by omega) (fun _ _ h => h) (fun h' u' tk kp => ⟨.str _, H, I.kept kp, ⟨_, rfl⟩, q⟩) ln'
  | tuple h1 h2 h3 h4 => exact repr_of_reads' (.tuple h1 h2 h3 h4) sh (fun z => by rw [nd] at z; cases z) gu (by omega) (fun _ _ h => h) (fun h' u' tk kp => ⟨.str _, H, I.kept kp, ⟨_, rfl⟩, q⟩) ln'
  | dict h1 h2 h3 h4 h5 => cases nd
section
variable {M : Md} {X : Cx} {W : WX} {k : Nat} {Nm : List Str} {sc : Scope} {δ : List Slot} {a : Expr} {pos p : Pos} {P : D → Prop} {PX : Xd → Prop}
/-- repr(x), where no repr is under way -/
theorem de_repr (c : Ct M X W k Nm sc) (gu : X.A.guards = some []) (hg : GlS sc "repr") (hm : Bi M "repr") (h : DE X W a δ (fun d => RpOk d ∧ P (.str d.py.shown)) PX)
    (he : starEach [a] X.env = (false, eval a X.env) :: starEach [] X.env := by rfl) (hpl : (backTo pos (starEach [] X.env)).any (·.1) = false := by rfl) : DE X W (.Call (.Name "repr" p) [a] [] pos) δ P PX := by
  refine de_callB c (cr_repr gu c.u65) hg hm (by decide +kernel) (da_cons (h.imp fun x ⟨ok, p⟩ => da_nil ?_) he) (by decide) (by decide) he hpl
  intro vs H own Q ow r q
  obtain ⟨v, rfl, rv⟩ := r.vals1
  exact ⟨v, x.py, rfl, Rep.dp 64 ok.ok (rv.mono mask_le), ok.sh, ok.nd, (okN_lay 64 x ok.ok).2, ok.ln, q _ _ H p (Ex.refl H) rfl⟩
end
end PV

namespace PV
open PySem PySem.Spec PyProof.Rows L2
/-- a def that may be called where no repr is under way -/
structure DefG (M : Md) (j : Nat) (x : Str) (n : Nat) (F : Phi) : Prop where
  ex : ∃ f fd ps, FnG M.P M.w M.K M.mg M.base j f fd ps (spD M.K n F) ∧ M.mg x = some (.ref f) ∧ PySem.W.keepIn M.K (.ref f) = true ∧ Binds M.K fd ps []
theorem pe_callG {X : Cx} {k : Nat} {f : Addr} {fd : FuncData} {ps : List Str} {sp : Sp} {E : L2.St → XK} {x : Str} {p pos : Pos} {e : Expr} {es : List Expr} {t : TA} (F : FnG X.prog X.w X.K X.mg X.base k f fd ps sp) (room : Room k X.A) (gu : X.A.guards = some []) (g : Gl X x) (m : X.mg x = some (.ref f)) (kp : PySem.W.keepIn X.K (.ref f) = true) (b : Binds X.K fd ps [])
    (up : ∀ σ, PassesAt (L2.CX X.prog X.w) X σ (E σ)) (args : PA X (e :: es) t) (db : (x == ("__debug__" : Str)) = false := by decide) (st : starEach (e :: es) X.env = (false, eval e X.env) :: starEach es X.env := by rfl) (pl : (backTo pos (starEach es X.env)).any (·.1) = false := by rfl) :
    PE X (.Call (.Name x p) (e :: es) [] pos) (tCallS sp E t) := by
  constructor
  intro pins s σ H Q I h
  refine wpAny_Call_Name_kw (ld_glob I g m (PySem.W.callWith_K (h₀ := X.base) I.ok.mod.kin kp (thn (args.run pos pins s σ H _ I h) ?_) st pl) db)
  rintro us s1 ⟨vs, H1, I1, r, q⟩
  refine ⟨I1.kIn, wpAny_call (codeAny_mono (F.run X.A X.stack s1 H1 ⟨us, []⟩ us vs Q (E σ) room gu I1.env0 (by have := b s1 us I1.kIn (by rw [List.append_nil, ← r.length]; exact F.len _ _ _ _ q); simpa using this) r q) ?_)⟩
  rintro (x | fl) s2 got
  · exact up σ pins H1 s1 x s2 I1 got
  cases fl with
  | ret u => exact I1.after got
  | _ => exact got.elim
section
variable {M : Md} {X : Cx} {W : WX} {k : Nat} {Nm : List Str} {sc : Scope} {δ : List Slot} {a e : Expr} {es : List Expr} {pos p : Pos} {x : Str} {P : D → Prop} {PX : Xd → Prop}
theorem de_callG {j n : Nat} {F : Phi} (c : Ct M X W k Nm sc) (gu : X.A.guards = some []) (f : DefG M j x n F) (hj : j ≤ k) (hg : GlS sc x) (h : DA X W (e :: es) δ (fun ds => ds.length = n ∧ F ds P PX) PX)
    (hdb : (x == ("__debug__" : Str)) = false := by decide) (he : starEach (e :: es) X.env = (false, eval e X.env) :: starEach es X.env := by rfl) (hpl : (backTo pos (starEach es X.env)).any (·.1) = false := by rfl) : DE X W (.Call (.Name x p) (e :: es) [] pos) δ P PX := by
  obtain ⟨f, fd, ps, G, hm, hk, hb⟩ := f.ex
  rw [← c.hP, ← c.hw, ← c.hK, ← c.hmg, ← c.hb] at G
  rw [← c.hK] at hk hb
  rw [← c.hmg] at hm
  refine de_mk (pe_callG G (c.room.mono hj) gu (c.gl _ hg) hm hk hb (fun σ => passAt c.tk σ) pa_sem hdb he hpl) ?_
  intro σ H own Q S q
  refine h σ H own _ S fun ds vs H1 ⟨hl, hF⟩ e1 r => ?_
  have S1 := S.mono e1
  exact ⟨own, ds, P, PX, S1.ow, r, hl, hF, fun d v H' p e2 r2 => q d v H' p (e1.trans e2) r2, S1.wi⟩
/-- str(x) of data, where no repr is under way -/
theorem cr_strG {X : Cx} (gu : X.A.guards = some []) (hu : X.A.units + 70 < cLine) : CallR X (.type "str") (fun vs H Q => ∃ v d, vs = [v] ∧ Dp X.K H v (.tuple d) ∧ (PyData.tuple d).showable = true ∧ (PyData.tuple d).hasDict = false ∧ (PyData.tuple d).depth ≤ 64 ∧ (PyData.tuple d).shown.length ≤ 16777216 ∧ ∀ z, Q (.str z) H) := by
  rintro pins s σ H xs us Q I rr ⟨v, d, rfl, dp, sh, nd, dd, ln, q⟩
  obtain ⟨u, rfl, ru⟩ := vals1 rr
  obtain ⟨as, rd⟩ := Dp.reads I _ v u dp ru
  cases rd with
  | tuple h1 h2 h3 h4 => exact str_of_reads (.tuple h1 h2 h3 h4) sh (fun z => by rw [nd] at z; cases z) gu (by omega) (fun _ _ h => h) (fun h' u' tk kp => ⟨.str _, H, I.kept kp, ⟨_, rfl⟩, q _⟩) (by rw [sizeLine_eq]; exact ln)
theorem de_strG (c : Ct M X W k Nm sc) (gu : X.A.guards = some []) (hg : GlS sc "str") (hm : Bi M "str") (h : DE X W a δ (fun d => ∃ ds, d = .tup ds ∧ RpOk d ∧ ∀ z, P (.str z)) PX)
    (he : starEach [a] X.env = (false, eval a X.env) :: starEach [] X.env := by rfl) (hpl : (backTo pos (starEach [] X.env)).any (·.1) = false := by rfl) : DE X W (.Call (.Name "str" p) [a] [] pos) δ P PX := by
  refine de_callT c (cr_strG gu (Nat.lt_of_le_of_lt (by omega) c.room.un)) hg hm (by decide +kernel) (da_cons (h.imp fun x ⟨ds, hx, ok, p⟩ => da_nil ?_) he) (by decide) (by decide) he hpl
  subst hx
  intro vs H own Q ow r q
  obtain ⟨v, rfl, rv⟩ := r.vals1
  exact ⟨v, _, rfl, Rep.dp 64 ok.ok (rv.mono mask_le), ok.sh, ok.nd, (okN_lay 64 _ ok.ok).2, ok.ln, fun z => q _ _ H (p z) (Ex.refl H) rfl⟩
end
end PV

set_option Elab.async false
set_option linter.all false
set_option maxRecDepth 100000
set_option maxHeartbeats 4000000
/-! PV57: or, and of values by their truth -/
namespace PV
open PySem PySem.Spec PyProof.Rows L2
section
variable {M : Md} {X : Cx} {W : WX} {δ : List Slot} {a b : Expr} {pos : Pos} {P : D → Prop} {PX : Xd → Prop}
theorem de_orV {rest : List Expr} (h : DE X W a δ (fun x => ∃ i, x.tr = some i ∧ (i = true → P x) ∧ (i = false → DE X W (.BoolOp .Or (b :: rest) pos) δ P PX)) PX) : DE X W (.BoolOp .Or (a :: b :: rest) pos) δ P PX := by
  refine de_mk (pe_orT pe_sem pe_sem) ?_
  intro σ H own Q S q
  refine h σ H own _ S fun x v H1 ⟨i, hx, p1, p2⟩ e1 r => ⟨i, tr_ok (r.mono mask_le) hx, ?_⟩
  cases i with
  | true => exact iteT (q _ _ H1 (p1 rfl) e1 r)
  | false => exact iteF (p2 rfl σ H1 own _ (S.mono e1) fun d u H2 p e2 => q d u H2 p (e1.trans e2))
theorem de_andV {rest : List Expr} (h : DE X W a δ (fun x => ∃ i, x.tr = some i ∧ (i = false → P x) ∧ (i = true → DE X W (.BoolOp .And (b :: rest) pos) δ P PX)) PX) : DE X W (.BoolOp .And (a :: b :: rest) pos) δ P PX := by
  refine de_mk (pe_andT pe_sem pe_sem) ?_
  intro σ H own Q S q
  refine h σ H own _ S fun x v H1 ⟨i, hx, p1, p2⟩ e1 r => ⟨i, tr_ok (r.mono mask_le) hx, ?_⟩
  cases i with
  | true => exact iteT (p2 rfl σ H1 own _ (S.mono e1) fun d u H2 p e2 => q d u H2 p (e1.trans e2))
  | false => exact iteF (q _ _ H1 (p1 rfl) e1 r)
end
end PV

set_option Elab.async false
set_option linter.all false
set_option maxRecDepth 100000
set_option maxHeartbeats 4000000
/-! PV58: None in a list, a tuple of any plain things -/
namespace PV
open PySem PySem.Spec PyProof.Rows L2 PySem.SeqAt
def D.nn : D → Bool
  | .non | .bl _ | .int _ | .str _ | .lst _ | .tup _ => true
  | _ => false
def eN : Value → Bool
  | .none => true
  | _ => false
section
variable {X : Cx} {pins : List (Addr × Obj)} {σ : L2.St} {H : Hp} {s : Shared} {A : Around}
theorem eqN (I : Inv X pins σ H s) {d : D} {v : V} {u : Value} (ok : d.nn = true) (r : Rep X.K H d v) (ru : RelV v u) (hu : A.units < cLine) : EqAt A s u .none (eN u) ∧ eN u = d.isN := by
  cases d with
  | non => cases r; cases ru; exact ⟨EqAt.same _, rfl⟩
  | bl b => cases r; cases ru; exact ⟨EqAt.bool_none b, rfl⟩
  | int i => cases r; obtain ⟨t, rfl⟩ := ru; exact ⟨EqAt.int_none _ _, rfl⟩
  | str i => cases r; obtain ⟨t, rfl⟩ := ru; exact ⟨EqAt.str_none _ _, rfl⟩
  | lst ds =>
    obtain ⟨l, vs, rfl, hq, _⟩ := r
    obtain ⟨its, _, pl, hz⟩ := I.list hq
    cases ru
    exact ⟨EqAt.list_none pl.isList hu, rfl⟩
  | tup ds =>
    obtain ⟨l, vs, rfl, hq, _⟩ := r
    obtain ⟨its, _, pl, hz⟩ := I.tuple hq
    cases ru
    exact ⟨EqAt.tuple_none pl hu, rfl⟩
  | _ => cases ok
theorem eqNs (I : Inv X pins σ H s) (hu : A.units < cLine) : ∀ {ds : List D} {vs : List V} {us : List Value}, ds.all D.nn = true → RepL X.K H ds vs → Vals vs us → (∀ u ∈ us, EqAt A s u .none (eN u)) ∧ us.any eN = ds.any D.isN
  | [], _, _, _, h, r => by subst h; cases r; exact ⟨fun u hu => by simp at hu, rfl⟩
  | d :: ds, _, _, o, h, r => by
    obtain ⟨w, t, rfl, h1, h2⟩ := h
    rw [List.all_cons, Bool.and_eq_true] at o
    cases r with
    | cons ra rb =>
      obtain ⟨i1, i2⟩ := eqNs I hu o.2 h2 rb
      obtain ⟨j1, j2⟩ := eqN I o.1 h1 ra hu
      refine ⟨fun u hm => ?_, by rw [List.any_cons, List.any_cons, i2, j2]⟩
      rcases List.mem_cons.mp hm with rfl | hm
      · exact j1
      · exact i1 u hm
end
def rInN (K : Fr) : R2 := fun x y H Q => x = .non ∧ ∃ p ds vs, y = .ref p ∧ (SqL K H p vs ∨ SqT K H p vs) ∧ RepL K H ds vs ∧ ds.all D.nn = true ∧ Q (.bl (ds.any D.isN)) H
theorem op_inN {X : Cx} (hu : X.A.in1.units < cLine) : OpR X (compareOp .In) (rInN X.K) := by
  intro pins s σ H x y v u Q I rx ry h
  obtain ⟨rfl, p, ds, xs, rfl, hq, hr, ho, q⟩ := h
  cases rx
  cases ry
  rcases hq with hq | hq
  · obtain ⟨its, r, pl, hz⟩ := I.list hq
    obtain ⟨e1, e2⟩ := eqNs (A := X.A.in1) I hu ho hr r
    refine SeqAt.in_listAt eN pl.isList (fun w hw => e1 w (by simpa using hw)) ⟨.bl _, H, I, rfl, ?_⟩
    rw [show its.toArray.any eN = its.any eN by simp, e2]
    exact q
  · obtain ⟨its, r, pl, hz⟩ := I.tuple hq
    obtain ⟨e1, e2⟩ := eqNs (A := X.A.in1) I hu ho hr r
    refine SeqAt.in_tupleAt eN pl (fun w hw => e1 w (by simpa using hw)) ⟨.bl _, H, I, rfl, ?_⟩
    rw [show its.toArray.any eN = its.any eN by simp, e2]
    exact q
theorem o_inN_l {K : Fr} {ds : List D} {P : D → Prop} (fs : ds.all D.nn = true) (p : P (.bl (ds.any D.isN))) : RW K (rInN K) .non (.lst ds) (fun d => d.flat = true ∧ P d) := fun v w H own Q _ a b q => by
  obtain ⟨l, vs, rfl, h1, h2⟩ := b
  exact ⟨a, l, ds, vs, rfl, .inl (mask_le.sqL h1), h2.mono mask_le, fs, q (.bl _) _ H ⟨rfl, p⟩ (Ex.refl H) rfl⟩
theorem o_inN_t {K : Fr} {ds : List D} {P : D → Prop} (fs : ds.all D.nn = true) (p : P (.bl (ds.any D.isN))) : RW K (rInN K) .non (.tup ds) (fun d => d.flat = true ∧ P d) := fun v w H own Q _ a b q => by
  obtain ⟨l, vs, rfl, h1, h2⟩ := b
  exact ⟨a, l, ds, vs, rfl, .inr (mask_le.sqT h1), h2.mono mask_le, fs, q (.bl _) _ H ⟨rfl, p⟩ (Ex.refl H) rfl⟩
section
variable {M : Md} {X : Cx} {W : WX} {k : Nat} {Nm : List Str} {sc : Scope} {δ : List Slot} {a b : Expr} {pos : Pos} {P : D → Prop} {PX : Xd → Prop}
theorem Ct.in1 (c : Ct M X W k Nm sc) : X.A.in1.units < cLine := Nat.lt_of_le_of_lt (by show X.A.units + 1 ≤ X.A.units + 65; omega) c.u65
/-- None in b -/
theorem dt_inN {PB : Bool → Prop} (c : Ct M X W k Nm sc) (hm : behindInMarks .In b = false) (h : DR X W a δ (fun x => DR X W b δ (fun y => RW X.K (rInN X.K) x y (fun d => d.flat = true ∧ ∃ i, d = .bl i ∧ PB i)) PX) PX) : DT X W (.Compare a [.In] [b] pos) δ PB PX :=
  dt_cmpG (op_inN c.in1) hm h
end
end PV

set_option Elab.async false
set_option linter.all false
set_option maxRecDepth 100000
set_option maxHeartbeats 4000000
/-! PV59: repr of lists that may hold empty dicts -/
namespace PV
open PySem PySem.Spec PyProof.Rows L2
/-- plain data, empty dicts too, at most so deep -/
def okE : Nat → D → Bool
  | _, .non => true
  | _, .bl _ => true
  | _, .int _ => true
  | _, .str s => PyData.strOk s
  | _, .dic kvs => kvs.isEmpty
  | n + 1, .lst ds => ds.all (okE n)
  | n + 1, .tup ds => ds.all (okE n)
  | _, _ => false
theorem okE_up : ∀ (n m : Nat) (d : D), okE n d = true → n ≤ m → okE m d = true := by
  intro n
  induction n with
  | zero => intro m d h hm; cases m <;> cases d <;> first | exact h | cases h
  | succ n ih =>
    intro m d h hm
    obtain ⟨m, rfl⟩ : ∃ k, m = k + 1 := ⟨m - 1, by omega⟩
    cases d with
    | lst ds =>
      have h : ds.all (okE n) = true := h
      show ds.all (okE m) = true
      rw [List.all_eq_true] at h ⊢
      exact fun x hx => ih m x (h x hx) (by omega)
    | tup ds =>
      have h : ds.all (okE n) = true := h
      show ds.all (okE m) = true
      rw [List.all_eq_true] at h ⊢
      exact fun x hx => ih m x (h x hx) (by omega)
    | _ => exact h
theorem okE_depth : ∀ (n : Nat) (d : D), okE n d = true → d.py.depth ≤ n + 1 := by
  have aux : ∀ (n : Nat) (ds : List D), (∀ d, okE n d = true → d.py.depth ≤ n + 1) → ds.all (okE n) = true → PyData.depthAll (pyL ds) ≤ n + 1 := by
    intro n ds ih
    induction ds with
    | nil => intro _; exact Nat.zero_le _
    | cons d r ihr =>
      intro h
      rw [List.all_cons, Bool.and_eq_true] at h
      have a1 := ih d h.1
      have b1 := ihr h.2
      show max d.py.depth (PyData.depthAll (pyL r)) ≤ n + 1
      omega
  intro n
  induction n with
  | zero => intro d h; cases d <;> first | exact Nat.zero_le _ | exact Nat.le_refl _ | cases h
  | succ n ih =>
    intro d h
    cases d with
    | lst ds => exact Nat.succ_le_succ (aux n ds ih h)
    | tup ds => exact Nat.succ_le_succ (aux n ds ih h)
    | dic kvs => exact Nat.le_add_left 1 (n + 1)
    | obj C fs => cases h
    | exc C w fs => cases h
    | opq v => cases h
    | _ => exact Nat.zero_le _
/-- what a thing's repr is, by the roads that lead there -/
def ShK (P : Program) (w : World) (h : Heap) (u : Value) (x : PyData) : Prop := ∃ as, Reads h u x as ∧ ∃ bs, ReadAtMost h x.depth bs ∧ ReprK P w bs h x.depth u x.shown
def ShKs (P : Program) (w : World) (h : Heap) (us : List Value) (xs : List PyData) : Prop := ∃ as, ReadsAll h us xs as ∧ ∃ bs, ReadAtMost h (PyData.depthAll xs) bs ∧ ReprAllK P w bs h (PyData.depthAll xs) us (PyData.shownAll xs)
section
variable {X : Cx} {pins : List (Addr × Obj)} {σ : L2.St} {H : Hp} {s : Shared}
theorem shk_list {a : Addr} {o : Obj} {n : Nat} {us : List Value} {xs : List PyData} {P : Program} {w : World} {h : Heap} (g : h.get? a = some o) (cl : o.cls = .type "list") (dt : o.data = .seq us.toArray n) (hk : ShKs P w h us xs) : ShK P w h (.ref a) (.list xs) := by
  obtain ⟨as, rd, bs, hb, hk⟩ := hk
  have r : Reads h (.ref a) (.list xs) (a :: as) := .list g cl dt rd
  have dd : (PyData.list xs).depth = PyData.depthAll xs + 1 := by simp only [PyData.depth]
  have off : a ∉ bs := not_mem_of_deeper r (by rw [dd]; exact Nat.lt_succ_self _) hb
  refine ⟨_, r, a :: bs, ReadAtMost.cons r (Nat.le_refl _) (by rw [dd]; exact hb.mono (Nat.le_succ _)), ?_⟩
  rw [dd]
  cases us with
  | nil =>
    cases rd
    have e : (PyData.list []).shown = ("[]" : Str) := by simp only [PyData.shown, PyData.shownAll, listText_nil]
    rw [e]
    exact ReprK.listEmpty g cl dt
  | cons u us =>
    have e : (PyData.list xs).shown = listText (PyData.shownAll xs) := by simp only [PyData.shown]
    rw [e]
    exact ReprK.list g cl dt off (by rw [hk.length_eq]; simp) (fun i y z => hk.item i y (by simpa using z))
theorem shk_tuple {a : Addr} {o : Obj} {n : Nat} {us : List Value} {xs : List PyData} {P : Program} {w : World} {h : Heap} (g : h.get? a = some o) (cl : o.cls = .type "tuple") (dt : o.data = .seq us.toArray n) (hk : ShKs P w h us xs) : ShK P w h (.ref a) (.tuple xs) := by
  obtain ⟨as, rd, bs, hb, hk⟩ := hk
  have r : Reads h (.ref a) (.tuple xs) as := .tuple g cl dt rd
  have dd : (PyData.tuple xs).depth = PyData.depthAll xs + 1 := by simp only [PyData.depth]
  have off : a ∉ bs := not_mem_of_deeper r (by rw [dd]; exact Nat.lt_succ_self _) hb
  refine ⟨_, r, a :: bs, ReadAtMost.cons r (Nat.le_refl _) (by rw [dd]; exact hb.mono (Nat.le_succ _)), ?_⟩
  rw [dd]
  have e : (PyData.tuple xs).shown = tupleText (PyData.shownAll xs) := by simp only [PyData.shown]
  rw [e]
  exact ReprK.tuple g cl dt off hk
theorem shk_dict {a : Addr} {o : Obj} {n : Nat} {P : Program} {w : World} {h : Heap} (g : h.get? a = some o) (cl : o.cls = .type "dict") (dt : o.data = .dict #[] n) (off : (a == sysModules) = false) : ShK P w h (.ref a) (.dict []) := by
  have r : Reads h (.ref a) (.dict []) (a :: [] ++ []) := .dict g cl dt .nil .nil
  have dd : (PyData.dict []).depth = 0 + 1 := by simp only [PyData.depth, PyData.depthKv]
  have e : (PyData.dict []).shown = dictText [] := by simp only [PyData.shown, PyData.shownKv]
  refine ⟨_, r, [a], ReadAtMost.cons r (Nat.le_refl _) (fun b hb => nomatch hb), ?_⟩
  rw [dd, e]
  exact ReprK.dict g cl dt off (fun z => nomatch z) .nil
end
section
variable {X : Cx} {pins : List (Addr × Obj)} {σ : L2.St} {H : Hp} {s : Shared}
mutual
theorem Rep.shk (I : L2.Inv X pins σ H s) : ∀ {d : D} {v : V} {u : Value} (n : Nat), okE n d = true → Rep X.K H d v → L2.RelV v u → d.py.showable = true → d.py.shown.length ≤ sizeLine → ShK X.prog X.w s.heap u d.py
  | .non, _, _, _, _, h, r, _, _ => by cases h; cases r; exact ⟨_, .none, [], (fun _ z => nomatch z), ReprK.of_is ReprIs.none _ _ _⟩
  | .bl b, _, _, _, _, h, r, _, _ => by cases h; cases r; exact ⟨_, .bool b, [], (fun _ z => nomatch z), ReprK.of_is (ReprIs.bool b) _ _ _⟩
  | .int i, _, _, _, _, h, r, sh, _ => by cases h; obtain ⟨t, rfl⟩ := r; exact ⟨_, .int i t, [], (fun _ z => nomatch z), ReprK.of_is (ReprIs.int t (by simpa [D.py, PyData.showable] using sh)) _ _ _⟩
  | .str x, _, _, _, _, h, r, _, ln => by cases h; obtain ⟨t, rfl⟩ := r; exact ⟨_, .str x t, [], (fun _ z => nomatch z), ReprK.of_is (ReprIs.str x t (by simpa only [D.py, PyData.shown] using ln)) _ _ _⟩
  | .lst _, _, _, 0, o, _, _, _, _ => by cases o
  | .lst ds, _, _, n + 1, o, h, r, sh, ln => by
    obtain ⟨a, vs, rfl, h1, h2⟩ := h
    cases r
    obtain ⟨its, rv, ⟨ob, m, g, cl, _, dt⟩, _⟩ := I.list h1
    refine shk_list g cl (by rw [dt]) (RepL.shk I n o h2 rv (by simpa only [D.py, PyData.showable] using sh) fun t ht => ?_)
    exact Nat.le_trans (listText_mem_le ht) (by simpa only [D.py, PyData.shown] using ln)
  | .tup _, _, _, 0, o, _, _, _, _ => by cases o
  | .tup ds, _, _, n + 1, o, h, r, sh, ln => by
    obtain ⟨a, vs, rfl, h1, h2⟩ := h
    cases r
    obtain ⟨its, rv, ⟨ob, g, cl, m, dt⟩, _⟩ := I.tuple h1
    refine shk_tuple g cl (by rw [dt]) (RepL.shk I n o h2 rv (by simpa only [D.py, PyData.showable] using sh) fun t ht => ?_)
    exact Nat.le_trans (tupleText_mem_le ht) (by simpa only [D.py, PyData.shown] using ln)
  | .dic [], _, _, n, o, h, r, _, _ => by
    obtain ⟨a, es, rfl, h1, h2⟩ := h
    cases h2
    cases r
    obtain ⟨_, off, vs, kv, ob, es', ep, g, ex, dt, _, pr, _⟩ := L2.dk_of I.hok h1
    cases kv
    have e : es' = #[] := by
      have := pr
      cases es' with
      | mk l => cases l with
        | nil => rfl
        | cons x l => cases this
    subst e
    exact shk_dict g ex.1 dt off
  | .dic (_ :: _), _, _, n, o, _, _, _, _ => by cases n <;> cases o
  | .obj _ _, _, _, n, o, _, _, _, _ => by cases n <;> cases o
  | .exc _ _ _, _, _, n, o, _, _, _, _ => by cases n <;> cases o
  | .opq _, _, _, n, o, _, _, _, _ => by cases n <;> cases o
theorem RepL.shk (I : L2.Inv X pins σ H s) : ∀ {ds : List D} {vs : List V} {us : List Value} (n : Nat), ds.all (okE n) = true → RepL X.K H ds vs → Vals vs us → PyData.showableAll (pyL ds) = true → (∀ t ∈ PyData.shownAll (pyL ds), t.length ≤ sizeLine) → ShKs X.prog X.w s.heap us (pyL ds)
  | [], _, _, _, _, h, r, _, _ => by cases h; cases r; exact ⟨_, .nil, [], (fun _ z => nomatch z), ReprAllK.nil⟩
  | d :: ds, _, _, n, o, h, r, sh, ln => by
    obtain ⟨v, vs, rfl, h1, h2⟩ := h
    rw [List.all_cons, Bool.and_eq_true] at o
    have sh : d.py.showable = true ∧ PyData.showableAll (pyL ds) = true := by simpa [pyL, PyData.showableAll] using sh
    have es : PyData.shownAll (pyL (d :: ds)) = d.py.shown :: PyData.shownAll (pyL ds) := by simp only [pyL, PyData.shownAll]
    rw [es] at ln
    cases r with
    | cons r1 r2 =>
      obtain ⟨a1, q1, b1, m1, k1⟩ := Rep.shk I n o.1 h1 r1 sh.1 (ln _ List.mem_cons_self)
      obtain ⟨a2, q2, b2, m2, k2⟩ := RepL.shk I n o.2 h2 r2 sh.2 fun t ht => ln t (List.mem_cons_of_mem _ ht)
      have dd : PyData.depthAll (pyL (d :: ds)) = max d.py.depth (PyData.depthAll (pyL ds)) := by simp only [pyL, PyData.depthAll]
      refine ⟨_, .cons q1 q2, b1 ++ b2, fun b hb => ?_, ?_⟩
      · rw [dd]
        rcases List.mem_append.mp hb with hb | hb
        · obtain ⟨x, y, z, e⟩ := m1 b hb
          exact ⟨x, y, z, by omega⟩
        · obtain ⟨x, y, z, e⟩ := m2 b hb
          exact ⟨x, y, z, by omega⟩
      · rw [dd, es]
        exact .cons ((k1.more fun b z => List.mem_append_left _ z).level_le (by omega)) (k2.more_le (fun b z => List.mem_append_right _ z) (by omega))
end
end
/-- data whose repr is told, empty dicts too -/
structure RqOk (d : D) : Prop where
  ok : okE 60 d = true
  sh : d.py.showable = true
  ln : d.py.shown.length ≤ 16777216
theorem cr_reprE {X : Cx} (gu : X.A.guards = some []) (hu : X.A.units + 65 < cLine) : CallR X (.builtin "repr") (fun vs H Q => ∃ v ds, vs = [v] ∧ Rep X.K H (.lst ds) v ∧ RqOk (.lst ds) ∧ Q (.str (D.lst ds).py.shown) H) := by
  rintro pins s σ H xs us Q I rr ⟨v, ds, rfl, rp, ok, q⟩
  obtain ⟨u, rfl, ru⟩ := vals1 rr
  have ln' : (D.lst ds).py.shown.length ≤ sizeLine := by rw [sizeLine_eq]; exact ok.ln
  have hd := okE_depth 60 _ ok.ok
  obtain ⟨a, vs, rfl, h1, h2⟩ := rp
  cases ru
  obtain ⟨its, rv, ⟨ob, m, g, cl, _, dt⟩, _⟩ := I.list h1
  have all : ds.all (okE 59) = true := ok.ok
  obtain ⟨as, rd, bs, hb, hk⟩ := RepL.shk I 59 all h2 rv (by simpa only [D.py, PyData.showable] using ok.sh) fun t ht => Nat.le_trans (listText_mem_le ht) (by simpa only [D.py, PyData.shown] using ln')
  have r : Reads s.heap (.ref a) (.list (pyL ds)) (a :: as) := .list g cl (by rw [dt]) rd
  have dd : (D.lst ds).py.depth = PyData.depthAll (pyL ds) + 1 := by simp only [D.py, PyData.depth]
  have off : a ∉ bs := not_mem_of_deeper r (by show _ < (D.lst ds).py.depth; rw [dd]; exact Nat.lt_succ_self _) hb
  rw [dd] at hd
  refine call_repr_slot (by omega) ⟨ob, g, cl⟩ F.slot_list_repr.toG ?_
  cases its with
  | nil =>
    have e : (D.lst ds).py.shown = ("[]" : Str) := by
      cases rv
      cases ds with
      | nil => simp only [D.py, pyL, PyData.shown, PyData.shownAll, listText_nil]
      | cons d ds => obtain ⟨_, _, z, _⟩ := h2; cases z
    rw [e] at q
    exact call_list_repr_empty ⟨ob, g, cl⟩ g dt ⟨_, _, rfl, ⟨.str _, H, I.tok _, ⟨_, rfl⟩, q⟩⟩
  | cons x l =>
    have e : (D.lst ds).py.shown = listText (PyData.shownAll (pyL ds)) := by simp only [D.py, PyData.shown]
    rw [e] at q ln'
    exact call_list_reprK g cl dt off (by rw [hk.length_eq]; simp) (fun i y z => hk.item i y (by simpa using z)) gu (fun b _ => Clear.nil b) (by show X.A.units + 1 + _ < cLine; omega) (fun _ _ h => h) (fun h' u' tk kp => ⟨_, _, rfl, ⟨.str _, H, I.kept kp, ⟨_, rfl⟩, q⟩⟩) ln'
section
variable {M : Md} {X : Cx} {W : WX} {k : Nat} {Nm : List Str} {sc : Scope} {δ : List Slot} {a : Expr} {pos p : Pos} {P : D → Prop} {PX : Xd → Prop}
/-- repr(x), x a list that may be owned, where no repr is under way -/
theorem de_reprE (c : Ct M X W k Nm sc) (gu : X.A.guards = some []) (hg : GlS sc "repr") (hm : Bi M "repr") (h : DR X W a δ (fun d => ∃ ds, d = .lst ds ∧ RqOk d ∧ P (.str d.py.shown)) PX)
    (he : starEach [a] X.env = (false, eval a X.env) :: starEach [] X.env := by rfl) (hpl : (backTo pos (starEach [] X.env)).any (·.1) = false := by rfl) : DE X W (.Call (.Name "repr" p) [a] [] pos) δ P PX := by
  refine de_callBR c (cr_reprE gu c.u65) hg hm (by decide +kernel) (dar_cons (h.imp fun x ⟨ds, e, ok, p⟩ => dar_nil ?_) he) (by decide) (by decide) he hpl
  subst e
  intro vs H Q r q
  obtain ⟨v, rfl, rv⟩ := r.vals1
  exact ⟨v, ds, rfl, rv, ok, q _ _ H rfl p (Ex.refl H) rfl⟩
end
end PV

set_option Elab.async false
set_option linter.all false
set_option maxRecDepth 100000
set_option maxHeartbeats 4000000
/-! PV60: more that changes what is owned: displays, choices, tests, walks, items set; lists within lists read -/
namespace PV
open PySem PySem.Spec PyProof.Rows L2
section
variable {M : Md} {X : Cx} {W : WX} {k : Nat} {Nm : List Str} {sc : Scope} {δ δ' δ1 : List Slot} {e a b d2 o i' f t : Expr} {es : List Expr} {pos p apos : Pos} {x m : Str} {K : Fr} {st : Stmt} {rest body orelse : List Stmt}
section
variable {P : D → List Slot → Prop} {PX : Xd → List Slot → Prop}
theorem dx_tup {j : Nat} (h : DAX X W es δ (fun ds δ' => ds.length ≤ 100000 ∧ P (.tup ds) δ') PX) : DX X W (.Tuple es j pos) δ P PX := by
  intro Hb o0 own σ H Q o w q
  refine sem_pe (pe_tup pa_sem) ?_
  refine h Hb o0 own σ H _ o w fun ds vs own1 H1 δ1 ⟨hl, p⟩ o1 r => ⟨by rw [r.length, sizeLine_eq]; omega, fun l hl1 => ?_⟩
  refine q _ _ own1 _ δ1 p (o1.mono (Ex.new hl1)) ?_
  rw [mask_new o1.ow hl1]
  exact ⟨l, vs, rfl, SqT.of upd_same, r.mono (Ex.new (mask_at hl1))⟩
/-- a if t else b -/
theorem dx_if (h : DT X W t δ (fun i => (i = true → DX X W a δ P PX) ∧ (i = false → DX X W b δ P PX)) (fun x => PX x δ)) : DX X W (.IfExp t a b pos) δ P PX := by
  intro Hb o0 own σ H Q o w q
  refine sem_pe (pe_ifExp pt_sem pe_sem pe_sem) ?_
  refine h σ H own _ ⟨o.ow, o.sl, w own H δ o⟩ fun i H1 ⟨p1, p2⟩ e1 => ?_
  cases i with
  | true => exact iteT (p1 rfl Hb o0 own σ H1 Q (o.mono e1) w q)
  | false => exact iteF (p2 rfl Hb o0 own σ H1 Q (o.mono e1) w q)
/-- a new list as an object of one's own -/
theorem dx_cel {j : Nat} {cs : List (Addr × Cell)} (hh : Hs δ j cs) (h : DF X W e δ (fun ds => ∀ q, ∃ δ', Hput δ ((q, .lst ds) :: cs) j δ' ∧ P (.opq (.ref q)) δ') (fun x => PX x δ)) : DX X W e δ P PX := by
  intro Hb o0 own σ H Q o w q
  refine h σ H own _ ⟨o.ow, o.sl, w own H δ o⟩ fun ds l vs H2 hN e2 hl h2 r => ?_
  obtain ⟨δ', n1, p⟩ := hN l
  refine q _ _ (addOwn own l) H2 δ' p ?_ rfl
  rw [n1.S]
  exact o.newC (c := .lst ds) hh.S e2 hl h2 ⟨vs, h2, r⟩
/-- a test that changes what is owned -/
def DTX (X : Cx) (W : WX) (e : Expr) (δ : List Slot) (P : Bool → List Slot → Prop) (PX : Xd → List Slot → Prop) : Prop := ∀ Hb o0 own σ H (Q : Bool → Hp → Prop), Ok X.K Hb o0 own σ H δ → (∀ own' H' δ', Ok X.K Hb o0 own' σ H' δ' → WishX X.K (fun c d H => W c d σ H) own' H' (fun x => PX x δ')) →
  (∀ b own' H' δ', P b δ' → Ok X.K Hb o0 own' σ H' δ' → Q b H') → semT X e σ H Q
variable {PB : Bool → List Slot → Prop}
theorem dtx_of (h : DT X W e δ (fun b => PB b δ) (fun x => PX x δ)) : DTX X W e δ PB PX := by
  intro Hb o0 own σ H Q o w q
  exact h σ H own Q ⟨o.ow, o.sl, w own H δ o⟩ fun b H2 p e2 => q b own H2 δ p (o.mono e2)
theorem dtx_cmpG {op : CmpOp} {r : R2} (ho : OpR X (compareOp op) r) (hm : behindInMarks op b = false) (h : DX X W a δ (fun x δ1 => DE X W b δ1 (fun y => RW X.K r x y (fun d => d.flat = true ∧ ∃ i, d = .bl i ∧ PB i δ1)) (fun x => PX x δ1)) PX) : DTX X W (.Compare a [op] [b] pos) δ PB PX := by
  intro Hb o0 own σ H Q o w q
  refine sem_pt (pt_cmpR ho pe_sem pe_sem hm) ?_
  refine h Hb o0 own σ H _ o w fun x v own1 H1 δ1 hx o1 r1 => ?_
  refine hx σ H1 own1 _ ⟨o1.ow, o1.sl, w own1 H1 δ1 o1⟩ fun y u H2 hy e2 r2 => ?_
  refine hy v u H2 own1 _ (o1.mono e2).ow (r1.mono (mask_ex e2)) r2 fun d t H3 ⟨_, i, hd, p⟩ e3 r3 => ?_
  subst hd
  exact ⟨i, r3, q i own1 H3 δ1 p ((o1.mono e2).mono e3)⟩
theorem dtx_eq (c : Ct M X W k Nm sc) (h : DX X W a δ (fun x δ1 => DE X W b δ1 (fun y => RW X.K (rEqA X.K) x y (fun d => d.flat = true ∧ ∃ i, d = .bl i ∧ PB i δ1)) (fun x => PX x δ1)) PX) : DTX X W (.Compare a [.Eq] [b] pos) δ PB PX := dtx_cmpG (op_eq.or (op_eqD c.u64)) (nomark _) h
/-- a or b, b changing what is owned -/
theorem dtx_or (h : DT X W a δ (fun i => (i = true → PB true δ) ∧ (i = false → DTX X W b δ PB PX)) (fun x => PX x δ)) : DTX X W (.BoolOp .Or [a, b] pos) δ PB PX := by
  intro Hb o0 own σ H Q o w q pins s Iv
  refine (show semW X (.BoolOp .Or [a, b] pos) σ H Q from ?_) _ pins s Iv
  refine sem_pw (pw_or pt_sem pw_sem) ?_
  refine h σ H own _ ⟨o.ow, o.sl, w own H δ o⟩ fun i H1 ⟨p1, p2⟩ e1 => ?_
  cases i with
  | true => exact iteT (q _ own H1 δ (p1 rfl) (o.mono e1))
  | false => exact iteF (sem_pw (pw_or1 pt_sem) (p2 rfl Hb o0 own σ H1 Q (o.mono e1) w q))
theorem dtx_not (h : DTX X W a δ (fun i δ' => PB (!i) δ') PX) : DTX X W (.UnaryOp .Not a pos) δ PB PX := fun Hb o0 own σ H Q o w q => sem_pt (pt_not pt_sem) (h Hb o0 own σ H (fun i H' => Q (!i) H') o w fun i own' H' δ' p o' => q _ own' H' δ' p o')
end
section
variable {N : List Slot → Prop} {R : D → List Slot → Prop} {B C : List Slot → Prop} {PX : Xd → List Slot → Prop}
theorem Goal.wish {Hb : Hp} {o0 : Addr → Bool} {D' : Ends} {σ : L2.St} (g : Goal K W Hb o0 D' N R B C PX) : ∀ own' H' δ', Ok K Hb o0 own' σ H' δ' → WishX K (fun c d H => W c d σ H) own' H' (fun x => PX x δ') := fun own' H' δ' o' => g.px own' σ H' δ' o'
theorem ds_ifX (h : DTX X W e δ (fun i δ1 => (i = true → DSs X W body δ1 N R B C PX) ∧ (i = false → DSs X W orelse δ1 N R B C PX)) PX) : DS X W (.If e body orelse pos) δ N R B C PX := fun Hb o0 own D' σ H o g => by
  refine sem_ps (ps_if pt_sem pss_sem pss_sem) ?_
  refine h Hb o0 own σ H _ o g.wish fun i own1 H1 δ1 ⟨p1, p2⟩ o1 => ?_
  cases i with
  | true => exact iteT (p1 rfl Hb o0 own1 D' σ H1 o1 g)
  | false => exact iteF (p2 rfl Hb o0 own1 D' σ H1 o1 g)
/-- a walk whose thing's making changes what is owned -/
def DIX (X : Cx) (W : WX) (tg iter : Expr) (δ : List Slot) (P : List D → List Slot → Prop) (PX : Xd → List Slot → Prop) : Prop := ∀ Hb o0 own σ H (Q : It → Hp → Prop), Ok X.K Hb o0 own σ H δ → (∀ own' H' δ', Ok X.K Hb o0 own' σ H' δ' → WishX X.K (fun c d H => W c d σ H) own' H' (fun x => PX x δ')) →
  (∀ ds J own' H' δ', P ds δ' → Ok X.K Hb o0 own' σ H' δ' → Wk X.K own' H' J ds → Q J H') → semI X tg iter σ H Q
theorem dix_range1 {tg : Expr} {P : List D → List Slot → Prop} (c : Ct M X W k Nm sc) (hg : GlS sc "range") (hm : Bi M "range") (h : DX X W a δ (fun d δ1 => ∃ n, d = .int n ∧ -(2 ^ 62) ≤ n ∧ n < 2 ^ 62 ∧ P (rangeD 0 n.toNat) δ1) PX)
    (hs : starEach [a] X.env = [(false, eval a X.env)] := by rfl) : DIX X W tg (.Call (.Name "range" p) [a] [] pos) δ P PX := by
  intro Hb o0 own σ H Q o w q pins s I
  refine (pi_range1 (c.gl _ hg) (by rw [c.hmg]; exact hm) (pa_cons pe_sem pa_nil hs) hs).run pins s σ H Q I ?_
  refine h Hb o0 own σ H _ o w fun d v own1 H1 δ1 ⟨n, hd, h1, h2, p⟩ o1 r => ?_
  subst hd
  cases r
  exact ⟨n, rfl, h1, h2, q _ _ own1 H1 δ1 p o1 rangeD_wk⟩
theorem ds_forX (c : Ct M X W k Nm sc) {tg iter : Expr} (I : Nat → List Slot → Prop) (h : DIX X W tg iter δ (fun ds δ1 => I 0 δ1 ∧ (∀ i d δi, ds[i]? = some d → I i δi → ∃ δ2 T, DG M Nm sc tg d δi δ2 T ∧ DSs X W body δ2 (I (i + 1)) R N (I (i + 1)) PX) ∧ ∀ δn, I ds.length δn → N δn) PX)
    (hs : ∀ x, foldedSetIterable iter X.env x = pure x := by intro _; rfl) : DS X W (.For tg iter body [] pos) δ N R B C PX := fun Hb o0 own D' σ H o g => by
  refine sem_ps (ps_for c.po c.calm pi_sem pg_sem pss_sem hs) ?_
  refine h Hb o0 own σ H _ o g.wish fun ds J own1 H1 δ1 ⟨h0, step, fin⟩ o1 wk => ?_
  have eb := o1.fixEx
  refine ⟨fun i m σ' H' => m = ds.length - i ∧ i ≤ ds.length ∧ ∃ δi own', I i δi ∧ Ok X.K (fixedH own1 o0 H1) o0 own' σ' H' δi, ⟨ds.length, by simp, Nat.zero_le _, δ1, own1, h0, o1.fix⟩, ?_⟩
  rintro i m σ' H' ⟨rfl, hi, δi, own', hI, o'⟩
  obtain ⟨wk1, wk2⟩ := wk own' H' o'.ow (o'.still (Hb := Hb) o1.sub)
  by_cases hlt : i < ds.length
  · have hd : ds[i]? = some ds[i] := by simp [hlt]
    obtain ⟨go, yld⟩ := wk1 i ds[i] hd
    obtain ⟨δ2, T, ⟨gg, g1, g2⟩, hb⟩ := step i ds[i] δi hd hI
    refine .inr ⟨go, fun σ3 H3 => ∃ δ3 own3, I (i + 1) δ3 ∧ Ok X.K (fixedH own1 o0 H1) o0 own3 σ3 H3 δ3, fun σ3 H3 ⟨δ3, own3, i3, o3⟩ => ⟨ds.length - (i + 1), by omega, rfl, hlt, δ3, own3, i3, o3⟩, fun y H2 hy => ?_⟩
    obtain ⟨e2, r⟩ := yld y H2 hy
    have o2 := o'.mono e2
    have S2 := o2.sl
    rw [c.hK] at S2 r
    intro pins s u Iv ru
    refine (g1 X W k c).run pins s σ' H2 y u _ Iv ru (g2 y σ' H2 own' o0 _ S2 o2.acc r fun σ3 S3 a3 _ => ?_)
    rw [← c.hK] at S3
    have g' := g.unfix eb
    exact hb (fixedH own1 o0 H1) o0 own' _ σ3 H2 ⟨o2.sub, o2.ow, o2.mine, o2.ex, S3, a3⟩
      ⟨fun own4 σ4 H4 δ4 i4 o4 => ⟨δ4, own4, i4, o4⟩, g'.rt, g'.nx, fun own4 σ4 H4 δ4 i4 o4 => ⟨δ4, own4, i4, o4⟩, g'.px⟩
  · have e2 : i = ds.length := by omega
    subst e2
    exact .inl ⟨wk2 _ (Nat.le_refl _), (g.unfix eb).nx own' σ' H' δi (fin δi hI) o'⟩
/-- x[b] = e, x owned by its name, e changing what is owned -/
theorem ds_setIxX (c : Ct M X W k Nm sc) {i : Nat} {p2 tpos : Pos} (hi : Nm[i]? = some x) (hv : Vis sc x)
    (h : DX X W e δ (fun z δ1 => ∃ ds, At Nm δ1 x i (.acc ds) ∧ DE X W b δ1 (fun y => ∃ j : Int, y = .int j ∧ 0 ≤ j ∧ j < ds.length ∧ ∃ δ', Put Nm δ1 x (.acc (ds.set j.toNat z)) i δ' ∧ N δ') (fun x => PX x δ1)) PX)
    (hd : (x == ("__debug__" : Str)) = false := by decide) (hcd : (x == ("__classdict__" : Str)) = false := by decide)
    (ha : ∀ v, assign (.Subscript (.Name x p2) b tpos) X.env v = (do
      let ov ← holding [v] (eval (.Name x p2) X.env)
      let iv ← holding [v, ov] (eval b X.env)
      standAt tpos
      holding [v, ov, iv] (setItem ov iv v)
      release [v, ov, iv] []) := by intro _; rfl)
    (hs : swapsWithSole [.Subscript (.Name x p2) b tpos] e pos.line X.env = pure false := by rfl) (hw : swappedStores [.Subscript (.Name x p2) b tpos] e X.env = pure none := by rfl)
    (h1 : (assignEach [.Subscript (.Name x p2) b tpos] X.env).map (·.2) = [assign (.Subscript (.Name x p2) b tpos) X.env] := by rfl) : DS X W (.Assign [.Subscript (.Name x p2) b tpos] e pos) δ N R B C PX := fun Hb o0 own D' σ H o g => by
  refine sem_psL (ps_asg pe_sem (pg_sub (pe_var (i := i) (by rw [c.hN]; exact hi) (c.vis _ hv) hd hcd) pe_sem set_list ha) hs hw h1) fun hlen => ?_
  refine h Hb o0 own σ H _ o g.wish fun z v own1 H1 δ1 ⟨ds, hx, h2⟩ o1 r1 => ?_
  obtain ⟨y, g1, l, vs, rfl, g2, g3, r⟩ := o1.sl.at (hx.lt c hlen) hx.S
  refine ⟨_, g1, ?_⟩
  refine h2 σ H1 own1 _ (o1.sy g) fun y v2 H2 ⟨j, hy, j0, j1, δ', n, hn⟩ e2 r2 => ?_
  subst hy
  obtain ⟨j, rfl⟩ : ∃ n : Nat, j = n := ⟨j.toNat, by omega⟩
  refine ⟨l, vs, j, j, rfl, r2, e2 _ _ g3, ?_, ?_⟩
  · exact ixN_nat (by rw [r.length]; omega)
  · refine g.nx own1 _ _ δ' hn ?_
    rw [n.S]
    exact (o1.mono e2).wr hx.S g1 g2 ((r.mono (mask_ex e2)).set j (r1.mono (mask_ex e2)))
end
/-- a list times a number -/
theorem o_repL {ds : List D} {n : Int} {P : D → Prop} (h0 : 0 ≤ n) (h1 : n < 100000) (hz : ds.length * n.toNat ≤ 100000) (p : P (.lst (List.replicate n.toNat ds).flatten)) : RW K (rRepS K) (.lst ds) (.int n) P := by
  intro v w H own Q ow a b q
  obtain ⟨l, vs, rfl, hs, r⟩ := a
  cases b
  refine ⟨l, n, vs, rfl, rfl, ?_, h0, h1, by rw [r.length, sizeLine_eq]; omega, fun p' hp => ?_⟩
  · exact Ex.sqL mask_le hs
  · refine q _ _ _ p (Ex.new hp) ?_
    rw [mask_new ow hp]
    exact ⟨p', _, rfl, SqL.of upd_same, (r.rep n.toNat).mono (Ex.new (mask_at hp))⟩
/-- a list that holds lists that may be read -/
inductive Dp1 (δ : List Slot) : D → D → Prop
  | see {q ds} : See δ q (.lst ds) → Dp1 δ (.opq (.ref q)) (.lst ds)
  | val {d} : Dp1 δ d d
inductive Dps (δ : List Slot) : List D → List D → Prop
  | nil : Dps δ [] []
  | cons {x y xs ys} : Dp1 δ x y → Dps δ xs ys → Dps δ (x :: xs) (y :: ys)
theorem Dps.rep {own : Addr → Bool} {H : Hp} {σ : L2.St} (S : Slots K own H σ δ) : ∀ {xs ys : List D} {vs : List V}, Dps δ xs ys → RepL K (mask own H) xs vs → RepL K H ys vs
  | _, _, _, .nil, r => by cases r; rfl
  | _, _, _, .cons h t, r => by
    obtain ⟨v, vs, rfl, r1, r2⟩ := r
    refine ⟨v, vs, rfl, ?_, t.rep S r2⟩
    cases h with
    | val => exact r1.mono mask_le
    | see hs =>
      obtain rfl : v = .ref _ := r1
      obtain ⟨_, us, g1, g2⟩ := S.see hs
      exact ⟨_, us, rfl, SqL.of g1, g2.mono mask_le⟩
theorem dr_lsts {P : D → Prop} {PX : Xd → Prop} (h : DE X W e δ (fun d => ∃ xs ys, d = .lst xs ∧ Dps δ xs ys ∧ P (.lst ys)) PX) : DR X W e δ P PX := by
  intro σ H own Q S q'
  refine h σ H own _ S fun d v H2 ⟨xs, ys, hd, hs, p⟩ e2 r => ?_
  subst hd
  obtain ⟨l, vs, rfl, h1, h2⟩ := r
  exact q' (.lst ys) (.ref l) H2 p e2 ⟨l, vs, rfl, Ex.sqL mask_le h1, hs.rep (S.mono e2).sl h2⟩
theorem pts_one_ {c : Expr} {σ : L2.St} {H : Hp} {Q : Bool → Hp → Prop} (h : semT X c σ H Q) : semTs X [c] σ H Q := fun pins s I => (pts_one pt_sem).run pins s σ H Q I h
theorem dx_lcI (c : Ct M X W k Nm sc) {P : D → List Slot → Prop} {PX : Xd → List Slot → Prop} {tg iter elt cnd : Expr} {kd : ScopeKind} {ns : List (Str × NameKind)} {ge co : Bool} {mo : List (Str × Const)} {own : List (Str × Nat)} (hb : blkC Nm sc (Scope.mk kd ns ge co mo) own = true) (I : Nat → List D → List Slot → Prop)
    (hI : ∀ i ys δi, I i ys δi → tidy Nm.length δi = true ∧ wipeS δi (own.map (·.2)) = δi) (h0 : I 0 [] δ)
    (h : DI X W tg iter δ (fun ds => ds.length ≤ 100000 ∧ (∀ i d ys δi, ds[i]? = some d → I i ys δi → ys.length ≤ i → ∃ δ2 T, DG M Nm (Scope.mk kd ns ge co mo) tg d δi δ2 T ∧ (∀ j ∈ T, j ∈ own.map (·.2)) ∧ ∀ X', Ct M X' W0 k Nm (Scope.mk kd ns ge co mo) → DTX X' W0 cnd δ2 (fun b δ3 => (b = false → I (i + 1) ys (wipeS δ3 (own.map (·.2)))) ∧ (b = true → ∀ X', Ct M X' W0 k Nm (Scope.mk kd ns ge co mo) → DX X' W0 elt δ3 (fun y δ4 => I (i + 1) (ys ++ [y]) (wipeS δ4 (own.map (·.2)))) (fun _ _ => False))) (fun _ _ => False)) ∧
      ∀ ys δn, ys.length ≤ ds.length → I ds.length ys δn → P (.lst ys) δn) (fun x => PX x δ)) (hs : ∀ x, foldedSetIterable iter X.env x = pure x := by intro _; rfl) :
    DX X W (.ListComp elt [⟨tg, iter, [cnd], 0⟩] (Scope.mk kd ns ge co mo) pos) δ P PX := by
  intro Hb o0 own0 σ H Q o w q pins s Iv
  have hlen : σ.length = Nm.length := by rw [Iv.len, c.hN]
  revert pins s Iv
  show semE X _ σ H Q
  have hkd := kind_of_blk hb
  refine sem_pe (pe_lc c.calm c.nd pi_sem (c.blk _ _ hb) pg_blk pts_blk pe_blk hs) ?_
  have S : Sy X.K W own0 σ H δ (fun x => PX x δ) := ⟨o.ow, o.sl, w own0 H δ o⟩
  refine h σ H own0 _ S fun ds J H1 ⟨hz, body, fin⟩ e1 wk => ?_
  intro l hl
  have o1 := o.mono e1
  have hlo : own0 l = false := not_own o1.ow hl
  have h0l : o0 l = false := by
    cases hc : o0 l with
    | false => rfl
    | true => rw [o.sub l hc] at hlo; cases hlo
  have hbl : ∀ {H'' : Hp}, Ex H'' H1 → H'' l = none := fun e => e.free hl
  have wl : ∀ vs : List Nat, (L2.wipe σ vs).length = Nm.length := fun vs => by rw [L2.wipe_length]; exact hlen
  let Hf := fixedH own0 o0 H1
  let vs := own.map (·.2)
  have hfl : Hf l = none := hbl fixedH_le
  -- the state at the start
  have oF : Ok X.K Hf o0 own0 (L2.wipe σ vs) H1 δ := by
    have := o1.fix.wipe vs
    rw [(hI 0 [] δ h0).2] at this
    exact this
  have start : Ok X.K (upd Hf l (.lst [])) (addOwn o0 l) (addOwn own0 l) (L2.wipe σ vs) (upd H1 l (.lst [])) δ := by
    refine ⟨fun a ha => ?_, fun a ha => ?_, fun a h1 h2 => ?_, fun a u z => ?_, ?_, fun i s l' a b => ?_⟩
    · unfold addOwn at ha ⊢
      rcases Bool.or_eq_true_iff.mp ha with h | h
      · rw [oF.sub a h]; rfl
      · rw [h, Bool.or_true]
    · by_cases e : a = l
      · subst e; rw [upd_same]; exact fun z => nomatch z
      · rw [upd_ne e]
        refine oF.ow a ?_
        unfold addOwn at ha
        simpa [e] using ha
    · have e : a ≠ l := by rintro rfl; rw [addOwn_self] at h2; cases h2
      rw [upd_ne e]
      unfold addOwn at h1 h2
      exact oF.mine a (by simpa [e] using h1) (by simpa [e] using h2)
    · by_cases e : a = l
      · subst e; rw [upd_same] at z ⊢; exact z
      · rw [upd_ne e] at z ⊢; exact oF.ex a u z
    · exact oF.sl.add (Ex.new hl) hl
    · have h1 := oF.acc i s l' a b
      have e : l' ≠ l := by
        rintro rfl
        obtain ⟨γ, z⟩ := oF.sl
        have lt : i < (L2.wipe σ vs ++ γ).length := by rw [z.len]; exact (List.getElem?_eq_some_iff.mp a).1
        have hh : s.has ((L2.wipe σ vs ++ γ)[i]'lt) l' := by
          by_cases hi : i < (L2.wipe σ vs).length
          · have e2 : (L2.wipe σ vs)[i]? = some ((L2.wipe σ vs ++ γ)[i]'lt) := by
              rw [List.getElem?_eq_getElem hi, List.getElem_append_left hi]
            rw [e2] at b
            exact Slot.hasW_has b
          · rw [List.getElem?_eq_none (by omega)] at b
            cases s with
            | heap cs => exact b
            | look cs => exact b.elim
            | no => exact b.elim
            | val d => exact b.elim
            | acc d => cases b
            | adi d => cases b
            | ins l2 C fs => cases b
        have := (z.ok i _ s (List.getElem?_eq_getElem lt) a).own hh
        rw [hlo] at this; cases this
      unfold addOwn
      simp [h1, e]
  refine ⟨fun i mm H' => mm = ds.length - i ∧ i ≤ ds.length ∧ ∃ own' δi ys acc, I i ys δi ∧ ys.length ≤ i ∧ Ok X.K (upd Hf l (.lst acc)) (addOwn o0 l) own' (L2.wipe σ vs) H' δi ∧ RepL X.K (mask own' H') ys acc, ⟨ds.length, by simp, Nat.zero_le _, _, δ, [], [], h0, Nat.le_refl _, start, rfl⟩, ?_⟩
  rintro i mm H' ⟨rfl, hi, own', δi, ys, acc, hIi, hyl, o', r⟩
  have still : Ex (mask own0 H1) (mask own' H') := fun a u ha => by
    have q1 : own0 a = false := by
      cases qq : own0 a with
      | false => rfl
      | true => unfold mask at ha; rw [if_pos qq] at ha; cases ha
    have q2 : H1 a = some u := mask_le a u ha
    have ne : a ≠ l := by rintro rfl; rw [hl] at q2; cases q2
    have q3 : upd Hf l (.lst acc) a = some u := by
      rw [upd_ne ne]
      show fixedH own0 o0 H1 a = some u
      unfold fixedH
      rw [q1]; exact q2
    unfold mask
    rw [if_neg ?_]
    · exact o'.ex a u q3
    · intro z
      cases q4 : addOwn o0 l a with
      | true =>
        unfold addOwn at q4
        have : o0 a = true := by simpa [ne] using q4
        rw [o.sub a this] at q1; cases q1
      | false => rw [o'.mine a z q4] at q3; cases q3
  obtain ⟨wk1, wk2⟩ := wk own' H' o'.ow still
  have hL : H' l = some (.lst acc) := o'.ex l _ upd_same
  by_cases hlt : i < ds.length
  · have hd : ds[i]? = some ds[i] := by simp [hlt]
    obtain ⟨go, yld⟩ := wk1 i _ hd
    obtain ⟨δ2, T, ⟨gg, g1, g2⟩, hT, hbd⟩ := body i ds[i] ys δi hd hIi hyl
    refine .inr ⟨go, fun H3 => ∃ own' δi ys acc, I (i + 1) ys δi ∧ ys.length ≤ i + 1 ∧ Ok X.K (upd Hf l (.lst acc)) (addOwn o0 l) own' (L2.wipe σ vs) H3 δi ∧ RepL X.K (mask own' H3) ys acc, fun H3 h3 => ⟨ds.length - (i + 1), by omega, rfl, hlt, h3⟩, fun y H2 hy => ?_⟩
    obtain ⟨e2, ry⟩ := yld y H2 hy
    have o2 := o'.mono e2
    have S2 := o2.sl
    rw [c.hK] at S2 ry
    intro X' hX pins s u Iv ru
    refine (g1 X' W0 k (hX.ct c hkd)).run pins s _ H2 y u _ Iv ru (g2 y _ H2 own' (addOwn o0 l) _ S2 o2.acc ry fun σ3 S3 a3 but => ⟨?_, ?_⟩)
    · exact (wipe_but but hT).trans wipe_wipe
    · intro X3 hX3
      have c3 := hX3.ct c hkd
      have o3 : Ok M.K (upd Hf l (.lst acc)) (addOwn o0 l) own' σ3 H2 δ2 := ⟨o2.sub, o2.ow, o2.mine, o2.ex, S3, a3⟩
      have o3' : Ok X3.K (upd Hf l (.lst acc)) (addOwn o0 l) own' σ3 H2 δ2 := by rw [c3.hK]; exact o3
      refine pts_one_ (fun pins s Iv => (hbd X3 c3 _ (addOwn o0 l) own' σ3 H2 _ o3'.fix (fun _ _ _ _ => wish0) fun bb own4 H4 δ3 hq1 o4 => ?_) pins s Iv)
      have o4' := o4.unfix o3'.fixEx
      have st1 : Ex (mask own' H2) (mask own4 H4) := Ok.still (Hb := upd Hf l (.lst acc)) o3'.sub o4
      have o4m : Ok M.K (upd Hf l (.lst acc)) (addOwn o0 l) own4 σ3 H4 δ3 := by rw [← c3.hK]; exact o4'
      have rr : RepL X.K (mask own4 H4) ys acc := (r.mono (mask_ex e2)).mono st1
      cases bb with
      | true =>
        rw [if_pos rfl]
        intro X5 hX5
        have c5 := hX5.ct c hkd
        have o5 : Ok X5.K (upd Hf l (.lst acc)) (addOwn o0 l) own4 σ3 H4 δ3 := by rw [c5.hK]; exact o4m
        refine hq1.2 rfl X5 c5 _ (addOwn o0 l) own4 σ3 H4 _ o5.fix (fun _ _ _ _ => wish0) fun d v own5 H5 δ4 hd5 o6 r5 => ?_
        have o7 := o6.unfix o5.fixEx
        have hL5 : H5 l = some (.lst acc) := o7.ex l _ upd_same
        have st : Ex (mask own4 H4) (mask own5 H5) := Ok.still (Hb := upd Hf l (.lst acc)) o5.sub o6
        obtain ⟨ti, wi⟩ := hI _ _ _ hd5
        have o8 : Ok X.K (upd Hf l (.lst acc)) (addOwn o0 l) own5 (L2.wipe σ vs) H5 (wipeS δ4 vs) := by
          have := o7.wipe vs
          rw [wipe_but but hT, wipe_wipe] at this
          rw [c.hK, ← c5.hK]
          exact this
        refine ⟨acc, hL5, by rw [r.length, sizeLine_eq]; omega, own5, wipeS δ4 vs, ys ++ [d], acc ++ [v], hd5, by simp [hyl], o8.poke ti (wl vs) addOwn_self, ?_⟩
        rw [mask_upd_own (o8.sub l addOwn_self)]
        refine (rr.mono st).append (RepL.one ?_)
        rw [c.hK, ← c5.hK]
        exact r5
      | false =>
        rw [if_neg Bool.false_ne_true]
        refine ⟨own4, wipeS δ3 vs, ys, acc, hq1.1 rfl, by omega, ?_, rr⟩
        have := o4m.wipe vs
        rw [wipe_but but hT, wipe_wipe] at this
        rw [c.hK]
        exact this
  · have e2 : i = ds.length := by omega
    subst e2
    obtain ⟨ti, wi⟩ := hI _ _ _ hIi
    refine .inl ⟨wk2 _ (Nat.le_refl _), ?_⟩
    have oE := o'.leave ti (wl vs) h0l hfl
    have oE2 := (oE.unwipe wi).unfix o1.fixEx
    refine q (.lst ys) (.ref l) _ H' δi (fin ys δi hyl hIi) oE2 ⟨l, acc, rfl, SqL.of ?_, r.mono (mask_mono fun a z => (Bool.and_eq_true_iff.mp z).1)⟩
    show (if (own' l && !(l == l)) = true then none else H' l) = _
    rw [show (own' l && !(l == l)) = false by simp, if_neg Bool.false_ne_true]
    exact hL
end

theorem fn_okGH {M : Md} {y qual : Str} {st : Stmt} {f : Addr} {fd : FuncData} {N ps : List Str} {k n : Nat} {F : Phi} (G : Fun M.K y qual st f fd) (S : FnScope N ps (defScope st)) (hn : ps.length = n)
    (h : ∀ ds P PX, ds.length = n → F ds P PX → ∀ X W, Ct M X W k N (defScope st) → X.A.guards = some [] → DSs X W (defBody st) (startS N ds ++ [.heap []]) (fun _ => P .non) (fun d _ => P d) (fun _ => False) (fun _ => False) (fun x _ => PX x)) :
    FnG M.P M.w M.K M.mg M.base (k + 1) f fd ps (spD M.K n F) := by
  refine ⟨fun vs H Q E hh => by obtain ⟨own, ds, P, PX, _, r, hl, _⟩ := hh; rw [r.length, hl, hn], fun A outer s H args us vs Q E hr hg e0 hb hv hh => ?_⟩
  obtain ⟨oc, od, kV, doc, pm, an, cdv, ct, osl, rfl, lk, hcd⟩ := G.ex
  obtain ⟨own, ds, P, PX, ow, r, hl, hF, hq, hw⟩ := hh
  refine LamX.run_ofS (N := N) lk hcd S hr e0 hb hv (by rw [r.length, hl, hn]) fun hr' => ⟨_, pss_sem, ?_⟩
  have c : Ct M (cxOf (L2.CX M.P M.w) M.P M.w M.K M.mg M.base N qual (defScope st) f cdv A outer s H E) (fun cls d _ H => E cls d H) k N (defScope st) :=
    ⟨hr', rfl, takes_of rfl rfl rfl rfl, S.nd, rfl, rfl, rfl, rfl, rfl, rfl, fun x hx => hx, fun x hx => hx, fun x hx => hx, S.kind, fun x hx => hx, fun sc own hb => blkOk_by hb, passes_of rfl, fun x hx => .inl rfl⟩
  refine h ds P PX hl hF _ _ c hg H own own _ _ H ⟨fun a z => z, ow, fun a h1 h2 => absurd (h1.symm.trans h2) (by decide), Ex.refl H, slots_heap (slots_start0 r), fun i s l a b => ?_⟩
    ⟨fun own' σ' H' δ' p o' => hq .non .non H' p o'.ex rfl, fun own' σ' H' δ' d v p o' r => hq d v H' p o'.ex (r.mono (mask_mono o'.sub)), fun _ _ _ _ z _ => z.elim, fun _ _ _ _ z _ => z.elim,
      fun own' σ' H' δ' o' => ⟨fun c' p H2 e => hw.pl c' p H2 (o'.ex.trans e), fun c' fs p H2 d es e h1 r => hw.fl c' fs p H2 d es (o'.ex.trans e) (mask_mono o'.sub _ _ h1) (r.mono (mask_mono o'.sub))⟩⟩
  by_cases hi : i < (startS N ds).length
  · rw [List.getElem?_append_left hi] at a
    exact start_own0 i s l a b
  · rw [List.getElem?_append_right (by omega)] at a
    have : s = .heap [] := by
      cases hz : i - (startS N ds).length with
      | zero => rw [hz] at a; exact (Option.some.inj a).symm
      | succ n => rw [hz] at a; cases a
    subst this
    cases b
end PV

set_option Elab.async false
set_option linter.all false
set_option maxRecDepth 100000
set_option maxHeartbeats 4000000
/-! PV61: a list times a number -/
namespace PV
open PySem PySem.Spec PyProof.Rows L2
theorem fits_of {k : Nat} (h : ¬Builtin.List.listTooLong k = true) : k ≤ sizeLine := by
  unfold Builtin.List.listTooLong at h
  simpa using h
theorem list_mulG (l : Addr) (items : Array Value) (n : Nat) (dd : Option Addr) (sl : Array (Option Value)) (x : Int) (u : Tok) (a0 : ¬(!Builtin.List.listFitsIndex x) = true) (a1 : ¬items.size * x.toNat > (2 ^ 63 - 1) / 8) (a2 : ¬Builtin.List.listTooLong (items.size * x.toNat) = true) :
    Meets (Builtin.«list.__mul__» ⟨[.ref l, .int x u], []⟩) (fun _ R s => s.heap.get? l = some ⟨.type "list", dd, .seq items n, sl⟩ ∧ R (.ok (.ret (Value.ref s.heap.objs.size))) { s with heap := s.heap.push { cls := Value.type "list", data := Data.seq (List.foldl (fun a b => a ++ b) #[] (List.replicate (if items.isEmpty = true then 0 else x.toNat) items)) }, toks := s.toks }) :=
  .of_wp fun prog w A R st got => by
    obtain ⟨hp, gs, dr, tk, os⟩ := st
    obtain ⟨hl, h⟩ := got
    have fits : (List.foldl (fun a b => a ++ b) #[] (List.replicate (if items.isEmpty = true then 0 else x.toNat) items)).size ≤ sizeLine := by
      have f0 : ∀ (m : Nat) (acc : Array Value), (List.foldl (fun a b => a ++ b) acc (List.replicate m items)).size = acc.size + m * items.size := fun m => by
        induction m with
        | zero => intro acc; simp
        | succ m ih => intro acc; rw [List.replicate_succ, List.foldl_cons, ih, Array.size_append, Nat.succ_mul]; omega
      rw [f0]
      have := fits_of a2
      split
      · simp
      · rw [Nat.mul_comm] at this; simpa using this
    wp_walk
    refine wpAny_ite_false (decide_eq_false (Nat.not_lt.mpr fits)) ?_
    wp_walk
    exact ⟨_, rfl, h⟩
theorem int_rmulG (a : Int) (t : Tok) (l : Addr) (items : Array Value) (n : Nat) (dd : Option Addr) (sl : Array (Option Value)) :
    Meets (Builtin.«int.__rmul__» ⟨[.int a t, .ref l], []⟩) (fun _ R s => s.heap.get? l = some ⟨.type "list", dd, .seq items n, sl⟩ ∧ R (.ok (.ret Value.notImplemented)) s) :=
  .of_wp fun prog w A R st got => by
    obtain ⟨hp, gs, dr, tk, os⟩ := st
    obtain ⟨hl, h⟩ := got
    wp_walk
    exact ⟨_, rfl, h⟩
theorem op_repS {X : Cx} : OpR X (binaryOp .Mult) (rRepS X.K) := by
  intro pins s σ H x y v u Q I rx ry h
  obtain ⟨l, k, xs, rfl, rfl, hH, h1, h2, hz, q⟩ := h
  cases rx
  obtain ⟨t, rfl⟩ := ry
  obtain ⟨its, r, ⟨⟨cls, dd, data, sl⟩, m, ho, hc, hd0, hd⟩, _⟩ := I.list hH
  simp only at hc hd
  subst hc hd
  have sz : its.toArray.size * k.toNat ≤ sizeLine := by rw [List.size_toArray, ← r.length]; exact hz
  have cap : ¬ its.toArray.size * k.toNat > (2 ^ 63 - 1) / 8 := by
    have : (sizeLine : Nat) ≤ (2 ^ 63 - 1) / 8 := by decide
    omega
  have fit : ¬ (!Builtin.List.listFitsIndex k) = true := by
    rw [fitsIndex_both (by omega) (by omega)]
    exact Bool.false_ne_true
  have few : ¬ Builtin.List.listTooLong (its.toArray.size * k.toNat) = true := by
    rw [notLongL sz]
    exact Bool.false_ne_true
  have made : List.foldl (fun a b => a ++ b) #[] (List.replicate (if its.toArray.isEmpty = true then 0 else k.toNat) its.toArray) = (List.replicate k.toNat its).flatten.toArray := by
    have f0 : ∀ (m : Nat) (acc : List Value), List.foldl (fun a b => a ++ b) acc.toArray (List.replicate m its.toArray) = (acc ++ (List.replicate m its).flatten).toArray := fun m => by
      induction m with
      | zero => intro acc; simp
      | succ m ih =>
        intro acc
        rw [List.replicate_succ, List.foldl_cons, List.append_toArray, ih, List.replicate_succ, List.flatten_cons, List.append_assoc]
    have := f0 (if its.toArray.isEmpty = true then 0 else k.toNat) []
    rw [List.nil_append] at this
    rw [this]
    cases its with
    | nil => simp
    | cons a r' => rw [if_neg (by simp)]
  refine wpAny_binaryOp_repeat_ref (T := "list") (U := "int") (by decide) ⟨_, ho, rfl⟩ (fun s' => typeIs_int s' k t) noFill_list_mul F.fills_int_mul F.slot_int_rmul repeat_list F.slot_int_index.lookup
    (call_meets F.slot_int_rmul (typeIs_int s k t) F.entry_int_rmul (F.args_int_rmul_2 _ _) (int_rmulG k t l its.toArray _ dd sl)
      ⟨ho, rfl, ⟨_, ho, rfl⟩, call_meets F.slot_list_mul ⟨_, ho, rfl⟩ F.entry_list_mul (F.args_list_mul_2 _ _) (list_mulG l its.toArray _ dd sl k t fit cap few) ⟨ho, ?_⟩⟩)
  rw [made]
  exact ⟨.ref _, _, I.lnew (t' := s.toks) (r.rep k.toNat) (by rw [PyProof.Rows.lm_len_rep_flat, Nat.mul_comm]; exact hz), rfl, q _ I.fresh⟩
section
variable {X : Cx} {W : WX} {δ : List Slot} {a b : Expr} {pos : Pos} {P : D → Prop} {PX : Xd → Prop}
/-- xs * n, a list times a number -/
theorem de_mulL (h : DE X W a δ (fun x => DE X W b δ (fun y => RW X.K (rRepS X.K) x y P) PX) PX) : DE X W (.BinOp a .Mult b pos) δ P PX := de_bin op_repS h
end
end PV

set_option Elab.async false
set_option linter.all false
set_option maxRecDepth 100000
set_option maxHeartbeats 4000000
/-! PV62: plain data of bounded depth and size: its repr -/
namespace PV
open PySem PySem.Spec PyProof.Rows L2
abbrev TEN60 : Int := 1000000000000000000000000000000000000000000000000000000000000
/-- a text of ASCII signs, not long -/
def ascii (s : Str) : Bool := decide (s.length ≤ 64) && s.cps.toList.all fun c => decide (c < 128)
/-- plain data, at most n deep; empty dicts above the depth k alone -/
def pl : Nat → Nat → D → Bool
  | _, _, .non => true
  | _, _, .bl _ => true
  | _, _, .int i => decide (-TEN60 < i) && decide (i < TEN60)
  | _, _, .str s => ascii s
  | _, k + 1, .dic kvs => kvs.isEmpty
  | n + 1, k, .lst ds => ds.all (pl n (k - 1))
  | n + 1, k, .tup ds => ds.all (pl n (k - 1))
  | _, _, _ => false
mutual
/-- how many things -/
def wt : D → Nat
  | .lst ds => 1 + wtL ds
  | .tup ds => 1 + wtL ds
  | _ => 1
def wtL : List D → Nat
  | [] => 0
  | d :: ds => wt d + wtL ds
end
theorem wtL_app : ∀ (xs ys : List D), wtL (xs ++ ys) = wtL xs + wtL ys
  | [], ys => by simp [wtL]
  | x :: xs, ys => by show wt x + wtL (xs ++ ys) = wt x + wtL xs + wtL ys; rw [wtL_app xs ys]; omega
theorem wt_pos (d : D) : 1 ≤ wt d := by cases d <;> first | exact Nat.le_refl 1 | exact Nat.le_add_right 1 _
theorem wtL_len : ∀ (xs : List D), xs.length ≤ wtL xs
  | [] => Nat.le_refl 0
  | x :: xs => by
    have := wtL_len xs
    have := wt_pos x
    show xs.length + 1 ≤ wt x + wtL xs
    omega
theorem wtL_mem : ∀ {xs : List D} {x : D}, x ∈ xs → wt x ≤ wtL xs
  | y :: ys, x, h => by
    show wt x ≤ wt y + wtL ys
    rcases List.mem_cons.mp h with rfl | h
    · omega
    · have := wtL_mem h; omega
theorem ascii_ok {s : Str} (h : ascii s = true) : s.length ≤ 64 ∧ ∀ c ∈ s.cps.toList, c < 128 := by
  unfold ascii at h
  rw [Bool.and_eq_true, decide_eq_true_eq, List.all_eq_true] at h
  exact ⟨h.1, fun c hc => of_decide_eq_true (h.2 c hc)⟩
theorem ascii_str {s : Str} (h : ascii s = true) : PyData.strOk s = true := ok_of fun c hc => Nat.lt_trans ((ascii_ok h).2 c hc) (by decide)
theorem pl_up : ∀ (n m k j : Nat) (d : D), pl n k d = true → n ≤ m → k ≤ j → pl m j d = true := by
  intro n
  induction n with
  | zero =>
    intro m k j d h hm hk
    cases d with
    | dic kvs =>
      cases k with
      | zero => cases h
      | succ k => cases j with
        | zero => omega
        | succ j => cases m <;> exact h
    | lst ds => cases k <;> cases h
    | tup ds => cases k <;> cases h
    | obj C fs => cases k <;> cases h
    | exc C w fs => cases k <;> cases h
    | opq v => cases k <;> cases h
    | non => cases m <;> cases j <;> rfl
    | bl b => cases m <;> cases j <;> rfl
    | int i => cases k <;> cases m <;> cases j <;> exact h
    | str s => cases k <;> cases m <;> cases j <;> exact h
  | succ n ih =>
    intro m k j d h hm hk
    obtain ⟨m, rfl⟩ : ∃ z, m = z + 1 := ⟨m - 1, by omega⟩
    cases d with
    | dic kvs =>
      cases k with
      | zero => cases h
      | succ k => cases j with
        | zero => omega
        | succ j => exact h
    | lst ds =>
      have h : ds.all (pl n (k - 1)) = true := by cases k <;> exact h
      have g : ds.all (pl m (j - 1)) = true := by
        rw [List.all_eq_true] at h ⊢
        exact fun x hx => ih m (k - 1) (j - 1) x (h x hx) (by omega) (by omega)
      cases j <;> exact g
    | tup ds =>
      have h : ds.all (pl n (k - 1)) = true := by cases k <;> exact h
      have g : ds.all (pl m (j - 1)) = true := by
        rw [List.all_eq_true] at h ⊢
        exact fun x hx => ih m (k - 1) (j - 1) x (h x hx) (by omega) (by omega)
      cases j <;> exact g
    | obj C fs => cases k <;> cases h
    | exc C w fs => cases k <;> cases h
    | opq v => cases k <;> cases h
    | non => cases j <;> rfl
    | bl b => cases j <;> rfl
    | int i => cases k <;> cases j <;> exact h
    | str s => cases k <;> cases j <;> exact h
theorem pl_lst {n k : Nat} {ds : List D} : pl (n + 1) k (.lst ds) = ds.all (pl n (k - 1)) := by cases k <;> rfl
theorem pl_tup {n k : Nat} {ds : List D} : pl (n + 1) k (.tup ds) = ds.all (pl n (k - 1)) := by cases k <;> rfl
theorem pl_okN : ∀ (n : Nat) (d : D), pl n 0 d = true → okN n d = true := by
  intro n
  induction n with
  | zero => intro d h; cases d <;> first | rfl | exact ascii_str h | cases h
  | succ n ih =>
    intro d h
    cases d with
    | lst ds =>
      have h : ds.all (pl n 0) = true := h
      show ds.all (okN n) = true
      rw [List.all_eq_true] at h ⊢
      exact fun x hx => ih x (h x hx)
    | tup ds =>
      have h : ds.all (pl n 0) = true := h
      show ds.all (okN n) = true
      rw [List.all_eq_true] at h ⊢
      exact fun x hx => ih x (h x hx)
    | str s => exact ascii_str h
    | non => rfl
    | bl b => rfl
    | int i => rfl
    | _ => cases h
theorem pl_okE : ∀ (n k : Nat) (d : D), pl n k d = true → okE n d = true := by
  intro n
  induction n with
  | zero => intro k d h; cases k <;> cases d <;> first | rfl | exact ascii_str h | exact h | cases h
  | succ n ih =>
    intro k d h
    cases d with
    | lst ds =>
      rw [pl_lst] at h
      show ds.all (okE n) = true
      rw [List.all_eq_true] at h ⊢
      exact fun x hx => ih _ x (h x hx)
    | tup ds =>
      rw [pl_tup] at h
      show ds.all (okE n) = true
      rw [List.all_eq_true] at h ⊢
      exact fun x hx => ih _ x (h x hx)
    | str s => cases k <;> exact ascii_str h
    | non => rfl
    | bl b => rfl
    | int i => rfl
    | dic kvs => cases k <;> first | cases h | exact h
    | _ => cases k <;> cases h
theorem ofString_app (a b : String) : Str.ofString (a ++ b) = Str.ofString a ++ Str.ofString b := by
  rw [Str.ofString_eq_toList, Str.ofString_eq_toList, Str.ofString_eq_toList, String.toList_append, List.map_append]
  show (⟨_⟩ : Str) = ⟨_⟩
  rw [List.append_toArray]
theorem num_len (n : Nat) (h : n < 10 ^ 60) : (Str.ofString (toString (n : Int))).length ≤ 60 := by
  have e : Str.ofString (toString (n : Int)) = SX.S (TL.numL n) := SX.num_S n
  rw [e, SX.S_len]
  exact TL.numL_len (by decide) h
theorem int_len {i : Int} (h0 : -TEN60 < i) (h1 : i < TEN60) : (Str.ofString (toString i)).length ≤ 61 := by
  cases i with
  | ofNat n => exact Nat.le_trans (num_len n (by have : (n : Int) < TEN60 := h1; unfold TEN60 at this; omega)) (by decide)
  | negSucc n =>
    have e : toString (Int.negSucc n) = "-" ++ toString (n + 1) := rfl
    have e2 : toString ((n + 1 : Nat) : Int) = toString (n + 1) := rfl
    have h2 : n + 1 < 10 ^ 60 := by
      have : -TEN60 < Int.negSucc n := h0
      unfold TEN60 at this; omega
    have h3 := num_len (n + 1) h2
    rw [e2] at h3
    rw [e, ofString_app, Str.length_append]
    have : (Str.ofString "-").length = 1 := rfl
    omega
set_option exponentiation.threshold 2000 in
theorem int_log {i : Int} (h0 : -TEN60 < i) (h1 : i < TEN60) : i.natAbs.log2 < 1920 := by
  have h : i.natAbs < 2 ^ 1920 := by
    have : i.natAbs < 10 ^ 60 := by unfold TEN60 at h0 h1; omega
    exact Nat.lt_of_lt_of_le this (by decide)
  by_cases hz : i.natAbs = 0
  · rw [hz]; decide
  · exact (Nat.log2_lt hz).mpr h
theorem wtL_cons (d : D) (ds : List D) : wtL (d :: ds) = wt d + wtL ds := rfl
/-- its repr is told, and not long -/
theorem pl_shown : ∀ (n k : Nat) (d : D), pl n k d = true → d.py.showable = true ∧ d.py.shown.length + 5 ≤ 700 * wt d := by
  have aux : ∀ (n k : Nat) (ds : List D), (∀ d, pl n k d = true → d.py.showable = true ∧ d.py.shown.length + 5 ≤ 700 * wt d) → ds.all (pl n k) = true → PyData.showableAll (pyL ds) = true ∧ ((PyData.shownAll (pyL ds)).map (·.length)).sum + 5 * ds.length ≤ 700 * wtL ds ∧ (PyData.shownAll (pyL ds)).length = ds.length := by
    intro n k ds ih
    induction ds with
    | nil => intro _; exact ⟨rfl, Nat.le_refl _, rfl⟩
    | cons d r ihr =>
      intro h
      rw [List.all_cons, Bool.and_eq_true] at h
      obtain ⟨a1, a2⟩ := ih d h.1
      obtain ⟨b1, b2, b3⟩ := ihr h.2
      refine ⟨?_, ?_, ?_⟩
      · show (d.py.showable && PyData.showableAll (pyL r)) = true
        rw [a1, b1]; rfl
      · show ((d.py.shown :: PyData.shownAll (pyL r)).map (·.length)).sum + 5 * (d :: r).length ≤ _
        rw [List.map_cons, List.sum_cons, wtL_cons, List.length_cons]
        omega
      · show (d.py.shown :: PyData.shownAll (pyL r)).length = _
        rw [List.length_cons, b3, List.length_cons]
  have flat : ∀ (n k : Nat) (d : D), pl n k d = true → (∀ ds, d ≠ .lst ds) → (∀ ds, d ≠ .tup ds) → d.py.showable = true ∧ d.py.shown.length + 5 ≤ 700 := by
    intro n k d h h1 h2
    cases d with
    | non => exact ⟨rfl, by show (Str.ofString "None").length + 5 ≤ 700; decide⟩
    | bl b => cases b <;> exact ⟨rfl, by decide⟩
    | int i =>
      have h : (decide (-TEN60 < i) && decide (i < TEN60)) = true := by cases n <;> cases k <;> exact h
      rw [Bool.and_eq_true, decide_eq_true_eq, decide_eq_true_eq] at h
      exact ⟨decide_eq_true (int_log h.1 h.2), by have := int_len h.1 h.2; show (Str.ofString (toString i)).length + 5 ≤ 700; omega⟩
    | str s =>
      have h : ascii s = true := by cases n <;> cases k <;> exact h
      obtain ⟨a, b⟩ := ascii_ok h
      have := StrLaws.reprText_len s fun c hc => Nat.lt_trans (b c hc) (by decide)
      exact ⟨rfl, by show (reprText s).length + 5 ≤ 700; omega⟩
    | lst ds => exact absurd rfl (h1 ds)
    | tup ds => exact absurd rfl (h2 ds)
    | dic kvs => exact ⟨rfl, by show (dictText []).length + 5 ≤ 700; decide +kernel⟩
    | obj C fs => cases n <;> cases k <;> cases h
    | exc C w fs => cases n <;> cases k <;> cases h
    | opq v => cases n <;> cases k <;> cases h
  intro n
  induction n with
  | zero =>
    intro k d h
    have := flat 0 k d h (fun ds e => by subst e; cases k <;> cases h) (fun ds e => by subst e; cases k <;> cases h)
    exact ⟨this.1, Nat.le_trans this.2 (by have := wt_pos d; omega)⟩
  | succ n ih =>
    intro k d h
    by_cases hl : ∃ ds, d = .lst ds
    · obtain ⟨ds, rfl⟩ := hl
      rw [pl_lst] at h
      obtain ⟨a, b, e⟩ := aux n (k - 1) ds (fun d hd => ih (k - 1) d hd) h
      refine ⟨a, ?_⟩
      have h1 := listText_len_le (PyData.shownAll (pyL ds))
      rw [e] at h1
      show (listText (PyData.shownAll (pyL ds))).length + 5 ≤ 700 * (1 + wtL ds)
      omega
    by_cases ht : ∃ ds, d = .tup ds
    · obtain ⟨ds, rfl⟩ := ht
      rw [pl_tup] at h
      obtain ⟨a, b, e⟩ := aux n (k - 1) ds (fun d hd => ih (k - 1) d hd) h
      refine ⟨a, ?_⟩
      have h1 := tupleText_len_le (PyData.shownAll (pyL ds))
      rw [e] at h1
      show (tupleText (PyData.shownAll (pyL ds))).length + 5 ≤ 700 * (1 + wtL ds)
      omega
    · have := flat (n + 1) k d h (fun ds e => hl ⟨ds, e⟩) (fun ds e => ht ⟨ds, e⟩)
      exact ⟨this.1, Nat.le_trans this.2 (by have := wt_pos d; omega)⟩
theorem pl_rq {n k : Nat} {d : D} (h : pl n k d = true) (hn : n ≤ 60) (hw : wt d ≤ 20000) : RqOk d := by
  obtain ⟨a, b⟩ := pl_shown n k d h
  exact ⟨okE_up n 60 d (pl_okE n k d h) hn, a, by omega⟩
theorem pl_ty {n k : Nat} {d : D} (h : pl n k d = true) : d.tyN.isSome = true := by
  cases d with
  | obj C fs => cases n <;> cases k <;> cases h
  | exc C w fs => cases n <;> cases k <;> cases h
  | opq v => cases n <;> cases k <;> cases h
  | _ => rfl
end PV

set_option Elab.async false
set_option linter.all false
set_option maxRecDepth 100000
set_option maxHeartbeats 4000000
/-! PV63: y = a comprehension whose items, or whose condition, change what is owned; a place forgotten -/
namespace PV
open PySem PySem.Spec PyProof.Rows L2
section
variable {M : Md} {X : Cx} {W : WX} {k : Nat} {Nm : List Str} {sc : Scope} {δ δ' δ1 : List Slot} {e a b d2 o i' f t : Expr} {es : List Expr} {pos p apos : Pos} {x m : Str} {K : Fr} {st : Stmt} {rest body orelse : List Stmt}
theorem lc_readXI (c : Ct M X W k Nm sc) {Q' : List D → List Slot → Prop} {PX : Xd → List Slot → Prop} {tg iter elt cnd : Expr} {kd : ScopeKind} {ns : List (Str × NameKind)} {ge co : Bool} {mo : List (Str × Const)} {own : List (Str × Nat)} (hb : blkC Nm sc (Scope.mk kd ns ge co mo) own = true) (I : Nat → List D → List Slot → Prop)
    (hI : ∀ i ys δi, I i ys δi → tidy Nm.length δi = true ∧ wipeS δi (own.map (·.2)) = δi) (h0 : I 0 [] δ)
    (h : DI X W tg iter δ (fun ds => ds.length ≤ 100000 ∧ (∀ i d ys δi, ds[i]? = some d → I i ys δi → ys.length ≤ i → ∃ δ2 T, DG M Nm (Scope.mk kd ns ge co mo) tg d δi δ2 T ∧ (∀ j ∈ T, j ∈ own.map (·.2)) ∧ ∀ X', Ct M X' W0 k Nm (Scope.mk kd ns ge co mo) → DTX X' W0 cnd δ2 (fun b δ3 => (b = false → I (i + 1) ys (wipeS δ3 (own.map (·.2)))) ∧ (b = true → ∀ X', Ct M X' W0 k Nm (Scope.mk kd ns ge co mo) → DX X' W0 elt δ3 (fun y δ4 => I (i + 1) (ys ++ [y]) (wipeS δ4 (own.map (·.2)))) (fun _ _ => False))) (fun _ _ => False)) ∧
      ∀ ys δn, ys.length ≤ ds.length → I ds.length ys δn → Q' ys δn) (fun x => PX x δ))
    {Hb : Hp} {o0 own0 : Addr → Bool} {σ : L2.St} {H : Hp} {Q : VK} (o : Ok X.K Hb o0 own0 σ H δ) (w : ∀ own' H' δ', Ok X.K Hb o0 own' σ H' δ' → WishX X.K (fun c d H => W c d σ H) own' H' (fun x => PX x δ')) (hlen : σ.length = Nm.length)
    (q : ∀ ys l acc own' H' δ', Q' ys δ' → Ok X.K Hb o0 own' σ H' δ' → mask own' H' l = some (.lst acc) → RepL X.K (mask own' H') ys acc → Q (.ref l) H') :
    tLc (semI X tg iter) (semGF (Blk X (Scope.mk kd ns ge co mo)) tg) (semTF (Blk X (Scope.mk kd ns ge co mo)) [cnd]) (semF (Blk X (Scope.mk kd ns ge co mo)) elt) (own.map (·.2)) σ H Q := by
  have hkd := kind_of_blk hb
  have S : Sy X.K W own0 σ H δ (fun x => PX x δ) := ⟨o.ow, o.sl, w own0 H δ o⟩
  refine h σ H own0 _ S fun ds J H1 ⟨hz, body, fin⟩ e1 wk => ?_
  intro l hl
  have o1 := o.mono e1
  have hlo : own0 l = false := not_own o1.ow hl
  have h0l : o0 l = false := by
    cases hc : o0 l with
    | false => rfl
    | true => rw [o.sub l hc] at hlo; cases hlo
  have hbl : ∀ {H'' : Hp}, Ex H'' H1 → H'' l = none := fun e => e.free hl
  have wl : ∀ vs : List Nat, (L2.wipe σ vs).length = Nm.length := fun vs => by rw [L2.wipe_length]; exact hlen
  let Hf := fixedH own0 o0 H1
  let vs := own.map (·.2)
  have hfl : Hf l = none := hbl fixedH_le
  -- the state at the start
  have oF : Ok X.K Hf o0 own0 (L2.wipe σ vs) H1 δ := by
    have := o1.fix.wipe vs
    rw [(hI 0 [] δ h0).2] at this
    exact this
  have start : Ok X.K (upd Hf l (.lst [])) (addOwn o0 l) (addOwn own0 l) (L2.wipe σ vs) (upd H1 l (.lst [])) δ := by
    refine ⟨fun a ha => ?_, fun a ha => ?_, fun a h1 h2 => ?_, fun a u z => ?_, ?_, fun i s l' a b => ?_⟩
    · unfold addOwn at ha ⊢
      rcases Bool.or_eq_true_iff.mp ha with h | h
      · rw [oF.sub a h]; rfl
      · rw [h, Bool.or_true]
    · by_cases e : a = l
      · subst e; rw [upd_same]; exact fun z => nomatch z
      · rw [upd_ne e]
        refine oF.ow a ?_
        unfold addOwn at ha
        simpa [e] using ha
    · have e : a ≠ l := by rintro rfl; rw [addOwn_self] at h2; cases h2
      rw [upd_ne e]
      unfold addOwn at h1 h2
      exact oF.mine a (by simpa [e] using h1) (by simpa [e] using h2)
    · by_cases e : a = l
      · subst e; rw [upd_same] at z ⊢; exact z
      · rw [upd_ne e] at z ⊢; exact oF.ex a u z
    · exact oF.sl.add (Ex.new hl) hl
    · have h1 := oF.acc i s l' a b
      have e : l' ≠ l := by
        rintro rfl
        obtain ⟨γ, z⟩ := oF.sl
        have lt : i < (L2.wipe σ vs ++ γ).length := by rw [z.len]; exact (List.getElem?_eq_some_iff.mp a).1
        have hh : s.has ((L2.wipe σ vs ++ γ)[i]'lt) l' := by
          by_cases hi : i < (L2.wipe σ vs).length
          · have e2 : (L2.wipe σ vs)[i]? = some ((L2.wipe σ vs ++ γ)[i]'lt) := by
              rw [List.getElem?_eq_getElem hi, List.getElem_append_left hi]
            rw [e2] at b
            exact Slot.hasW_has b
          · rw [List.getElem?_eq_none (by omega)] at b
            cases s with
            | heap cs => exact b
            | look cs => exact b.elim
            | no => exact b.elim
            | val d => exact b.elim
            | acc d => cases b
            | adi d => cases b
            | ins l2 C fs => cases b
        have := (z.ok i _ s (List.getElem?_eq_getElem lt) a).own hh
        rw [hlo] at this; cases this
      unfold addOwn
      simp [h1, e]
  refine ⟨fun i mm H' => mm = ds.length - i ∧ i ≤ ds.length ∧ ∃ own' δi ys acc, I i ys δi ∧ ys.length ≤ i ∧ Ok X.K (upd Hf l (.lst acc)) (addOwn o0 l) own' (L2.wipe σ vs) H' δi ∧ RepL X.K (mask own' H') ys acc, ⟨ds.length, by simp, Nat.zero_le _, _, δ, [], [], h0, Nat.le_refl _, start, rfl⟩, ?_⟩
  rintro i mm H' ⟨rfl, hi, own', δi, ys, acc, hIi, hyl, o', r⟩
  have still : Ex (mask own0 H1) (mask own' H') := fun a u ha => by
    have q1 : own0 a = false := by
      cases qq : own0 a with
      | false => rfl
      | true => unfold mask at ha; rw [if_pos qq] at ha; cases ha
    have q2 : H1 a = some u := mask_le a u ha
    have ne : a ≠ l := by rintro rfl; rw [hl] at q2; cases q2
    have q3 : upd Hf l (.lst acc) a = some u := by
      rw [upd_ne ne]
      show fixedH own0 o0 H1 a = some u
      unfold fixedH
      rw [q1]; exact q2
    unfold mask
    rw [if_neg ?_]
    · exact o'.ex a u q3
    · intro z
      cases q4 : addOwn o0 l a with
      | true =>
        unfold addOwn at q4
        have : o0 a = true := by simpa [ne] using q4
        rw [o.sub a this] at q1; cases q1
      | false => rw [o'.mine a z q4] at q3; cases q3
  obtain ⟨wk1, wk2⟩ := wk own' H' o'.ow still
  have hL : H' l = some (.lst acc) := o'.ex l _ upd_same
  by_cases hlt : i < ds.length
  · have hd : ds[i]? = some ds[i] := by simp [hlt]
    obtain ⟨go, yld⟩ := wk1 i _ hd
    obtain ⟨δ2, T, ⟨gg, g1, g2⟩, hT, hbd⟩ := body i ds[i] ys δi hd hIi hyl
    refine .inr ⟨go, fun H3 => ∃ own' δi ys acc, I (i + 1) ys δi ∧ ys.length ≤ i + 1 ∧ Ok X.K (upd Hf l (.lst acc)) (addOwn o0 l) own' (L2.wipe σ vs) H3 δi ∧ RepL X.K (mask own' H3) ys acc, fun H3 h3 => ⟨ds.length - (i + 1), by omega, rfl, hlt, h3⟩, fun y H2 hy => ?_⟩
    obtain ⟨e2, ry⟩ := yld y H2 hy
    have o2 := o'.mono e2
    have S2 := o2.sl
    rw [c.hK] at S2 ry
    intro X' hX pins s u Iv ru
    refine (g1 X' W0 k (hX.ct c hkd)).run pins s _ H2 y u _ Iv ru (g2 y _ H2 own' (addOwn o0 l) _ S2 o2.acc ry fun σ3 S3 a3 but => ⟨?_, ?_⟩)
    · exact (wipe_but but hT).trans wipe_wipe
    · intro X3 hX3
      have c3 := hX3.ct c hkd
      have o3 : Ok M.K (upd Hf l (.lst acc)) (addOwn o0 l) own' σ3 H2 δ2 := ⟨o2.sub, o2.ow, o2.mine, o2.ex, S3, a3⟩
      have o3' : Ok X3.K (upd Hf l (.lst acc)) (addOwn o0 l) own' σ3 H2 δ2 := by rw [c3.hK]; exact o3
      refine pts_one_ (fun pins s Iv => (hbd X3 c3 _ (addOwn o0 l) own' σ3 H2 _ o3'.fix (fun _ _ _ _ => wish0) fun bb own4 H4 δ3 hq1 o4 => ?_) pins s Iv)
      have o4' := o4.unfix o3'.fixEx
      have st1 : Ex (mask own' H2) (mask own4 H4) := Ok.still (Hb := upd Hf l (.lst acc)) o3'.sub o4
      have o4m : Ok M.K (upd Hf l (.lst acc)) (addOwn o0 l) own4 σ3 H4 δ3 := by rw [← c3.hK]; exact o4'
      have rr : RepL X.K (mask own4 H4) ys acc := (r.mono (mask_ex e2)).mono st1
      cases bb with
      | true =>
        rw [if_pos rfl]
        intro X5 hX5
        have c5 := hX5.ct c hkd
        have o5 : Ok X5.K (upd Hf l (.lst acc)) (addOwn o0 l) own4 σ3 H4 δ3 := by rw [c5.hK]; exact o4m
        refine hq1.2 rfl X5 c5 _ (addOwn o0 l) own4 σ3 H4 _ o5.fix (fun _ _ _ _ => wish0) fun d v own5 H5 δ4 hd5 o6 r5 => ?_
        have o7 := o6.unfix o5.fixEx
        have hL5 : H5 l = some (.lst acc) := o7.ex l _ upd_same
        have st : Ex (mask own4 H4) (mask own5 H5) := Ok.still (Hb := upd Hf l (.lst acc)) o5.sub o6
        obtain ⟨ti, wi⟩ := hI _ _ _ hd5
        have o8 : Ok X.K (upd Hf l (.lst acc)) (addOwn o0 l) own5 (L2.wipe σ vs) H5 (wipeS δ4 vs) := by
          have := o7.wipe vs
          rw [wipe_but but hT, wipe_wipe] at this
          rw [c.hK, ← c5.hK]
          exact this
        refine ⟨acc, hL5, by rw [r.length, sizeLine_eq]; omega, own5, wipeS δ4 vs, ys ++ [d], acc ++ [v], hd5, by simp [hyl], o8.poke ti (wl vs) addOwn_self, ?_⟩
        rw [mask_upd_own (o8.sub l addOwn_self)]
        refine (rr.mono st).append (RepL.one ?_)
        rw [c.hK, ← c5.hK]
        exact r5
      | false =>
        rw [if_neg Bool.false_ne_true]
        refine ⟨own4, wipeS δ3 vs, ys, acc, hq1.1 rfl, by omega, ?_, rr⟩
        have := o4m.wipe vs
        rw [wipe_but but hT, wipe_wipe] at this
        rw [c.hK]
        exact this
  · have e2 : i = ds.length := by omega
    subst e2
    obtain ⟨ti, wi⟩ := hI _ _ _ hIi
    refine .inl ⟨wk2 _ (Nat.le_refl _), ?_⟩
    have oE := o'.leave ti (wl vs) h0l hfl
    have oE2 := (oE.unwipe wi).unfix o1.fixEx
    refine q ys l acc _ H' δi (fin ys δi hyl hIi) oE2 ?_ (r.mono (mask_mono fun a z => (Bool.and_eq_true_iff.mp z).1))
    show (if (own' l && !(l == l)) = true then none else H' l) = _
    rw [show (own' l && !(l == l)) = false by simp, if_neg Bool.false_ne_true]
    exact hL
theorem lc_readX (c : Ct M X W k Nm sc) {Q' : List D → List Slot → Prop} {PX : Xd → List Slot → Prop} {tg iter elt : Expr} {kd : ScopeKind} {ns : List (Str × NameKind)} {ge co : Bool} {mo : List (Str × Const)} {own : List (Str × Nat)} (hb : blkC Nm sc (Scope.mk kd ns ge co mo) own = true) (I : Nat → List D → List Slot → Prop)
    (hI : ∀ i ys δi, I i ys δi → tidy Nm.length δi = true ∧ wipeS δi (own.map (·.2)) = δi) (h0 : I 0 [] δ)
    (h : DI X W tg iter δ (fun ds => ds.length ≤ 100000 ∧ (∀ i d ys δi, ds[i]? = some d → I i ys δi → ys.length = i → ∃ δ2 T, DG M Nm (Scope.mk kd ns ge co mo) tg d δi δ2 T ∧ (∀ j ∈ T, j ∈ own.map (·.2)) ∧ ∀ X', Ct M X' W0 k Nm (Scope.mk kd ns ge co mo) → DX X' W0 elt δ2 (fun y δ3 => I (i + 1) (ys ++ [y]) (wipeS δ3 (own.map (·.2)))) (fun _ _ => False)) ∧
      ∀ ys δn, ys.length = ds.length → I ds.length ys δn → Q' ys δn) (fun x => PX x δ))
    {Hb : Hp} {o0 own0 : Addr → Bool} {σ : L2.St} {H : Hp} {Q : VK} (o : Ok X.K Hb o0 own0 σ H δ) (w : ∀ own' H' δ', Ok X.K Hb o0 own' σ H' δ' → WishX X.K (fun c d H => W c d σ H) own' H' (fun x => PX x δ')) (hlen : σ.length = Nm.length)
    (q : ∀ ys l acc own' H' δ', Q' ys δ' → Ok X.K Hb o0 own' σ H' δ' → mask own' H' l = some (.lst acc) → RepL X.K (mask own' H') ys acc → Q (.ref l) H') :
    tLc (semI X tg iter) (semGF (Blk X (Scope.mk kd ns ge co mo)) tg) (semTF (Blk X (Scope.mk kd ns ge co mo)) []) (semF (Blk X (Scope.mk kd ns ge co mo)) elt) (own.map (·.2)) σ H Q := by
  have hkd := kind_of_blk hb
  have S : Sy X.K W own0 σ H δ (fun x => PX x δ) := ⟨o.ow, o.sl, w own0 H δ o⟩
  refine h σ H own0 _ S fun ds J H1 ⟨hz, body, fin⟩ e1 wk => ?_
  intro l hl
  have o1 := o.mono e1
  have hlo : own0 l = false := not_own o1.ow hl
  have h0l : o0 l = false := by
    cases hc : o0 l with
    | false => rfl
    | true => rw [o.sub l hc] at hlo; cases hlo
  have hbl : ∀ {H'' : Hp}, Ex H'' H1 → H'' l = none := fun e => e.free hl
  have wl : ∀ vs : List Nat, (L2.wipe σ vs).length = Nm.length := fun vs => by rw [L2.wipe_length]; exact hlen
  let Hf := fixedH own0 o0 H1
  let vs := own.map (·.2)
  have hfl : Hf l = none := hbl fixedH_le
  -- the state at the start
  have oF : Ok X.K Hf o0 own0 (L2.wipe σ vs) H1 δ := by
    have := o1.fix.wipe vs
    rw [(hI 0 [] δ h0).2] at this
    exact this
  have start : Ok X.K (upd Hf l (.lst [])) (addOwn o0 l) (addOwn own0 l) (L2.wipe σ vs) (upd H1 l (.lst [])) δ := by
    refine ⟨fun a ha => ?_, fun a ha => ?_, fun a h1 h2 => ?_, fun a u z => ?_, ?_, fun i s l' a b => ?_⟩
    · unfold addOwn at ha ⊢
      rcases Bool.or_eq_true_iff.mp ha with h | h
      · rw [oF.sub a h]; rfl
      · rw [h, Bool.or_true]
    · by_cases e : a = l
      · subst e; rw [upd_same]; exact fun z => nomatch z
      · rw [upd_ne e]
        refine oF.ow a ?_
        unfold addOwn at ha
        simpa [e] using ha
    · have e : a ≠ l := by rintro rfl; rw [addOwn_self] at h2; cases h2
      rw [upd_ne e]
      unfold addOwn at h1 h2
      exact oF.mine a (by simpa [e] using h1) (by simpa [e] using h2)
    · by_cases e : a = l
      · subst e; rw [upd_same] at z ⊢; exact z
      · rw [upd_ne e] at z ⊢; exact oF.ex a u z
    · exact oF.sl.add (Ex.new hl) hl
    · have h1 := oF.acc i s l' a b
      have e : l' ≠ l := by
        rintro rfl
        obtain ⟨γ, z⟩ := oF.sl
        have lt : i < (L2.wipe σ vs ++ γ).length := by rw [z.len]; exact (List.getElem?_eq_some_iff.mp a).1
        have hh : s.has ((L2.wipe σ vs ++ γ)[i]'lt) l' := by
          by_cases hi : i < (L2.wipe σ vs).length
          · have e2 : (L2.wipe σ vs)[i]? = some ((L2.wipe σ vs ++ γ)[i]'lt) := by
              rw [List.getElem?_eq_getElem hi, List.getElem_append_left hi]
            rw [e2] at b
            exact Slot.hasW_has b
          · rw [List.getElem?_eq_none (by omega)] at b
            cases s with
            | heap cs => exact b
            | look cs => exact b.elim
            | no => exact b.elim
            | val d => exact b.elim
            | acc d => cases b
            | adi d => cases b
            | ins l2 C fs => cases b
        have := (z.ok i _ s (List.getElem?_eq_getElem lt) a).own hh
        rw [hlo] at this; cases this
      unfold addOwn
      simp [h1, e]
  refine ⟨fun i mm H' => mm = ds.length - i ∧ i ≤ ds.length ∧ ∃ own' δi ys acc, I i ys δi ∧ ys.length = i ∧ Ok X.K (upd Hf l (.lst acc)) (addOwn o0 l) own' (L2.wipe σ vs) H' δi ∧ RepL X.K (mask own' H') ys acc, ⟨ds.length, by simp, Nat.zero_le _, _, δ, [], [], h0, rfl, start, rfl⟩, ?_⟩
  rintro i mm H' ⟨rfl, hi, own', δi, ys, acc, hIi, hyl, o', r⟩
  have still : Ex (mask own0 H1) (mask own' H') := fun a u ha => by
    have q1 : own0 a = false := by
      cases qq : own0 a with
      | false => rfl
      | true => unfold mask at ha; rw [if_pos qq] at ha; cases ha
    have q2 : H1 a = some u := mask_le a u ha
    have ne : a ≠ l := by rintro rfl; rw [hl] at q2; cases q2
    have q3 : upd Hf l (.lst acc) a = some u := by
      rw [upd_ne ne]
      show fixedH own0 o0 H1 a = some u
      unfold fixedH
      rw [q1]; exact q2
    unfold mask
    rw [if_neg ?_]
    · exact o'.ex a u q3
    · intro z
      cases q4 : addOwn o0 l a with
      | true =>
        unfold addOwn at q4
        have : o0 a = true := by simpa [ne] using q4
        rw [o.sub a this] at q1; cases q1
      | false => rw [o'.mine a z q4] at q3; cases q3
  obtain ⟨wk1, wk2⟩ := wk own' H' o'.ow still
  have hL : H' l = some (.lst acc) := o'.ex l _ upd_same
  by_cases hlt : i < ds.length
  · have hd : ds[i]? = some ds[i] := by simp [hlt]
    obtain ⟨go, yld⟩ := wk1 i _ hd
    obtain ⟨δ2, T, ⟨gg, g1, g2⟩, hT, hbd⟩ := body i ds[i] ys δi hd hIi hyl
    refine .inr ⟨go, fun H3 => ∃ own' δi ys acc, I (i + 1) ys δi ∧ ys.length = i + 1 ∧ Ok X.K (upd Hf l (.lst acc)) (addOwn o0 l) own' (L2.wipe σ vs) H3 δi ∧ RepL X.K (mask own' H3) ys acc, fun H3 h3 => ⟨ds.length - (i + 1), by omega, rfl, hlt, h3⟩, fun y H2 hy => ?_⟩
    obtain ⟨e2, ry⟩ := yld y H2 hy
    have o2 := o'.mono e2
    have S2 := o2.sl
    rw [c.hK] at S2 ry
    intro X' hX pins s u Iv ru
    refine (g1 X' W0 k (hX.ct c hkd)).run pins s _ H2 y u _ Iv ru (g2 y _ H2 own' (addOwn o0 l) _ S2 o2.acc ry fun σ3 S3 a3 but => ⟨?_, ?_⟩)
    · exact (wipe_but but hT).trans wipe_wipe
    · intro X3 hX3
      have c3 := hX3.ct c hkd
      have o3 : Ok M.K (upd Hf l (.lst acc)) (addOwn o0 l) own' σ3 H2 δ2 := ⟨o2.sub, o2.ow, o2.mine, o2.ex, S3, a3⟩
      have S3' : Sy X3.K W0 own' σ3 H2 δ2 X0 := ⟨o3.ow, by rw [c3.hK]; exact S3, wish0⟩
      refine dts_nil (X := X3) (P := fun b => b = true) rfl σ3 H2 own' _ S3' fun bb H4 hq1 e4 => ?_
      cases bb with
      | true =>
        rw [if_pos rfl]
        intro X5 hX5
        have c5 := hX5.ct c hkd
        have o5 : Ok X5.K (upd Hf l (.lst acc)) (addOwn o0 l) own' σ3 H4 δ2 := by rw [c5.hK]; exact o3.mono e4
        refine hbd X5 c5 _ (addOwn o0 l) own' σ3 H4 _ o5.fix (fun _ _ _ _ => wish0) fun d v own5 H5 δ3 hd5 o6 r5 => ?_
        have o7 := o6.unfix o5.fixEx
        have hL5 : H5 l = some (.lst acc) := o7.ex l _ upd_same
        have st : Ex (mask own' H4) (mask own5 H5) := Ok.still (Hb := upd Hf l (.lst acc)) o5.sub o6
        obtain ⟨ti, wi⟩ := hI _ _ _ hd5
        have o8 : Ok X.K (upd Hf l (.lst acc)) (addOwn o0 l) own5 (L2.wipe σ vs) H5 (wipeS δ3 vs) := by
          have := o7.wipe vs
          rw [wipe_but but hT, wipe_wipe] at this
          rw [c.hK, ← c5.hK]
          exact this
        refine ⟨acc, hL5, by rw [r.length, sizeLine_eq]; omega, own5, wipeS δ3 vs, ys ++ [d], acc ++ [v], hd5, by simp [hyl], o8.poke ti (wl vs) addOwn_self, ?_⟩
        rw [mask_upd_own (o8.sub l addOwn_self)]
        have r' := (r.mono (mask_ex (e2.trans e4))).mono st
        refine r'.append (RepL.one ?_)
        rw [c.hK, ← c5.hK]
        exact r5
      | false => cases hq1
  · have e2 : i = ds.length := by omega
    subst e2
    obtain ⟨ti, wi⟩ := hI _ _ _ hIi
    refine .inl ⟨wk2 _ (Nat.le_refl _), ?_⟩
    have oE := o'.leave ti (wl vs) h0l hfl
    have oE2 := (oE.unwipe wi).unfix o1.fixEx
    refine q ys l acc _ H' δi (fin ys δi hyl hIi) oE2 ?_ (r.mono (mask_mono fun a z => (Bool.and_eq_true_iff.mp z).1))
    show (if (own' l && !(l == l)) = true then none else H' l) = _
    rw [show (own' l && !(l == l)) = false by simp, if_neg Bool.false_ne_true]
    exact hL
/-- y = [.. for ..], its items changing what is owned -/
theorem ds_setLcXI {N : List Slot → Prop} {R : D → List Slot → Prop} {B C : List Slot → Prop} {PX : Xd → List Slot → Prop} (c : Ct M X W k Nm sc) {i : Nat} {s0 : Slot} {p2 : Pos} {tg iter elt cnd : Expr} {kd : ScopeKind} {ns : List (Str × NameKind)} {ge co : Bool} {mo : List (Str × Const)} {own : List (Str × Nat)} (hx : At Nm δ x i s0) (hl : sc.names.lookup x = some .local) (hb : blkC Nm sc (Scope.mk kd ns ge co mo) own = true) (I : Nat → List D → List Slot → Prop)
    (hI : ∀ i ys δi, I i ys δi → tidy Nm.length δi = true ∧ wipeS δi (own.map (·.2)) = δi) (h0 : I 0 [] δ)
    (h : DI X W tg iter δ (fun ds => ds.length ≤ 100000 ∧ (∀ i d ys δi, ds[i]? = some d → I i ys δi → ys.length ≤ i → ∃ δ2 T, DG M Nm (Scope.mk kd ns ge co mo) tg d δi δ2 T ∧ (∀ j ∈ T, j ∈ own.map (·.2)) ∧ ∀ X', Ct M X' W0 k Nm (Scope.mk kd ns ge co mo) → DTX X' W0 cnd δ2 (fun b δ3 => (b = false → I (i + 1) ys (wipeS δ3 (own.map (·.2)))) ∧ (b = true → ∀ X', Ct M X' W0 k Nm (Scope.mk kd ns ge co mo) → DX X' W0 elt δ3 (fun y δ4 => I (i + 1) (ys ++ [y]) (wipeS δ4 (own.map (·.2)))) (fun _ _ => False))) (fun _ _ => False)) ∧
      ∀ ys δn, ys.length ≤ ds.length → I ds.length ys δn → ∃ δ', Put Nm δn x (.val (.lst ys)) i δ' ∧ N δ') (fun x => PX x δ)) (hs : ∀ x, foldedSetIterable iter X.env x = pure x := by intro _; rfl)
    (hp : (p2.line == p.line) = true := by rfl) (ha : (ns.any fun (n, k) => n == x && (k == .local || k == .cell)) = false := by decide +kernel) : DS X W (.Assign [.Name x p2] (.ListComp elt [⟨tg, iter, [cnd], 0⟩] (Scope.mk kd ns ge co mo) p) pos) δ N R B C PX := fun Hb o0 own' D' σ H o g => by
  refine sem_psL (ps_setLc c.calm c.nd (by rw [c.hN]; exact hx.N) (c.lcl _ hl) (sw_true c.kind (c.lcl _ hl) hp ha) pi_sem (c.blk _ _ hb) pg_blk pts_blk pe_blk hs) fun hlen => ?_
  refine lc_readXI (Q' := fun ys δn => ∃ δ', Put Nm δn x (.val (.lst ys)) i δ' ∧ N δ') c hb I hI h0 h o g.wish (by rw [hlen, c.hN]) fun ys l acc own2 H2 δ2 ⟨δ', n, hn⟩ o2 hm r => ?_
  refine g.nx own2 _ _ δ' hn ?_
  rw [n.S]
  exact o2.put i ⟨l, acc, rfl, SqL.of hm, r⟩
/-- y = [.. for ..], its items changing what is owned -/
theorem ds_setLcX {N : List Slot → Prop} {R : D → List Slot → Prop} {B C : List Slot → Prop} {PX : Xd → List Slot → Prop} (c : Ct M X W k Nm sc) {i : Nat} {s0 : Slot} {p2 : Pos} {tg iter elt : Expr} {kd : ScopeKind} {ns : List (Str × NameKind)} {ge co : Bool} {mo : List (Str × Const)} {own : List (Str × Nat)} (hx : At Nm δ x i s0) (hl : sc.names.lookup x = some .local) (hb : blkC Nm sc (Scope.mk kd ns ge co mo) own = true) (I : Nat → List D → List Slot → Prop)
    (hI : ∀ i ys δi, I i ys δi → tidy Nm.length δi = true ∧ wipeS δi (own.map (·.2)) = δi) (h0 : I 0 [] δ)
    (h : DI X W tg iter δ (fun ds => ds.length ≤ 100000 ∧ (∀ i d ys δi, ds[i]? = some d → I i ys δi → ys.length = i → ∃ δ2 T, DG M Nm (Scope.mk kd ns ge co mo) tg d δi δ2 T ∧ (∀ j ∈ T, j ∈ own.map (·.2)) ∧ ∀ X', Ct M X' W0 k Nm (Scope.mk kd ns ge co mo) → DX X' W0 elt δ2 (fun y δ3 => I (i + 1) (ys ++ [y]) (wipeS δ3 (own.map (·.2)))) (fun _ _ => False)) ∧
      ∀ ys δn, ys.length = ds.length → I ds.length ys δn → ∃ δ', Put Nm δn x (.val (.lst ys)) i δ' ∧ N δ') (fun x => PX x δ)) (hs : ∀ x, foldedSetIterable iter X.env x = pure x := by intro _; rfl)
    (hp : (p2.line == p.line) = true := by rfl) (ha : (ns.any fun (n, k) => n == x && (k == .local || k == .cell)) = false := by decide +kernel) : DS X W (.Assign [.Name x p2] (.ListComp elt [⟨tg, iter, [], 0⟩] (Scope.mk kd ns ge co mo) p) pos) δ N R B C PX := fun Hb o0 own' D' σ H o g => by
  refine sem_psL (ps_setLc c.calm c.nd (by rw [c.hN]; exact hx.N) (c.lcl _ hl) (sw_true c.kind (c.lcl _ hl) hp ha) pi_sem (c.blk _ _ hb) pg_blk pts_blk pe_blk hs) fun hlen => ?_
  refine lc_readX (Q' := fun ys δn => ∃ δ', Put Nm δn x (.val (.lst ys)) i δ' ∧ N δ') c hb I hI h0 h o g.wish (by rw [hlen, c.hN]) fun ys l acc own2 H2 δ2 ⟨δ', n, hn⟩ o2 hm r => ?_
  refine g.nx own2 _ _ δ' hn ?_
  rw [n.S]
  exact o2.put i ⟨l, acc, rfl, SqL.of hm, r⟩
/-- a place is forgotten -/
theorem Ok.no {Hb : Hp} {o0 own : Addr → Bool} {σ : L2.St} {H : Hp} (o : Ok K Hb o0 own σ H δ) (i : Nat) : Ok K Hb o0 own σ H (δ.set i .no) := by
  refine ⟨o.sub, o.ow, o.mine, o.ex, ?_, fun j s l a b => ?_⟩
  · have := o.sl.drop i (σ[i]?.getD none)
    rw [set_old] at this
    exact this
  · rw [List.getElem?_set] at a
    split at a
    · split at a
      · cases a; exact b.elim
      · cases a
    · exact o.acc j s l a b
theorem dss_no {N : List Slot → Prop} {R : D → List Slot → Prop} {B C : List Slot → Prop} {PX : Xd → List Slot → Prop} (i : Nat) (h : DSs X W rest (δ.set i .no) N R B C PX) : DSs X W rest δ N R B C PX := fun Hb o0 own D' σ H o g => h Hb o0 own D' σ H (Ok.no o i) g
end
end PV

set_option Elab.async false
set_option linter.all false
set_option maxRecDepth 100000
set_option maxHeartbeats 4000000
/-! PV64: isinstance of an own class's instance -/
namespace PV
open PySem PySem.Spec PyProof.Rows L2
/-- what is known of isinstance(o, T), o of the class C, T built in -/
structure IsO (M : Md) (C : Addr) (T : String) (b : Bool) : Prop where
  cl : Cls M.K C
  ha : PySem.W.findIn M.K (.ref C) "__class__" = some (some (.builtin "object.__class__"))
  hn : PySem.W.specialIn M.K (.builtin "object.__class__") "__get__" = some (some (.builtin "getset_descriptor.__get__"))
  htk : PySem.W.takesIn M.K (.builtin "object.__class__") = some true
  hm : PySem.W.mroIn M.K C (.type "object") = some true
  kt : PySem.W.kitOne M.K (.ref C) (.type T) = some b
section
variable {M : Md} {X : Cx} {W : WX} {k : Nat} {N : List Str} {sc : Scope} {δ : List Slot} {P : D → Prop} {PX : Xd → Prop} {e : Expr} {pos p : Pos} {x : Str}
theorem de_isiO {p2 : Pos} {T : String} (c : Ct M X W k N sc) (hg : GlS sc "isinstance") (hm : Bi M "isinstance") (hgx : GlS sc x) (hmx : Bi M x) (hv : bootBuiltins x = some (.type T))
    (h : DR X W e δ (fun d => ∃ C fs r, d = .obj C fs ∧ IsO M C T r ∧ P (.bl r)) PX) (hnx : x ≠ "__name__" := by decide) (hdx : (x == ("__debug__" : Str)) = false := by decide)
    (he : starEach [e, .Name x p2] X.env = (false, eval e X.env) :: starEach [.Name x p2] X.env := by rfl) (he2 : starEach [.Name x p2] X.env = (false, eval (.Name x p2) X.env) :: starEach [] X.env := by rfl) (hpl : (backTo pos (starEach [.Name x p2] X.env)).any (·.1) = false := by rfl) :
    DE X W (.Call (.Name "isinstance" p) [e, .Name x p2] [] pos) δ P PX := by
  refine de_callBR c call_isi hg hm (by decide +kernel) ?_ (by decide) (by decide) he hpl
  refine dar_cons ?_ he
  intro σ H own Q S q
  refine h σ H own _ S fun d v H1 ⟨C, fs, r, h1, ⟨k1, k2, k3, k4, k5, k6⟩, pr⟩ e1 r1 => q d v H1 ?_ e1 r1
  refine dar_cons (dr_of (de_tyname c hgx hmx hv ?_ hnx hdx)) he2
  refine dar_nil ?_
  intro vs H Q rr q
  obtain ⟨v, w, rfl, ra, rb⟩ := rr.vals2
  have e2 : w = .ty T := rb
  subst e2
  subst h1
  obtain ⟨a, dx, es, rfl, g1, _⟩ := ra
  rw [← c.hK] at k1 k2 k3 k4 k5 k6
  exact ⟨.ref a, .ty T, .ref C, .type T, r, rfl, .ty T, .base (.ins g1 k1 k2 k3 k4 k5), k6, q (.bl r) _ H rfl pr (Ex.refl H) rfl⟩
end
end PV

set_option Elab.async false
set_option linter.all false
set_option maxRecDepth 100000
set_option maxHeartbeats 4000000
/-! PV65: max of a list of plain data, told by whole numbers that the data stand by -/
namespace PV
open PySem PySem.Spec PyProof.Rows L2
theorem vals_back : ∀ {ws : List V} {us : List Value} {i : Nat} {u : Value}, Vals ws us → us[i]? = some u → ∃ w, ws[i]? = some w ∧ RelV w u := by
  intro ws us i u h e
  have hl := h.length
  have hi : i < ws.length := by
    have := (List.getElem?_eq_some_iff.mp e).1
    omega
  obtain ⟨u', h1, h2⟩ := Vals.get h (List.getElem?_eq_getElem hi)
  rw [h1] at e
  cases e
  exact ⟨_, List.getElem?_eq_getElem hi, h2⟩
def rMaxBy (K : PySem.W.Frag) : List V → Hp → VK → Prop := fun vs H Q => ∃ (l : Addr) (ws : List V) (xs : List PyData) (val : Nat → Int), vs = [V.ref l] ∧ SqL K H l ws ∧ DpAll K H ws xs ∧ 0 < xs.length ∧ PySem.W.AlikeAll xs ∧ PyData.depthAll xs ≤ 64 ∧ (∀ i j, i < xs.length → j < xs.length → PySem.W.dataLt (xs.getD j .none) (xs.getD i .none) = decide (val i > val j)) ∧ ∀ i w, ws[i]? = some w → (∀ j, j < xs.length → val j ≤ val i) → Q w H
theorem cr_maxBy {X : Cx} (hc : X.calm = true) (hu : X.A.units + 70 < cLine) : CallR X (.builtin "max") (rMaxBy X.K) := by
  intro pins s σ H vs us Q I r h
  obtain ⟨l, ws, xs, val, rfl, hs, hd, hne, ha, hdep, hb, q⟩ := h
  obtain ⟨its, rv, hl, _⟩ := I.list hs
  rw [Vals.ref1 r]
  obtain ⟨as, hr⟩ := Dp.readsAll I _ _ _ hd rv
  have hr : ReadsAll s.heap its.toArray.toList xs as := hr
  have hn := PySem.W.readsAll_len hr
  refine call_max_walkH (PySem.W.iter_listW (A := X.A.in1) (I.ok.hd hc) hl.isList fun s₂ e W st hfp hw hk => ?_)
  refine ⟨_, _, _, _, _, _, _, s.heap, (fun i j => decide (val i > val j)), rfl, W, st, hfp, by omega, hw, hk, fun i j vi vj s' Q E hk hi hj hq => ?_, fun v s' hP m => ?_⟩
  · obtain ⟨_, _, i1, _, _⟩ := PySem.W.readsAll_atA hr i vi hi
    obtain ⟨_, _, j1, _, _⟩ := PySem.W.readsAll_atA hr j vj hj
    refine PySem.W.cmpIn_gt (A := X.A.in1) hr ha (by show X.A.units + 1 + _ < _; omega) i j vi vj s' Q E hk hi hj ?_
    show Q (.bool (PySem.W.dataLt (xs.getD j .none) (xs.getD i .none))) s'
    rw [hb i j i1 j1]
    exact hq
  · obtain ⟨h', tk, rfl, hk'⟩ := PySem.W.moved_old e rfl m
    obtain ⟨w, h1, h2⟩ := vals_back rv (show its[_]? = some v by simpa using hP)
    obtain ⟨b1, b2⟩ := argBest_gt val (its.toArray.size - 1)
    exact ⟨w, H, I.kept hk', h2, q _ w h1 fun j hj => b2 j (by omega)⟩
theorem lens_lt {n m : Int} {t u : Str} (h : n = m → t = u) : PySem.W.dataLt (.tuple [.int n, .str t]) (.tuple [.int m, .str u]) = decide (m > n) := by
  rw [PySem.W.dataLt_tuple]
  by_cases e : n = m
  · subst e
    obtain rfl := h rfl
    rw [PySem.W.dataLt_all_yes rfl (by simp [PyData.eqv]), PySem.W.dataLt_all_yes rfl (by simp [PyData.eqv]), decide_eq_false (by omega)]
    rfl
  · rw [PySem.W.dataLt_all_no rfl (by simpa [PyData.eqv] using e), PySem.W.dataLt_int]
abbrev lenD (t : Str) : D := .tup [.int (t.length : Nat), .str t]
theorem pyL_lens : ∀ ts : List Str, pyL (ts.map lenD) = ts.map fun t => .tuple [.int (t.length : Nat), .str t]
  | [] => rfl
  | t :: r => by rw [List.map_cons, List.map_cons]; exact congrArg _ (pyL_lens r)
section
variable {M : Md} {X : Cx} {W : WX} {k : Nat} {Nm : List Str} {sc : Scope} {δ : List Slot} {P : D → Prop} {PX : Xd → Prop} {a : Expr} {pos p : Pos}
/-- max of texts with their lengths, of each length one at most -/
theorem de_maxLen (c : Ct M X W k Nm sc) (hg : GlS sc "max") (hm : Bi M "max") (h : DE X W a δ (fun x => ∃ ts : List Str, x = .lst (ts.map lenD) ∧ ts ≠ [] ∧ (∀ t ∈ ts, PyData.strOk t = true) ∧ (∀ t ∈ ts, ∀ u ∈ ts, t.length = u.length → t = u) ∧ ∀ t ∈ ts, (∀ u ∈ ts, u.length ≤ t.length) → P (lenD t)) PX)
    (he : starEach [a] X.env = (false, eval a X.env) :: starEach [] X.env := by rfl) (hpl : (backTo pos (starEach [] X.env)).any (·.1) = false := by rfl) : DE X W (.Call (.Name "max" p) [a] [] pos) δ P PX := by
  refine de_callB c (cr_maxBy c.calm (Nat.lt_of_le_of_lt (by omega) c.room.un)) hg hm (by decide +kernel) (da_cons (h.imp fun x hx => da_nil ?_) he) (by decide) (by decide) he hpl
  obtain ⟨ts, rfl, ne, hok, hu, hP⟩ := hx
  intro vs H own Q ow r q
  obtain ⟨v, rfl, l, ws, rfl, h1, h2⟩ := r.vals1
  have ok : (ts.map lenD).all (okN 60) = true := by
    rw [List.all_map, List.all_eq_true]
    intro t ht
    show (true && (PyData.strOk t && true)) = true
    rw [hok t ht]; rfl
  have dp := RepL.dp 60 ok (h2.mono mask_le)
  have hpy : pyL (ts.map lenD) = ts.map fun t => PyData.tuple [.int (t.length : Nat), .str t] := pyL_lens ts
  rw [hpy] at dp
  have at' : ∀ i (h : i < ts.length), (ts.map fun t => PyData.tuple [.int (t.length : Nat), .str t]).getD i .none = .tuple [.int (ts[i].length : Nat), .str ts[i]] := fun i h => by
    rw [List.getD_eq_getElem?_getD, List.getElem?_map, List.getElem?_eq_getElem h]; rfl
  refine ⟨l, ws, _, (fun i => ((ts.getD i "").length : Int)), rfl, mask_le.sqL h1, dp, by rw [List.length_map]; exact List.length_pos_iff.mpr ne, ⟨fun x hx y hy => ?_, fun x hx => ?_⟩, ?_, fun i j hi hj => ?_, fun i w hw hb => ?_⟩
  · obtain ⟨t, _, rfl⟩ := List.mem_map.mp hx
    obtain ⟨u, _, rfl⟩ := List.mem_map.mp hy
    rfl
  · obtain ⟨t, _, rfl⟩ := List.mem_map.mp hx
    exact fun z => nomatch z
  · have : ∀ ts : List Str, PyData.depthAll (ts.map fun t => PyData.tuple [.int (t.length : Nat), .str t]) ≤ 64 := by
      intro ts
      induction ts with
      | nil => exact Nat.zero_le _
      | cons t r ih =>
        show max (PyData.depth (.tuple [.int (t.length : Nat), .str t])) (PyData.depthAll _) ≤ 64
        have e : PyData.depth (.tuple [.int (t.length : Nat), .str t]) = 1 := rfl
        rw [e]
        omega
    exact this ts
  · rw [List.length_map] at hi hj
    rw [at' i hi, at' j hj, lens_lt (fun e => hu _ (List.getElem_mem hj) _ (List.getElem_mem hi) (by omega))]
    show _ = decide (((ts.getD i "").length : Int) > ((ts.getD j "").length : Int))
    rw [List.getD_eq_getElem?_getD, List.getD_eq_getElem?_getD, List.getElem?_eq_getElem hi, List.getElem?_eq_getElem hj]
    rfl
  · have hi : i < ts.length := by
      have := (List.getElem?_eq_some_iff.mp hw).1
      have e := h2.length
      rw [List.length_map] at e
      omega
    obtain ⟨d, u, hd⟩ := h2.getV hw
    rw [List.getElem?_map, List.getElem?_eq_getElem hi] at u
    cases u
    refine q _ _ H (hP _ (List.getElem_mem hi) fun x hx => ?_) (Ex.refl H) hd
    obtain ⟨j, hj, rfl⟩ := List.mem_iff_getElem.mp hx
    have := hb j (by rw [List.length_map]; exact hj)
    have : ((ts.getD j "").length : Int) ≤ ((ts.getD i "").length : Int) := this
    rw [List.getD_eq_getElem?_getD, List.getD_eq_getElem?_getD, List.getElem?_eq_getElem hi, List.getElem?_eq_getElem hj] at this
    simpa using this
end
end PV

set_option Elab.async false
set_option linter.all false
set_option maxRecDepth 100000
set_option maxHeartbeats 4000000
/-! PV66: methods whose answer is a new list: an early end, a list put together name by name -/
namespace PV
open PySem PySem.Spec PyProof.Rows L2
section
variable {M : Md} {X : Cx} {W : WX} {k : Nat} {Nm : List Str} {sc : Scope} {δ δ' δ1 : List Slot} {e a b d2 o : Expr} {es : List Expr} {pos p apos : Pos} {x m : Str} {K : Fr} {st : Stmt} {rest body : List Stmt}
theorem ls_if {P : List D → Prop} {PX : Xd → List Slot → Prop} (h : DT X W e δ (fun i => (i = true → LSs X W body δ P PX) ∧ (i = false → LSs X W rest δ P PX)) (fun x => PX x δ)) : LSs X W (.If e body [] pos :: rest) δ P PX := by
  intro Hb o0 own D' σ H o g
  refine sem_pss (pss_cons (ps_if pt_sem pss_sem pss_nil) pss_sem) ?_
  refine h σ H own _ ⟨o.ow, o.sl, g.px own σ H δ o⟩ fun i H1 ⟨p1, p2⟩ e1 => ?_
  cases i with
  | true => exact iteT (p1 rfl Hb o0 own _ σ H1 (o.mono e1) ⟨g.rt, g.px⟩)
  | false => exact iteF (p2 rfl Hb o0 own D' σ H1 (o.mono e1) g)
end
end PV

set_option Elab.async false
set_option linter.all false
set_option maxRecDepth 100000
set_option maxHeartbeats 4000000
/-! PV67: more expressions that change what is one's own: calls of built-ins and of classes with such arguments, slices, append, items of dicts -/
namespace PV
open PySem PySem.Spec PyProof.Rows L2
section
variable {M : Md} {X : Cx} {W : WX} {k : Nat} {Nm : List Str} {sc : Scope} {δ δ' δ1 : List Slot} {P : D → List Slot → Prop} {PX : Xd → List Slot → Prop} {e a b o i' : Expr} {es : List Expr} {pos p apos : Pos} {x m : Str} {N : List Slot → Prop} {R : D → List Slot → Prop} {B C : List Slot → Prop}
theorem dx_callT {T : String} {r : List V → Hp → VK → Prop} (c : Ct M X W k Nm sc) (hc : CallR X (.type T) r) (hg : GlS sc x) (hm : Bi M x) (hv : bootBuiltins x = some (.type T))
    (h : DAX X W (e :: es) δ (fun ds δ1 => ∀ vs H own (Q : VK), (∀ a, own a = true → H a ≠ none) → RepL X.K (mask own H) ds vs → (∀ d u H2, P d δ1 → Ex H H2 → Rep X.K (mask own H2) d u → Q u H2) → r vs H Q) PX)
    (hn : x ≠ "__name__" := by decide) (hdb : (x == ("__debug__" : Str)) = false := by decide) (he : starEach (e :: es) X.env = (false, eval e X.env) :: starEach es X.env := by rfl) (hpl : (backTo pos (starEach es X.env)).any (·.1) = false := by rfl) :
    DX X W (.Call (.Name x p) (e :: es) [] pos) δ P PX := by
  intro Hb o0 own σ H Q o w q
  refine sem_pe (pe_callTy hc (c.gl _ hg) (by rw [c.hmg]; exact hm) hv pa_sem hn hdb he hpl) ?_
  refine h Hb o0 own σ H _ o w fun ds vs own1 H1 δ1 p o1 r1 => ?_
  exact p vs H1 own1 Q o1.ow r1 fun d u H2 p2 e2 r2 => q d u own1 H2 δ1 p2 (o1.mono e2) r2
theorem dx_str (c : Ct M X W k Nm sc) (hg : GlS sc "str") (hm : Bi M "str") (h : DX X W a δ (fun x δ1 => ∃ t, strD x t ∧ P (.str t) δ1) PX)
    (he : starEach [a] X.env = (false, eval a X.env) :: starEach [] X.env := by rfl) (hpl : (backTo pos (starEach [] X.env)).any (·.1) = false := by rfl) : DX X W (.Call (.Name "str" p) [a] [] pos) δ P PX := by
  refine dx_callT c call_strA hg hm (by decide +kernel) (dax_cons (fun Hb o0 own σ H Q o w q => h Hb o0 own σ H Q o w fun d v own' H' δ' p o' r => q d v own' H' δ' (dax_nil ?_) o' r) he) (by decide) (by decide) he hpl
  obtain ⟨t, hx, p⟩ := p
  intro vs H own Q ow r q
  obtain ⟨v, rfl, r1⟩ := r.vals1
  cases d with
  | int i => exact .inl ⟨i, by rw [show v = V.int i from r1], hx.1, by have := q (.str t) (.str t) H p (Ex.refl H) rfl; rw [hx.2] at this; exact this⟩
  | str s => exact .inr ⟨s, by rw [show v = V.str s from r1], by have := q (.str t) (.str t) H p (Ex.refl H) rfl; rw [show t = s from hx] at this; exact this⟩
  | _ => exact hx.elim
/-- e[:h], h changing what is owned -/
theorem dx_sliceH {hi : Expr} {p2 : Pos} (h : DX X W e δ (fun x δ1 => DX X W hi δ1 (fun y δ2 => ∃ j, y = .int j ∧ RS X.K x none (some j) (fun d => P d δ2)) PX) PX) : DX X W (.Subscript e (.Slice none (some hi) none p2) pos) δ P PX := by
  intro Hb o0 own σ H Q o w q
  refine sem_pe (pe_slice (sl_list.or (sl_tupA.or sl_str)) pe_sem po_none (po_some pe_sem)) ?_
  refine h Hb o0 own σ H _ o w fun x v own1 H1 δ1 p1 o1 r1 => ?_
  refine p1 _ o0 own1 σ H1 _ o1.fix (fun own' H' δ' o' => w own' H' δ' (o'.unfix o1.fixEx)) fun y u own2 H2 δ2 ⟨j, hy, p2⟩ o2 r2 => ?_
  subst hy
  have e := Ok.still (Hb := Hb) o1.sub o2
  refine ⟨j, r2, ?_⟩
  exact p2 v H2 own2 Q o2.ow (r1.mono e) fun d t H3 p e3 r3 => q d t own2 H3 δ2 p ((o2.unfix o1.fixEx).mono e3) r3
/-- C(e, ..), the arguments changing what is owned; all of it new -/
theorem dx_makeW {j n : Nat} {F : PhiI} {C : Addr} {dv : List D} (c : Ct M X W k Nm sc) (hm : M.mg x = some (.ref C)) (f : MkOkN M C j n F dv) (hj : j + 1 ≤ k) (hg : GlS sc x) (h : DAX X W (e :: es) δ (fun ds δ1 => (ds ++ dv).length + 1 = n ∧ F (ds ++ dv) (fun fs => P (.obj C fs) δ1) (fun x => (∃ c, x = .plain c) ∧ PX x δ1)) PX)
    (hdb : (x == ("__debug__" : Str)) = false := by decide) (he : starEach (e :: es) X.env = (false, eval e X.env) :: starEach es X.env := by rfl) (hpl : (backTo pos (starEach es X.env)).any (·.1) = false := by rfl) : DX X W (.Call (.Name x p) (e :: es) [] pos) δ P PX := by
  obtain ⟨fa, fd, ps, us0, vs0, G, hM, hb, hv, hrep⟩ := f.ex
  rw [← c.hK] at hM hb hrep
  rw [← c.hmg] at hm
  rw [← c.hP, ← c.hw, ← c.hK, ← c.hmg, ← c.hb] at G
  intro Hb o0 own0 σ H Q o w q pins s I
  have h1 : semA X (e :: es) σ H fun vs H1 => ∀ l dx, H1 l = none → H1 dx = none → dx ≠ l → spIN X.K C n F (.ref l :: (vs ++ vs0)) (upd (upd H1 dx (.own l)) l (.ins C dx [])) (fun v H2 => v = .non ∧ Q (.ref l) H2) (fun cls d H => W cls d σ H) := by
    refine h Hb o0 own0 σ H _ o w fun ds vs own H1 δ1 ⟨hn, hF⟩ o1 r l dx hl hd hne => ?_
    have S1 : Sy X.K W own σ H1 δ1 (fun x => PX x δ1) := ⟨o1.ow, o1.sl, w own H1 δ1 o1⟩
    have e2 : Ex H1 (upd (upd H1 dx (.own l)) l (.ins C dx [])) := fun a u z => by
      rw [upd_ne (ne_of_none z hl), upd_ne (ne_of_none z hd)]
      exact z
    have ho : own l = false := not_own S1.ow hl
    have eb : Ex H1 (but l (upd (upd H1 dx (.own l)) l (.ins C dx []))) := fun a u z => by
      rw [but_ne (ne_of_none z hl)]
      exact e2 a u z
    have r1 : RepL X.K (mask (fun _ => false) H1) (ds ++ dv) (vs ++ vs0) := by rw [mask_none]; exact (r.mono mask_le).append (hrep _)
    refine ⟨fun _ => false, l, dx, vs ++ vs0, ds ++ dv, fun fs => P (.obj C fs) δ1, _, rfl, rfl, (fun a z => nomatch z), upd_same, r1.mono (mask_add e2 hl), hn, hF, fun fs es' dx' H' p e3 g1 r1 => ⟨rfl, ?_⟩, S1.wi.plain.mono eb⟩
    refine q (.obj C fs) _ own H' δ1 p (o1.mono (eb.trans e3)) ⟨l, dx', es', rfl, ?_, r1.mono (newH_ex fun a z y => S1.ow a z (e2.free y))⟩
    unfold mask
    rw [ho]
    exact g1
  refine wpAny_Call_Name_kw (ld_glob I (c.gl _ hg) hm ?_ hdb)
  refine PySem.W.callWith_K (h₀ := X.base) I.ok.mod.kin hM.kp (thn (h1 pos pins s I) fun us s1 ⟨vs, H1, I1, r, q1⟩ => ⟨I1.kIn, ?_⟩) he hpl
  exact make_at hM G (c.room.mono hj) hb hv (passAt c.tk σ) I1 r q1
/-- d[k] = e, d an owned object, e and k changing what is owned -/
theorem ds_dputX (c : Ct M X W k Nm sc) {j : Nat} {q : Addr} {tpos : Pos}
    (h : DX X W e δ (fun z δ1 => DE X W o δ1 (fun d => d = .opq (.ref q)) (fun x => PX x δ1) ∧ DX X W i' δ1 (fun y δ2 => ∃ (key : Key) (cs : List (Addr × Cell)) (kvs : List (Key × D)), y = keyD key ∧ Hs δ2 j cs ∧ Cin q (.dic kvs) cs ∧ kvs.length < 100000 ∧ ∃ cs' δ', Cput q (.dic (putKD kvs key z)) cs cs' ∧ Hput δ2 cs' j δ' ∧ N δ') PX) PX)
    (hs : swapsWith e (some (.Subscript o i' tpos)) pos.line X.env = pure false := by rfl) : DS X W (.Assign [.Subscript o i' tpos] e pos) δ N R B C PX := fun Hb o0 own D' σ H ok g => by
  refine sem_ps (ps_dput (by have := c.u64; omega) pe_sem pe_sem pe_sem hs) ?_
  refine h Hb o0 own σ H _ ok g.wish fun z v own1 H1 δ1 ⟨ho, h2⟩ o1 r1 => ?_
  refine ho σ H1 own1 _ (o1.sy g) fun d u H2 hd e2 r2 => ?_
  subst hd
  obtain rfl : u = .ref q := r2
  have o2 := o1.mono e2
  refine h2 _ o0 own1 σ H2 _ o2.fix (fun own' H' δ' o' => g.wish own' H' δ' (o'.unfix o2.fixEx)) fun y w own3 H3 δ2 ⟨key, cs, kvs, hy, hh, m, hz, cs', δ', w1, w2, hn⟩ o3 r3 => ?_
  have e := Ok.still (Hb := Hb) o2.sub o3
  subst hy
  rw [keyD_rep r3]
  have o4 := o3.unfix o2.fixEx
  obtain ⟨hq, es, g1, g2⟩ := o4.sl.cell hh.S m
  refine ⟨q, _, rfl, .k g1 (by rw [g2.length, sizeLine_eq]; omega), ?_⟩
  refine g.nx own3 σ _ δ' hn ?_
  rw [w2.S]
  refine o4.wrC hh.S w1 ⟨_, upd_same, ?_⟩
  rw [mask_upd_own hq]
  exact g2.put ((r1.mono (mask_ex e2)).mono e)
/-- x.append(e), x owned by its name, e changing what is owned -/
theorem ds_appendX (c : Ct M X W k Nm sc) {i : Nat} {ds : List D} {p2 cpos : Pos} (hx : At Nm δ x i (.acc ds)) (hv : Vis sc x)
    (h : DX X W e δ (fun d δ1 => ∃ ds, At Nm δ1 x i (.acc ds) ∧ ds.length < 100000 ∧ ∃ δ', Put Nm δ1 x (.acc (ds ++ [d])) i δ' ∧ N δ') PX)
    (hd : (x == ("__debug__" : Str)) = false := by decide) (hcd : (x == ("__classdict__" : Str)) = false := by decide)
    (hbase : attributeBase (.Name x p2) "append" X.env (eval (.Name x p2) X.env) = eval (.Name x p2) X.env := by rfl)
    (hfew : ((backTo cpos (starEach [e] X.env)).all (fun x => !x.1) && (backToKw cpos (keywordEach [] X.env)).all (fun x => x.1.isSome)
      && decide ([e].length + ([] : List Keyword).length + (if ([] : List Keyword).isEmpty then 0 else 1) < 30)) = true := by rfl)
    (hline : (apos.endLine == cpos.line) = true := by rfl) (hs : starEach [e] X.env = (false, eval e X.env) :: starEach [] X.env := by rfl) (hplain : (backTo cpos (starEach [] X.env)).any (·.1) = false := by rfl)
    (hsw : swapsWith (.Call (.Attribute (.Name x p2) "append" apos) [e] [] cpos) none pos.line X.env = pure false := by rfl) :
    DS X W (.Expr (.Call (.Attribute (.Name x p2) "append" apos) [e] [] cpos) pos) δ N R B C PX := fun Hb o0 own D' σ H o g => by
  refine sem_psL (ps_expr (pe_bm PySem.F.plainAttrs_list PySem.F.slot_list_append PySem.F.type_list_append mt_append (pe_var (i := i) (by rw [c.hN]; exact hx.N) (c.vis _ hv) hd hcd) (pa_cons pe_sem pa_nil hs) hbase hfew hline hs hplain) hsw) fun hlen => ?_
  obtain ⟨y, h1, l, vs, rfl, h2, h3, r⟩ := o.sl.at (hx.lt c hlen) hx.S
  refine ⟨_, h1, .inl ⟨rfl, vs, SqL.of h3⟩, ?_⟩
  refine h Hb o0 own σ H _ o g.wish fun d v own1 H1 δ1 ⟨ds1, hx1, hz, δ', n, hn⟩ o1 r1 => ?_
  obtain ⟨y1, k1, l1, vs1, rfl, k2, k3, kr⟩ := o1.sl.at (hx1.lt c hlen) hx1.S
  rw [h1] at k1
  cases k1
  refine ⟨l, vs1, v, rfl, rfl, k3, by rw [kr.length, sizeLine_eq]; omega, ?_⟩
  refine g.nx own1 _ _ δ' hn ?_
  rw [n.S]
  exact o1.wr hx1.S h1 k2 (kr.append (RepL.one r1))
end
end PV

set_option Elab.async false
set_option linter.all false
set_option maxRecDepth 100000
set_option maxHeartbeats 4000000
/-! PV68: exceptions made of one text, held as values: made, str, isinstance -/
namespace PV
open PySem PySem.Spec PyProof.Rows L2
theorem un_laid2 {fs ex : List Addr} {H : Hp} {h h' : Heap} {a t : Addr} {oa ot : HO} (k : ∀ b u, h.get? b = some u → h'.get? b = some u) (hpt : h.get? t = none) (hnt : H t = none) (hpa : h.get? a = none) (hna : H a = none) : Un fs ex H (upd (upd H t ot) a oa) h h' where
  keep := fun b u q _ _ _ => k b u q
  slot := fun b u q _ _ _ => ⟨u.slots, k b u q⟩
  free := fun b u q n _ => by
    rw [upd_ne (fun z => by rw [z, hpa] at q; cases q), upd_ne (fun z => by rw [z, hpt] at q; cases q)]; exact n
  there := fun b u q _ => ⟨u, k b u q⟩
  tups := fun b xs q => by rw [upd_ne (ne_of_none q hna), upd_ne (ne_of_none q hnt)]; exact q
  frzs := fun b u xs q => by rw [upd_ne (ne_of_none q hna), upd_ne (ne_of_none q hnt)]; exact q
  tbls := fun b ps q => ⟨#[], by rw [upd_ne (ne_of_none q hna), upd_ne (ne_of_none q hnt), q]; simp⟩
theorem pe_excW {X : Cx} {C : Addr} {bmB : List Value} {B newId initId : String} {x : Str} {e : Expr} {ta : TE} {p pos : Pos} (F : ExcBaseFacts B newId initId bmB) (q : PySem.W.excIn X.K C bmB newId = true) (gC : X.mg x = some (.ref C)) (kC : PySem.W.keepIn X.K (.ref C) = true) (hg : Gl X x)
    (he : PE X e ta) (hs : starEach [e] X.env = (false, eval e X.env) :: starEach [] X.env := by rfl) (hdb : (x == ("__debug__" : Str)) = false := by decide) :
    PE X (.Call (.Name x p) [e] [] pos) (fun σ H Q => ta σ H fun v H1 => ∃ m, v = .str m ∧ ∀ a t, H1 a = none → H1 t = none → a ≠ t → Q (.ref a) (upd (upd H1 t (.tup [.str m])) a (excAO a C t))) := by
  refine ⟨fun pins s σ H Q I h => ?_⟩
  refine wpAny_Call_Name_kw (ld_glob I hg gC ?_ hdb)
  refine PySem.W.callWith_K (h₀ := X.base) I.ok.mod.kin kC ?_ hs (by rfl)
  rw [hs]
  show wpAny _ _ (spliced ((false, eval e X.env) :: backTo pos (starEach [] X.env))) _ _ s
  refine Calls.spliced_cons (thn (he.run pins s σ H _ I h) fun u s1 ⟨v, H1, I1, r1, m, hv, q1⟩ => ?_)
  subst hv
  obtain ⟨tk, rfl⟩ : ∃ tk, u = .str m tk := r1
  refine Calls.spliced_nil ⟨I1.kIn, ?_⟩
  show wpAny _ _ (call (.ref C) [Value.str m tk]) _ _ _
  obtain ⟨bm, N, nm, qn, bs, hdct, sn, sub, ab, col, dd, k0, k1, k2, k3, k5, mN, hC, hN, hni, T⟩ := exc_obj I1.kIn q
  refine wpAny_call_exc_subT F T hC hN hni (fun h' a hm => ?_) (by show 1 ≤ sizeLine; rw [sizeLine_eq]; omega)
  have hn : H1 a = none := I1.hok.gone hm.new
  obtain ⟨t, ht, htn, htt⟩ := hm.there
  have hnt : H1 t = none := I1.hok.gone htn
  have hne : a ≠ t := by
    rintro rfl
    rw [ht] at htt
    cases htt
  have n1 : (upd H1 t (.tup [.str m])) a = none := by rw [upd_ne hne]; exact hn
  refine ⟨.ref a, upd (upd H1 t (.tup [.str m])) a (excAO a C t), I1.un (un_laid2 hm.keeps htn hnt hm.new hn) ((I1.hok.laidN (o := .tup [.str m]) hm.keeps hnt ⟨by show 1 ≤ sizeLine; rw [sizeLine_eq]; omega, [.str m tk], .cons ⟨tk, rfl⟩ .nil, ⟨_, htt, rfl, 0, rfl⟩⟩).laidN (o := excAO a C t) (fun _ _ z => z) n1 ⟨⟨_, _, ht, rfl, rfl, rfl, rfl⟩, ⟨_, ht⟩, fun _ _ ⟨o, vs, z, r⟩ k => ⟨o, vs, k o z, r⟩⟩), rfl, q1 a t hn hnt hne⟩
section
variable {M : Md} {X : Cx} {W : WX} {k : Nat} {Nm : List Str} {sc : Scope} {δ : List Slot} {P : D → Prop} {PX : Xd → Prop} {e a b : Expr} {pos p : Pos} {x : Str}
abbrev excW (C : Addr) (m : Str) : D := .exc C false [("args", .str m)]
/-- C(text), an exception held as a value -/
theorem de_mkExc {C : Addr} (c : Ct M X W k Nm sc) (f : EX M x C) (hg : GlS sc x) (h : DE X W e δ (fun d => ∃ m, d = .str m ∧ P (excW C m)) PX)
    (hs : starEach [e] X.env = (false, eval e X.env) :: starEach [] X.env := by rfl) (hdb : (x == ("__debug__" : Str)) = false := by decide) : DE X W (.Call (.Name x p) [e] [] pos) δ P PX := by
  obtain ⟨h1, h2, h3, h4, h5⟩ := f
  rw [← c.hK] at h2 h3
  rw [← c.hmg] at h1
  refine de_mk (pe_excW PySem.F.excBase_ValueError h2 h1 h3 (c.gl _ hg) pe_sem hs hdb) ?_
  intro σ H own Q S q
  refine h σ H own _ S fun d v H1 ⟨m, hd, pm⟩ e1 r => ?_
  subst hd
  refine ⟨m, r, fun a' t ha ht hne => ?_⟩
  have e2 : Ex H1 (upd (upd H1 t (.tup [.str m])) a' (excAO a' C t)) := fun b u z => by
    rw [upd_ne (ne_of_none z ha), upd_ne (ne_of_none z ht)]; exact z
  have S1 := S.mono e1
  have oa : own a' = false := not_own S1.ow ha
  have ot : own t = false := not_own S1.ow ht
  refine q (excW C m) _ _ pm (e1.trans e2) ⟨a', rfl, .inl ⟨rfl, t, ?_, ?_⟩⟩
  · unfold mask
    rw [oa, if_neg Bool.false_ne_true, upd_same]
  · unfold mask
    rw [ot, if_neg Bool.false_ne_true, upd_ne (Ne.symm hne), upd_same]
/-- str(e) of such a value is the text -/
structure StrK (M : Md) (C : Addr) : Prop where
  hs : PySem.W.findIn M.K (.ref C) "__str__" = some (some (.builtin "BaseException.__str__"))
  hB : PySem.W.subIn M.K (.ref C) (.type "BaseException") = some true
theorem cr_strE {X : Cx} (hu : X.A.units + 2 < cLine) : CallR X (.type "str") (fun vs H Q => ∃ (a C t : Addr) (m : Str), vs = [.ref a] ∧ H a = some (excAO a C t) ∧ H t = some (.tup [.str m]) ∧ PySem.W.findIn X.K (.ref C) "__str__" = some (some (.builtin "BaseException.__str__")) ∧ PySem.W.subIn X.K (.ref C) (.type "BaseException") = some true ∧ Q (.str m) H) := by
  rintro pins s σ H xs us Q I rr ⟨a, C, t, m, rfl, h1, h2, hs, hB, q⟩
  obtain ⟨u, rfl, ru⟩ := vals1 rr
  cases ru
  obtain ⟨⟨oe, vs, g1, g2, g3, g4, g5⟩, _⟩ := I.hok a _ h1
  obtain ⟨_, its, hv, ht⟩ := I.hok t _ h2
  obtain ⟨u1, rfl, r1⟩ := vals1 hv
  obtain ⟨tk, rfl⟩ : ∃ tk, u1 = .str m tk := r1
  obtain ⟨ot, k1, k2, n, k3⟩ := ht
  exact PySem.P.str_of_C_one hu ⟨I.kIn, oe, vs, g1, g2, g4, g5⟩ ⟨ot, n, k1, k2, k3⟩ hs hB ⟨.str m, H, I, ⟨tk, rfl⟩, q⟩
theorem de_strE (c : Ct M X W k Nm sc) (hg : GlS sc "str") (hm : Bi M "str") (h : DE X W a δ (fun d => ∃ C m, d = excW C m ∧ StrK M C ∧ P (.str m)) PX)
    (he : starEach [a] X.env = (false, eval a X.env) :: starEach [] X.env := by rfl) (hpl : (backTo pos (starEach [] X.env)).any (·.1) = false := by rfl) : DE X W (.Call (.Name "str" p) [a] [] pos) δ P PX := by
  refine de_callT c (cr_strE (Nat.lt_of_le_of_lt (by omega) c.room.un)) hg hm (by decide +kernel) (da_cons (h.imp fun x hx => da_nil ?_) he) (by decide) (by decide) he hpl
  obtain ⟨C, m, rfl, ⟨h1, h2⟩, p⟩ := hx
  intro vs H own Q ow r q
  obtain ⟨v, rfl, aa, rfl, ha | ha⟩ := r.vals1
  · obtain ⟨t, g1, g2⟩ := ha.2
    exact ⟨aa, C, t, m, rfl, mask_le _ _ g1, mask_le _ _ g2, by rw [c.hK]; exact h1, by rw [c.hK]; exact h2, q (.str m) _ H p (Ex.refl H) rfl⟩
  · exact (Bool.false_ne_true ha.1).elim
end
end PV

set_option Elab.async false
set_option linter.all false
set_option maxRecDepth 100000
set_option maxHeartbeats 4000000
/-! PV69: a lambda made, its table one's own; sorted(rows, key=lambda row: len(row[0])) -/
namespace PV
open PySem PySem.Spec PyProof.Rows L2
theorem bt_sorted : bootBuiltins "sorted" = some (.builtin "sorted") := by decide +kernel
theorem bt_len : bootBuiltins "len" = some (.builtin "len") := by decide +kernel
abbrev lenArgs (x : Str) (ap : Pos) : Arguments := { posonlyargs := [], args := [{ arg := x, annotation := none, pos := ap }], vararg := none, kwonlyargs := [], kw_defaults := [], kwarg := none, defaults := [] }
abbrev lenBody (x : Str) (p1 p2 p3 p4 p5 : Pos) (j : Nat) : Expr := .Call (.Name "len" p1) [.Subscript (.Name x p2) (.Constant (.int 0) j p3) p4] [] p5
/-- len(x[0]), told of the heap alone: nothing that was there is changed -/
theorem lam_len0 {prog : Program} {w : World} {A : Around} {s : Shared} {f c' t : Addr} {q x z : Str} {tk : Tok} {pm ctv : Value} {ap p1 p2 p3 p4 p5 : Pos} {j : Nat} {scope : Scope} {mg mb : Str → Option Value} {items : Array Value}
    (ho : s.heap.get? f = some (PySem.W.kla_obj "<lambda>" q (lenArgs x ap) (lenBody x p1 p2 p3 p4 p5 j) scope [] pm c' ctv)) (hcd : s.heap.CodeRec (.ref c') q) (hlim : s.heap.NoLimit) (hroom : A.depth < recursionLimit)
    (hk : scope.kind = .function) (co : scope.isCoroutine = false) (gen : scope.isGenerator = false) (hx : scope.names.lookup x = some .local) (hl : scope.names.lookup ("len" : Str) = some .globalImplicit) (hcell : ∀ y ∈ scope.names, y.2 ≠ .cell)
    (hg : s.heap.Ns mainGlobals mg) (hm : mg "len" = none) (hb : s.heap.Ns builtinsNs mb) (hbb : mb "len" = some (.builtin "len"))
    (ht : IsTup s.heap t items) (h0 : items[0]? = some (.str z tk)) (hsz : items.size ≤ sizeLine) (hz : z.length ≤ sizeLine) (hd : (x == ("__debug__" : Str)) = false)
    (hbind : ∀ v : Value, bindArgs (PySem.W.kla_fn "<lambda>" q (lenArgs x ap) (lenBody x p1 p2 p3 p4 p5 j) scope [] pm (.ref c') ctv) ⟨[v], []⟩ = pure [(x, v)]) :
    wpAny (model prog w) A (call (.ref f) [.ref t]) (PySem.W.KeyPure (.int z.length) s) (fun _ _ => False) s := by
  have hs : sizeLine = 16777216 := sizeLine_eq
  have rc : codeAny (model prog w) A (.call (.ref f) ⟨[.ref t], []⟩) (fun r s' => ∃ v, r = .ok (.ret v) ∧ PySem.W.KeyPure (.int z.length) s v s') s := by
    refine PySem.W.kla_callFunE hroom ho rfl co gen rfl hcd ?_
    rw [hbind]
    refine wpAny_pure (wpAny_newFunctionEnv hcell (fun y hy => ?_) (fun h₁ hns hsb => ⟨hlim.fresh _ hsb, ?_⟩) hk)
    · rcases List.mem_cons.mp hy with e | e
      · rw [e]; exact hx
      · cases e
    have kp : ∀ b o, s.heap.get? b = some o → h₁.get? b = some o := fun b o e => hsb.extBut b o (Nat.ne_of_lt (Heap.lt_size e)) (Heap.get?_push_of_some _ e)
    show codeAny _ _ (.expr (lenBody x p1 p2 p3 p4 p5 j) (PySem.W.envX q scope s.heap.objs.size f (.ref c') [])) _ _
    refine PySem.W.kla_codeExpr (wpAny_mono (Q := fun v s' => PySem.W.KeyPure (.int z.length) s v s') (E := fun _ _ => False) ?_ (fun v s' hv => ⟨v, rfl, hv⟩) fun _ _ e => e.elim)
    refine wpAny_Call_Name_kw (Calls.Name_function_global hk hl (Calls.loadGlobal_builtin (hg.keeps kp) hm (hb.keeps kp) hbb ?_))
    refine callWith_builtin1 (Subscript_Constant (wpAny_Name (wpAny_loadName_local hk hx hns (v := .ref t) ?_ ?_) hd))
    · simp [List.lookup]
    · refine wpAny_Constant_int ?_
      have ht1 := ht.keeps kp
      refine ⟨"tuple", _, slot_tuple_getitem.lookup, ht1.typeIs, PyProof.Rows.getItem_tuple (j := 0) ht1 (by decide) (by decide) ?_ h0 ?_⟩
      · have : 0 < items.size := (Array.getElem?_eq_some_iff.mp h0).1
        have h2 : (0 : Int) < (items.size : Int) := by omega
        have h3 : items ≠ #[] := fun z => by rw [z] at this; simp at this
        simp [seqIndex?, h3]
      · refine PySem.P.len_str (by omega) ⟨h₁, _, rfl, kp, ?_⟩
        exact Reads.int _ _
  refine wpAny_call (codeAny_mono rc fun r s' hq => ?_)
  obtain ⟨v, rfl, h⟩ := hq
  exact h
/-- how the heap stands when a lambda was made: its code object was known, or is new and told in its maker's table -/
inductive LamH (H : Hp) (tb c : Addr) (q : Str) (ps : Array Value) : Hp → Prop
  | old : H c = some (LamX.CodeO c q) → LamH H tb c q ps H
  | new (m : Array Value) : H c = none → TriplesOk (ps ++ m).toList → (∀ (p : Pos) (u : Value), codeAmong p (ps ++ m).toList = some u → codeAmong p ps.toList = some u ∨ u = .ref c) → LamH H tb c q ps (upd (upd H tb (.tbl (ps ++ m))) c (LamX.CodeO c q))
theorem LamH.code {H H1 : Hp} {tb c : Addr} {q : Str} {ps : Array Value} (L : LamH H tb c q ps H1) : H1 c = some (LamX.CodeO c q) := by
  cases L with
  | old h => exact h
  | new m h1 h2 h3 => exact upd_same
theorem lam_mk {X : Cx} {pins : List (Addr × Obj)} {σ : L2.St} {H : Hp} {s : Shared} {co tb : Addr} {ps : Array Value} {args : Arguments} {bd : Expr} {lsc : Scope} {lp : Pos} {EE QQ : Value → Shared → Prop}
    (I : Inv X pins σ H s) (B : LamX.TabB X.base X.mg co tb) (hcode : X.env.code = .ref co) (hP : H tb = some (.tbl ps)) (ht : TriplesOk ps.toList)
    (ha : ∀ (p : Pos) (u : Value), codeAmong p ps.toList = some u → ∃ c, u = .ref c ∧ H c = some (LamX.CodeO c (X.env.qual ++ "<lambda>")))
    (hdef : defaultsOf args X.env = ([], [])) (hfree : ∀ y ∈ lsc.names, y.2 = .free → ∃ c, X.env.cells.lookup y.1 = some c)
    (go : ∀ (f c : Addr) (pm ct : Value) (H1 : Hp) (s1 : Shared), Inv X pins σ H1 s1 → LamH H tb c (X.env.qual ++ "<lambda>") ps H1 → s1.heap.get? f = some (PySem.W.kla_obj "<lambda>" (X.env.qual ++ "<lambda>") args bd lsc (cloFrom X.env.cells lsc.names []) pm c ct) → H1 f = none → f ∉ frs X.stack → QQ (.ref f) s1) :
    wpAny (model X.prog X.w) X.A (eval (.Lambda args bd lsc lp) X.env) QQ EE s := by
  have bP : s.heap.BuiltinsAt X.mg tb := B.bm.keeps I.bk
  have oP : s.heap.get? tb = some { cls := .none, data := .fields ps } := I.hok tb _ hP
  have off : ∀ f, s.heap.objs.size ≤ f → f ∉ frs X.stack := fun f hf z => (List.mem_cons.mp (I.stkSub _ z)).elim (fun e => by have h1 := I.lt; rw [← e] at h1; exact Nat.lt_irrefl _ (Nat.lt_of_lt_of_le h1 hf)) fun e => I.nofs hf e
  apply PySem.W.kla_eval hdef
  cases hc : codeAmong lp ps.toList with
  | some u =>
    obtain ⟨c, rfl, hco⟩ := ha lp u hc
    apply PySem.W.kla_makeFunctionHit (mg := X.mg) (c := co) (P := tb) (ps := ps) (L2.closure_ok hfree) I.ok.glob (I.mod.glob.keeps I.bk) hcode (B.code.keeps I.bk) oP ht hc bP
    intro ct h2 tk hx hsz
    exact go _ c _ ct H _ (I.kept (t' := tk) fun b o e => Heap.get?_push_of_some _ (hx b o e)) (.old hco) (Heap.get?_push_size _ rfl) (I.hok.fresh hsz) (off _ hsz)
  | none =>
    apply PySem.W.kla_makeFunction (mg := X.mg) (c := co) (P := tb) (ps := ps) (L2.closure_ok hfree) I.ok.glob (I.mod.glob.keeps I.bk) hcode (B.code.keeps I.bk) oP ht hc B.gP bP
    intro c ct h2 tk hx hge hlt hrec htb
    obtain ⟨c2, oc, vs, t, e2, hoc, hd, hv⟩ := hrec
    cases e2
    have nC : H c = none := I.hok.fresh hge
    have big : s.heap.objs.size ≤ h2.objs.size := Nat.le_trans hge (Nat.le_of_lt hlt)
    have I1 := LamX.inv_table (t' := tk) (more := #[rawInt lp.line, rawInt lp.col, .ref c]) (h' := h2.push (PySem.W.kla_obj "<lambda>" (X.env.qual ++ "<lambda>") args bd lsc (cloFrom X.env.cells lsc.names []) ((X.mg "__name__").getD .none) c ct)) I hP
      (fun b o n e => Heap.get?_push_of_some _ (hx b o n e)) (Heap.get?_push_of_some _ htb) hge ⟨oc, vs, t, Heap.get?_push_of_some _ hoc, hd, hv⟩
    have eL : (ps ++ #[rawInt lp.line, rawInt lp.col, .ref c]).toList = ps.toList ++ [rawInt lp.line, rawInt lp.col, .ref c] := by simp
    refine go _ c _ ct _ _ I1 (.new _ nC ?_ fun p u hu => ?_) (Heap.get?_push_size _ rfl) ?_ (off _ big)
    · rw [eL]
      exact PySem.TriplesOk_snoc _ _ _ _ ht
    · rw [eL] at hu
      exact LamX.among_app _ ht hu
    · rw [upd_ne (Nat.ne_of_gt hlt), upd_ne (Nat.ne_of_gt (Nat.lt_of_lt_of_le (Heap.lt_size oP) big))]
      exact I.hok.fresh big
theorem cput_self {q : Addr} {c : Cell} {cs : List (Addr × Cell)} (h : Cin q c cs) : Cput q c cs cs := by
  induction h with
  | z => exact .z
  | s _ ih => exact .s ih
theorem set_self {α : Type} : ∀ {l : List α} {i : Nat} {x : α}, l[i]? = some x → l.set i x = l
  | [], _, _, h => by cases h
  | _ :: _, 0, _, h => by cases h; rfl
  | _ :: r, i + 1, x, h => by
    have h' : r[i]? = some x := by simpa using h
    rw [List.set_cons_succ, set_self h']
/-- the state when a lambda was made, its table being one's own -/
theorem Ok.lam {K : Fr} {Hb : Hp} {o0 own : Addr → Bool} {σ : L2.St} {H H1 : Hp} {δ : List Slot} {i : Nat} {cs : List (Addr × Cell)} {tb c : Addr} {q : Str} {ps : Array Value} (o : Ok K Hb o0 own σ H δ) (hi : δ[i]? = some (.heap cs)) (hc : Cin tb (.tbl q) cs)
    (hP : H tb = some (.tbl ps)) (ha : ∀ (p : Pos) (u : Value), codeAmong p ps.toList = some u → ∃ c, u = .ref c ∧ mask own H c = some (LamX.CodeO c q)) (L : LamH H tb c q ps H1) :
    Ok K Hb o0 own σ H1 δ ∧ Ex (mask own H) (mask own H1) := by
  cases L with
  | old h => exact ⟨o, Ex.refl _⟩
  | new m nc ht hu =>
    obtain ⟨ot, _⟩ := o.sl.cell hi hc
    have hne : c ≠ tb := fun z => by rw [z, hP] at nc; cases nc
    have sw : upd (upd H tb (.tbl (ps ++ m))) c (LamX.CodeO c q) = upd (upd H c (LamX.CodeO c q)) tb (.tbl (ps ++ m)) := by
      funext b
      unfold upd
      by_cases h1 : b = c
      · subst h1
        simp [hne]
      · simp [h1]
    have em : mask own (upd (upd H c (LamX.CodeO c q)) tb (.tbl (ps ++ m))) = upd (mask own H) c (LamX.CodeO c q) := by
      rw [mask_upd_own ot, mask_new o.ow nc]
    rw [sw]
    have o1 := o.mono (Ex.new (o := LamX.CodeO c q) nc)
    have o2 := o1.wrC (ob := .tbl (ps ++ m)) hi (cput_self hc) ⟨_, upd_same, ht, fun p u h => ?_⟩
    · rw [set_self hi] at o2
      refine ⟨o2, ?_⟩
      rw [em]
      exact Ex.new (mask_at nc)
    · rw [em]
      rcases hu p u h with h | h
      · obtain ⟨c2, e1, e2⟩ := ha p u h
        exact ⟨c2, e1, Ex.new (mask_at nc) _ _ e2⟩
      · exact ⟨c, h, upd_same⟩
/-- what rows are sorted by: how long their first thing is -/
def len0 : D → Nat
  | .tup (.str y :: _) => y.length
  | _ => 0
theorem each_zip {K : Fr} {H : Hp} : ∀ {ds : List D} {vs : List V} {us : List Value}, Vals vs us → RepL K H ds vs → PySem.W.EachIs (fun (u : Value) (b : V × D) => RelV b.1 u ∧ Rep K H b.2 b.1) us (vs.zip ds)
  | [], _, _, r, h => by
    subst h
    cases r
    exact .nil
  | d :: ds, _, us, r, h => by
    obtain ⟨v, t, rfl, h1, h2⟩ := h
    cases r with
    | cons r1 r2 => exact .cons ⟨r1, h1⟩ (each_zip r2 h2)
theorem each_back {K : Fr} {H : Hp} : ∀ {bs : List (V × D)} {us : List Value}, PySem.W.EachIs (fun (u : Value) (b : V × D) => RelV b.1 u ∧ Rep K H b.2 b.1) us bs → Vals (bs.map (·.1)) us ∧ RepL K H (bs.map (·.2)) (bs.map (·.1))
  | _, _, .nil => ⟨.nil, rfl⟩
  | _, _, .cons h t => ⟨.cons h.1 (each_back t).1, ⟨_, _, rfl, h.2, (each_back t).2⟩⟩
theorem zip_snd {α β : Type} : ∀ {xs : List α} {ys : List β}, xs.length = ys.length → (xs.zip ys).map (·.2) = ys
  | [], [], _ => rfl
  | _ :: _, _ :: _, h => by
    rw [List.zip_cons_cons, List.map_cons, zip_snd (by simpa using h)]
section
variable {M : Md} {X : Cx} {W : WX} {k : Nat} {Nm : List Str} {sc : Scope} {δ δ' : List Slot} {e : Expr} {pos p : Pos} {x : Str} {P : D → List Slot → Prop} {PX : Xd → List Slot → Prop}
theorem dx_sortedLen (c : Ct M X W (k + 2) Nm sc) (hg : GlS sc "sorted") (hm : Bi M "sorted") (hm2 : Bi M "len") {co tb : Addr} (B : LamX.TabB M.base M.mg co tb) (hcode : X.env.code = .ref co) {j0 : Nat} {cs : List (Addr × Cell)} (hh : Hs δ j0 cs) (hc : Cin tb (.tbl (X.env.qual ++ "<lambda>")) cs)
    {ap p1 p2 p3 p4 p5 lp kp : Pos} {j : Nat} {lsc : Scope}
    (h : DE X W e δ (fun d => ∃ ds, d = .lst ds ∧ ds.length ≤ 100000 ∧ (∀ z ∈ ds, ∃ y r, z = .tup (.str y :: r) ∧ y.length ≤ 100000) ∧ ∀ ds', ds'.Perm ds → ds'.Pairwise (fun a b => len0 a ≤ len0 b) → P (.lst ds') δ) (fun x => PX x δ))
    (hk : lsc.kind = .function := by rfl) (hco : lsc.isCoroutine = false := by rfl) (hge : lsc.isGenerator = false := by rfl) (hx : lsc.names.lookup x = some .local := by decide) (hl : lsc.names.lookup ("len" : Str) = some .globalImplicit := by decide)
    (hcell : ∀ y ∈ lsc.names, y.2 ≠ .cell := by decide) (hnf : ∀ y ∈ lsc.names, y.2 ≠ .free := by decide) (hd : (x == ("__debug__" : Str)) = false := by decide)
    (hclo : cloFrom X.env.cells lsc.names [] = [] := by rfl) (hst : starEach [e] X.env = [(false, eval e X.env)] := by rfl)
    (hbind : ∀ (q : Str) (pm cv ct v : Value), bindArgs (PySem.W.kla_fn "<lambda>" q (lenArgs x ap) (lenBody x p1 p2 p3 p4 p5 j) lsc [] pm cv ct) ⟨[v], []⟩ = pure [(x, v)] := by intros; rfl) :
    DX X W (.Call (.Name "sorted" p) [e] [⟨some "key", .Lambda (lenArgs x ap) (lenBody x p1 p2 p3 p4 p5 j) lsc lp, kp⟩] pos) δ P PX := by
  intro Hb o0 own σ H Q o w q pins s I
  have hs : sizeLine = 16777216 := sizeLine_eq
  refine wpAny_Call_Name_kw (ld_blt I (c.gl _ hg) (by rw [c.hmg]; exact hm) bt_sorted ?_)
  refine PyProof.Rows.callWith_kw (thn ((pa_cons pe_sem pa_nil hst).run pos pins s σ H (fun us H1 => ∃ ds l ws, us = [V.ref l] ∧ SqL X.K (mask own H1) l ws ∧ RepL X.K (mask own H1) ds ws ∧ Ex H H1 ∧ ds.length ≤ 100000 ∧ (∀ z ∈ ds, ∃ y r, z = .tup (.str y :: r) ∧ y.length ≤ 100000) ∧ ∀ ds', ds'.Perm ds → ds'.Pairwise (fun a b => len0 a ≤ len0 b) → P (.lst ds') δ) I ?_) fun us s1 ⟨xs, H1, I1, r1, ds, l, ws, ex, hsq, rl, e1, hn, hz, hp⟩ => ?_) (by rw [hst]; rfl) (by rw [hst]; rfl)
  · refine h σ H own _ ⟨o.ow, o.sl, w own H δ o⟩ fun d v H1 ⟨ds, hd', h1, h2, h3⟩ e1 r => ?_
    subst hd'
    obtain ⟨l, ws, rfl, g1, g2⟩ := r
    exact ⟨ds, l, ws, rfl, g1, g2, e1, h1, h2, h3⟩
  subst ex
  obtain rfl := Vals.ref1 r1
  have o1 := o.mono e1
  obtain ⟨_, ps, hP, ht, ha⟩ := o1.sl.cell hh.S hc
  have B' : LamX.TabB X.base X.mg co tb := by rw [c.hb, c.hmg]; exact B
  show wpAny _ _ (evalAll ((do let v ← eval (.Lambda (lenArgs x ap) (lenBody x p1 p2 p3 p4 p5 j) lsc lp) X.env; standAt pos; pure v) :: (backToKw pos (keywordEach [] X.env)).map (·.2))) _ _ s1
  refine wpAny_evalAll_cons (wpAny_bind (lam_mk I1 B' hcode hP ht (fun p u hu => ?_) rfl (fun y hy z => absurd z (hnf y hy)) fun f c' pm ct H2 s2 I2 L hf hfn hfr => wpAny_bind (wpAny_standAt (wpAny_pure (wpAny_evalAll_nil ?_)))))
  · obtain ⟨c2, g1, g2⟩ := ha p u hu
    exact ⟨c2, g1, mask_le _ _ g2⟩
  obtain ⟨o2, e2⟩ := o1.lam hh.S hc hP ha L
  have rl2 : RepL X.K (mask own H2) ds ws := rl.mono e2
  obtain ⟨its, rv, hl2, hz2⟩ := I2.list (mask_le.sqL (e2.sqL hsq))
  have ee := each_zip rv rl2
  have hcl := rl.length
  have hun := c.room.un
  have hdp := c.room.dp
  have hcL : cLine = 9900 := by first | rfl | decide
  obtain ⟨mb, b1, b2⟩ := I2.mod.blt
  obtain ⟨⟨oc, vc, tc, g1, g2, g3⟩, _⟩ := I2.hok c' _ L.code
  rw [hclo] at hf
  refine PySem.W.sorted_key_data (β := V × D) (b := false) (fun b => PyData.int ((len0 b.2 : Nat) : Int)) hl2.isList ee (PySem.W.AllAlike.of fun _ _ => by simp [PySem.W.alike]) (PySem.W.Sortable.others fun _ => ⟨by simp, by simp⟩) ?_ (fun b _ => ?_) (PyProof.Rows.ksk_s1 _ _) (fun _ => PyProof.Rows.ksk_l1 _ _) (fun _ => PyProof.Rows.ksk_t1 _ _)
    (fun v b rb hb h tk kp => ?_) fun out cc h' tk kp nf hD ol eo => ?_
  · rw [List.length_zip]; omega
  · show X.A.units + 2 + 0 < cLine
    omega
  · obtain ⟨b1', b2'⟩ := b
    obtain ⟨rb1, rb2⟩ := rb
    have hm' : b2' ∈ ds := (List.of_mem_zip hb).2
    obtain ⟨y, r, rfl, hy⟩ := hz _ hm'
    obtain ⟨a, vs, rfl, k1, v0, t0, rfl, k2, k3⟩ := rb2
    obtain rfl : v0 = V.str y := k2
    obtain rfl : v = Value.ref a := rb1
    obtain ⟨is', rv', tp, z'⟩ := I2.tuple (mask_le.sqT k1)
    cases rv' with
    | cons q1 q2 =>
      obtain ⟨tk0, rfl⟩ := q1
      exact lam_len0 (A := X.A.in1.in1) (s := { s2 with heap := h, toks := tk }) (kp _ _ hf) ⟨c', oc, vc, tc, rfl, kp _ _ g1, g2, g3⟩ (I2.nolimit.keeps kp) (by show X.A.depth < recursionLimit; omega) hk hco hge hx hl hcell ((I2.mod.glob.keeps I2.bk).keeps kp) (by rw [c.hmg]; exact hm2)
        ((b1.keeps I2.bk).keeps kp) ((b2 _ (by decide)).trans bt_len) (tp.keeps kp) (by simp; rfl) (by rw [List.size_toArray, ← (Vals.length (.cons (show RelV (V.str y) (Value.str y tk0) from ⟨_, rfl⟩) q2))]; exact z') (by omega) hd (hbind _ _ _ _)
  · rw [PySem.W.dataLe_int] at eo
    obtain ⟨rv3, rl3⟩ := each_back eo
    have pm3 := List.mergeSort_perm (ws.zip ds) (fun a b => decide (((len0 a.2 : Nat) : Int) ≤ ((len0 b.2 : Nat) : Int)))
    have fr := I2.hok.fresh (Nat.le_succ s2.heap.objs.size)
    refine ⟨.ref _, upd H2 (s2.heap.objs.size + 1) (.lst (((ws.zip ds).mergeSort (fun a b => decide (((len0 a.2 : Nat) : Int) ≤ ((len0 b.2 : Nat) : Int)))).map (·.1))), I2.laid (t' := tk) kp (Nat.le_succ _) ⟨?_, out, cc, rv3, hD⟩, rfl, ?_⟩
    · rw [List.length_map, pm3.length_eq, List.length_zip]; omega
    · refine q (.lst (((ws.zip ds).mergeSort (fun a b => decide (((len0 a.2 : Nat) : Int) ≤ ((len0 b.2 : Nat) : Int)))).map (·.2))) _ own _ δ (hp _ ?_ ?_) (o2.mono (Ex.new fr)) ?_
      · have := pm3.map (·.2)
        rwa [zip_snd hcl] at this
      · rw [List.pairwise_map]
        refine List.Pairwise.imp (fun h => ?_) (List.pairwise_mergeSort (le := fun a b : V × D => decide (((len0 a.2 : Nat) : Int) ≤ ((len0 b.2 : Nat) : Int))) (fun a b c h1 h2 => ?_) (fun a b => ?_) (ws.zip ds))
        · have := of_decide_eq_true h
          omega
        · have h1 := of_decide_eq_true h1
          have h2 := of_decide_eq_true h2
          exact decide_eq_true (by omega)
        · rw [Bool.or_eq_true, decide_eq_true_eq, decide_eq_true_eq]
          omega
      · rw [mask_new o2.ow fr]
        exact ⟨_, _, rfl, SqL.of upd_same, rl3.mono (Ex.new (mask_at fr))⟩
/-- a list made by what changes what is one's own, walked -/
theorem dix_list {tg : Expr} {P : List D → List Slot → Prop} (h : DX X W e δ (fun d δ' => ∃ ds, d = .lst ds ∧ P ds δ') PX) : DIX X W tg e δ P PX := by
  intro Hb o0 own σ H Q o w q pins s I
  refine (pi_list pe_sem).run pins s σ H Q I ?_
  refine h Hb o0 own σ H _ o w fun d v own1 H1 δ1 ⟨ds, hd, p⟩ o1 r => ?_
  subst hd
  obtain ⟨a, vs, rfl, h1, h2⟩ := r
  refine ⟨a, rfl, ⟨vs, mask_le.sqL h1⟩, q ds _ own1 H1 δ1 p o1 fun own' H' ow' e' => ⟨fun i d hd => ?_, fun i hi => ⟨vs, mask_le.sqL (e'.sqL h1), by rw [h2.length]; exact hi⟩⟩⟩
  obtain ⟨v, h3, h4⟩ := h2.get hd
  refine ⟨⟨vs, v, mask_le.sqL (e'.sqL h1), h3⟩, fun y H'' hy => ?_⟩
  obtain ⟨z, hy⟩ := hy
  subst z
  have hv := hy vs (mask_le.sqL (e'.sqL h1))
  rw [h3] at hv
  cases hv
  exact ⟨Ex.refl _, h4.mono e'⟩
end
end PV

set_option Elab.async false
set_option linter.all false
set_option maxRecDepth 100000
set_option maxHeartbeats 4000000
/-! PV70: a law that owns the table of one of its defs -/
namespace PV
open PySem PySem.Spec PyProof.Rows L2
/-- the law: handed a list of at most 63 whole numbers, and the table at tb -/
def F_lawT (tb : Addr) (q : Str) : PhiC := fun ds lk cs P _ => (∃ ns : List Int, ns.length ≤ 63 ∧ ds = [.lst (ns.map .int)]) ∧ lk = [] ∧ cs = [(tb, .tbl q)] ∧ ∀ cs', P (.bl true) cs'
theorem lawT_asked {K : Fr} {tb : Addr} {q : Str} {H : Hp} {a : Addr} {ns : List Int} (hn : ns.length ≤ 63) (hT : H tb = some (.tbl #[])) (hS : SqL K H a (ns.map V.int)) : spC K 1 (F_lawT tb q) [.ref a] H (fun v _ => v = .bl true) fun _ _ _ => False := by
  have off : ∀ b, b ≠ tb → mask (fun b => b == tb) H b = H b := fun b hb => by
    unfold mask
    rw [if_neg (by simpa using hb)]
  refine ⟨fun b => b == tb, [.lst (ns.map .int)], [], [(tb, .tbl q)], fun d _ => d = .bl true, fun _ _ => False, fun b hb => ?_, fun z hz => ?_, ⟨by simp, fun z hz => ?_⟩, fun z hz => ?_, ⟨_, _, rfl, ⟨a, ns.map V.int, rfl, ?_, RepL.ofInts ns⟩, rfl⟩, rfl, ⟨⟨ns, hn, rfl⟩, rfl, rfl, fun _ => rfl⟩, fun d v own' H' cs' hd _ _ r => ?_, fun own' H' cs' _ _ => ⟨fun _ z => z.elim, fun _ _ z => z.elim⟩⟩
  · have : b = tb := by simpa using hb
    rw [this, hT]
    simp
  · cases hz
  · rcases List.mem_cons.mp hz with e | e
    · subst e
      refine ⟨by simp, #[], hT, True.intro, fun p u hu => ?_⟩
      have z : codeAmong p [] = some u := hu
      simp [codeAmong] at z
    · cases e
  · cases hz
  · rcases hS with (h | ⟨o, h⟩) | h
    · exact .inl (.inl (by rw [off]; exact h; exact ne_of h hT (by simp)))
    · exact .inl (.inr ⟨o, by rw [off]; exact h; exact ne_of h hT (by simp)⟩)
    · exact .inr h
  · subst hd
    exact r
theorem walk_lawT {l : PySem.W.OpenLaw} {k : Nat} {q : Program} {loose : List Str} {XP : (Str → Option Value) → Heap → Prop} {YP : World → Heap → Prop} {d dT : DefRec} {K : Params → PySem.W.Frag} {x nm qn : Str}
    (hn : l.most = some 63) (hdf : d.params.defaults = []) (hr : Room k callerA) (hY : ∀ (w : World) (h : Heap), YP w h → (K w.params).In h) (hrec : (recsOf q).find? (fun e => e.name == nm) = some dT)
    (F : ∀ (w : World) (mg : Str → Option Value) (fa : Addr) (h : Heap), (K w.params).In h → h.Ns mainGlobals mg → mg d.name = some (.ref fa) →
      ∃ (fd : FuncData) (co tb : Addr), PySem.W.tabIn (K w.params) nm = some (co, tb) ∧ (K w.params).lookup tb = none ∧ (∀ (s : Shared) (u : Value), BindsTo s fd ⟨[u], []⟩ [(x, u)]) ∧
        ∀ base : Heap, (K w.params).In base → base.Ns mainGlobals mg → LamX.TabB base mg co tb → FnOk l.prog w (K w.params) mg base (L2.CX l.prog w) k fa fd [x] (spC (K w.params) 1 (F_lawT tb qn))) :
    PySem.W.WalkO q loose XP YP l.row.toRowW d [] (fun f vs => PySem.call f vs) := by
  refine Att.attach_callB hn hdf fun w s0 s1 mg mb fa o pm cd doc a vs ns G Y ho hd hcd hmg hobj hints hlen hbits hg => ?_
  have KX := hY w _ Y
  obtain ⟨fd, co, tb, ht, hno, hb, hF⟩ := F w mg fa _ KX G.T.g hmg
  obtain ⟨C, hT⟩ := PySem.W.tab_of G.T KX hrec ht
  have one : ∀ {Z : Addr × Addr → Prop}, Z (co, tb) → ∀ p ∈ [(co, tb)], Z p := fun hz p hp => by
    rcases List.mem_cons.mp hp with e | e
    · rw [e]; exact hz
    · cases e
  refine LamX.law_callTs (cs := [(co, tb)]) (CX := L2.CX l.prog w) (sp := spC (K w.params) 1 (F_lawT tb qn)) (fd := fd) (x := x) KX G.T.g G.T.b G.T.builtins G.T.nolimit hg (one hT) (one hno) (one C) G.T.bmain hobj hints (Nat.le_trans hlen (by decide)) hr
    (fun base h1 h2 h3 => hF base h1 h2 (h3 _ (List.mem_singleton.mpr rfl))) hb (fun H hH hS => lawT_asked hlen (hH _ (List.mem_singleton.mpr rfl)) hS) fun H e s' h => ?_
  obtain ⟨_, _, _, _, _, _, _, _, _, _, _, _, z⟩ := h
  exact z
end PV

set_option Elab.async false
set_option linter.all false
set_option maxRecDepth 100000
set_option maxHeartbeats 4000000
/-! PV71: a walk whose invariant is told by what is walked -/
namespace PV
open PySem PySem.Spec PyProof.Rows L2
section
variable {M : Md} {X : Cx} {W : WX} {k : Nat} {Nm : List Str} {sc : Scope} {δ δ' δ1 : List Slot} {e a b d2 o i' f t : Expr} {es : List Expr} {pos p apos : Pos} {x m : Str} {K : Fr} {st : Stmt} {rest body orelse : List Stmt}
variable {N : List Slot → Prop} {R : D → List Slot → Prop} {B C : List Slot → Prop} {PX : Xd → List Slot → Prop}
/-- for, the invariant chosen when the things are known -/
theorem ds_forE (c : Ct M X W k Nm sc) {tg iter : Expr} (h : DIX X W tg iter δ (fun ds δ1 => ∃ I : Nat → List Slot → Prop, I 0 δ1 ∧ (∀ i d δi, ds[i]? = some d → I i δi → ∃ δ2 T, DG M Nm sc tg d δi δ2 T ∧ DSs X W body δ2 (I (i + 1)) R N (I (i + 1)) PX) ∧ ∀ δn, I ds.length δn → N δn) PX)
    (hs : ∀ x, foldedSetIterable iter X.env x = pure x := by intro _; rfl) : DS X W (.For tg iter body [] pos) δ N R B C PX := fun Hb o0 own D' σ H o g => by
  refine sem_ps (ps_for c.po c.calm pi_sem pg_sem pss_sem hs) ?_
  refine h Hb o0 own σ H _ o g.wish fun ds J own1 H1 δ1 ⟨I, h0, step, fin⟩ o1 wk => ?_
  have eb := o1.fixEx
  refine ⟨fun i m σ' H' => m = ds.length - i ∧ i ≤ ds.length ∧ ∃ δi own', I i δi ∧ Ok X.K (fixedH own1 o0 H1) o0 own' σ' H' δi, ⟨ds.length, by simp, Nat.zero_le _, δ1, own1, h0, o1.fix⟩, ?_⟩
  rintro i m σ' H' ⟨rfl, hi, δi, own', hI, o'⟩
  obtain ⟨wk1, wk2⟩ := wk own' H' o'.ow (o'.still (Hb := Hb) o1.sub)
  by_cases hlt : i < ds.length
  · have hd : ds[i]? = some ds[i] := by simp [hlt]
    obtain ⟨go, yld⟩ := wk1 i ds[i] hd
    obtain ⟨δ2, T, ⟨gg, g1, g2⟩, hb⟩ := step i ds[i] δi hd hI
    refine .inr ⟨go, fun σ3 H3 => ∃ δ3 own3, I (i + 1) δ3 ∧ Ok X.K (fixedH own1 o0 H1) o0 own3 σ3 H3 δ3, fun σ3 H3 ⟨δ3, own3, i3, o3⟩ => ⟨ds.length - (i + 1), by omega, rfl, hlt, δ3, own3, i3, o3⟩, fun y H2 hy => ?_⟩
    obtain ⟨e2, r⟩ := yld y H2 hy
    have o2 := o'.mono e2
    have S2 := o2.sl
    rw [c.hK] at S2 r
    intro pins s u Iv ru
    refine (g1 X W k c).run pins s σ' H2 y u _ Iv ru (g2 y σ' H2 own' o0 _ S2 o2.acc r fun σ3 S3 a3 _ => ?_)
    rw [← c.hK] at S3
    have g' := g.unfix eb
    exact hb (fixedH own1 o0 H1) o0 own' _ σ3 H2 ⟨o2.sub, o2.ow, o2.mine, o2.ex, S3, a3⟩
      ⟨fun own4 σ4 H4 δ4 i4 o4 => ⟨δ4, own4, i4, o4⟩, g'.rt, g'.nx, fun own4 σ4 H4 δ4 i4 o4 => ⟨δ4, own4, i4, o4⟩, g'.px⟩
  · have e2 : i = ds.length := by omega
    subst e2
    exact .inl ⟨wk2 _ (Nat.le_refl _), (g.unfix eb).nx own' σ' H' δi (fin δi hI) o'⟩
/-- s.startswith(t) -/
theorem de_starts {P : D → Prop} {PX : Xd → Prop} (h : DE X W a δ (fun d => ∃ s, d = .str s ∧ DE X W e δ (fun y => ∃ t : Str, y = .str t ∧ P (.bl (Txt.startswith s t))) PX) PX)
    (hs : starEach [e] X.env = [(false, eval e X.env)] := by rfl) (hbase : attributeBase a "startswith" X.env (eval a X.env) = eval a X.env := by rfl) (hline : (apos.endLine == pos.line) = true := by rfl) : DE X W (.Call (.Attribute a "startswith" apos) [e] [] pos) δ P PX := by
  refine de_m1n PySem.F.slot_str_startswith PySem.F.type_str_startswith mt_startswith (h.imp fun d ⟨s, hd, h2⟩ => ⟨s, hd, h2.imp fun y ⟨t, hy, p⟩ => ?_⟩) hs hbase hline
  subst hy
  intro w H own Q ow r q
  obtain rfl : w = .str t := r
  exact ⟨s, t, rfl, rfl, q (.bl _) _ H p (Ex.refl H) rfl⟩
end
end PV

set_option Elab.async false
set_option linter.all false
set_option maxRecDepth 100000
set_option maxHeartbeats 4000000
/-! PV72: tests made of calls that change what is owned -/
namespace PV
open PySem PySem.Spec PyProof.Rows L2
section
variable {M : Md} {X : Cx} {W : WX} {k : Nat} {Nm : List Str} {sc : Scope} {δ δ' δ1 : List Slot} {e a b : Expr} {es : List Expr} {pos p apos : Pos} {PB : Bool → List Slot → Prop} {PX : Xd → List Slot → Prop}
theorem dtx_val (h : DX X W e δ (fun x δ' => ∃ i, x = .bl i ∧ PB i δ') PX) (he : ∀ whole, isTrue e X.env whole = (do let v ← whole; standAt e.pos; holding [v] (truthy v)) := by intro _; rfl) : DTX X W e δ PB PX := by
  intro Hb o0 own σ H Q o w q
  refine sem_pt (pt_val pe_sem he) ?_
  refine h Hb o0 own σ H _ o w fun x v own1 H1 δ1 ⟨i, hx, p⟩ o1 r => ?_
  subst hx
  exact ⟨i, r, q _ own1 H1 δ1 p o1⟩
theorem dtx_cmp2 {op : CmpOp} {r : R2} (ho : OpR X (compareOp op) r) (hm : behindInMarks op b = false) (h : DX X W a δ (fun x δ1 => DX X W b δ1 (fun y δ2 => RW X.K r x y (fun d => d.flat = true ∧ ∃ i, d = .bl i ∧ PB i δ2)) PX) PX) : DTX X W (.Compare a [op] [b] pos) δ PB PX := by
  intro Hb o0 own σ H Q o w q
  refine sem_pt (pt_cmpR ho pe_sem pe_sem hm) ?_
  refine h Hb o0 own σ H _ o w fun x v own1 H1 δ1 hx o1 r1 => ?_
  refine hx _ o0 own1 σ H1 _ o1.fix (fun own' H' δ' o' => w own' H' δ' (o'.unfix o1.fixEx)) fun y u own2 H2 δ2 hy o2 r2 => ?_
  have e := Ok.still (Hb := Hb) o1.sub o2
  refine hy v u H2 own2 _ o2.ow (r1.mono e) r2 fun d t H3 ⟨_, i, hd, p⟩ e3 r3 => ?_
  subst hd
  exact ⟨i, r3, q i own2 H3 δ2 p ((o2.unfix o1.fixEx).mono e3)⟩
end
end PV

set_option Elab.async false
set_option linter.all false
set_option maxRecDepth 100000
set_option maxHeartbeats 4000000
/-! PV73: a new list changed right where it is told -/
namespace PV
open PySem PySem.Spec PyProof.Rows L2
section
variable {M : Md} {X : Cx} {W : WX} {k : Nat} {Nm : List Str} {sc : Scope} {δ δ' δ1 : List Slot} {e a b o : Expr} {es : List Expr} {pos p : Pos} {P : D → Prop} {PX : Xd → Prop}
/-- f(..).append(e), the list new -/
theorem de_appF {apos cpos : Pos} (h : DF X W o δ (fun ds => ds.length < 100000 ∧ DE X W e δ (fun _ => P .non) PX) PX)
    (hbase : attributeBase o "append" X.env (eval o X.env) = eval o X.env := by rfl)
    (hfew : ((backTo cpos (starEach [e] X.env)).all (fun x => !x.1) && (backToKw cpos (keywordEach [] X.env)).all (fun x => x.1.isSome)
      && decide ([e].length + ([] : List Keyword).length + (if ([] : List Keyword).isEmpty then 0 else 1) < 30)) = true := by rfl)
    (hline : (apos.endLine == cpos.line) = true := by rfl) (hs : starEach [e] X.env = (false, eval e X.env) :: starEach [] X.env := by rfl) (hplain : (backTo cpos (starEach [] X.env)).any (·.1) = false := by rfl) :
    DE X W (.Call (.Attribute o "append" apos) [e] [] cpos) δ P PX := by
  intro σ H own Q S q
  refine sem_pe (pe_bm PySem.F.plainAttrs_list PySem.F.slot_list_append PySem.F.type_list_append mt_append pe_sem (pa_cons pe_sem pa_nil hs) hbase hfew hline hs hplain) ?_
  refine h σ H own _ S fun ds l vs H2 ⟨hz, he⟩ e2 hl h2 r => ?_
  refine ⟨.inl ⟨rfl, vs, SqL.of h2⟩, ?_⟩
  refine he σ H2 own _ (S.mono e2) fun d v H3 p e3 r3 => ?_
  refine ⟨l, vs, v, rfl, rfl, e3 _ _ h2, by rw [r.length, sizeLine_eq]; omega, ?_⟩
  refine q .non .non _ p (fun a u ha => ?_) rfl
  have hn : a ≠ l := fun z => by rw [z, hl] at ha; cases ha
  rw [upd_ne hn]
  exact e3 _ _ (e2 _ _ ha)
end
end PV

set_option maxHeartbeats 4000000
open PySem PySem.Spec PyProof.Rows L2 PV
/-! steps over places: one rule a construct, each behind a look at the goal's form -/
local macro_rules | `(tactic| wtm_at "pv at") => `(tactic| (with_reducible (first | exact At.z | (apply At.s; wtm_at "pv at") | fail)))
local macro_rules | `(tactic| wtm_at "pv put") => `(tactic| (with_reducible (first | exact Put.z | (apply Put.s; wtm_at "pv put") | fail)))
local macro_rules | `(tactic| wtm_at "pv vis") => `(tactic| (first | exact Or.inl rfl | exact Or.inr (Or.inl rfl) | exact Or.inr (Or.inr rfl) | fail))
local macro_rules | `(tactic| wtm_at "pv loc") => `(tactic| (first | exact Or.inl rfl | exact Or.inr rfl | fail))
local macro_rules | `(tactic| wtm_at "pv gl") => `(tactic| exact rfl)
local macro_rules | `(tactic| wtm_at "pv dg") => `(tactic| (first
  | ((with_reducible show DG _ _ _ (Expr.Name _ _) _ _ _ _); exact dg_name (by wtm_at "pv put") (by wtm_at "pv loc"))
  | ((with_reducible show DG _ _ _ (Expr.Tuple _ _ _) (D.lst _) _ _ _); apply dg_lst (hl := rfl) (hn := fun _ => rfl) (hst := fun _ => rfl); wtm_at "pv dgs")
  | ((with_reducible show DG _ _ _ (Expr.Tuple _ _ _) _ _ _ _); apply dg_tup (hl := rfl) (hn := fun _ => rfl) (hst := fun _ => rfl); wtm_at "pv dgs") | fail))
local macro_rules | `(tactic| wtm_at "pv dgs") => `(tactic| (first
  | ((with_reducible show DGs _ _ _ [] _ _ _ _); exact dgs_nil)
  | ((with_reducible show DGs _ _ _ (_ :: _) _ _ _ _); apply dgs_cons (hx := fun _ => rfl) <;> first | wtm_at "pv dg" | wtm_at "pv dgs" | fail) | fail))
local macro_rules | `(tactic| wtm_at "pv len") => `(tactic| (first | omega | (simp only [List.length_cons, List.length_nil, List.length_map, List.length_range, PV.cutD, List.length_take, List.length_drop, Str.length_append]; omega) | decide | (simp; done) | (simp; omega) | (simp_all; omega) | fail))
local macro_rules | `(tactic| wtm_at "pv kb") => `(tactic| (with_reducible (first | exact kb_NoneType_int | exact kb_NoneType_bool | exact kb_NoneType_str | exact kb_NoneType_list | exact kb_NoneType_tuple | exact kb_NoneType_dict | exact kb_bool_int | exact kb_bool_bool | exact kb_bool_str | exact kb_bool_list | exact kb_bool_tuple | exact kb_bool_dict | exact kb_int_int | exact kb_int_bool | exact kb_int_str | exact kb_int_list | exact kb_int_tuple | exact kb_int_dict | exact kb_str_int | exact kb_str_bool | exact kb_str_str | exact kb_str_list | exact kb_str_tuple | exact kb_str_dict | exact kb_list_int | exact kb_list_bool | exact kb_list_str | exact kb_list_list | exact kb_list_tuple | exact kb_list_dict | exact kb_tuple_int | exact kb_tuple_bool | exact kb_tuple_str | exact kb_tuple_list | exact kb_tuple_tuple | exact kb_tuple_dict | exact kb_dict_int | exact kb_dict_bool | exact kb_dict_str | exact kb_dict_list | exact kb_dict_tuple | exact kb_dict_dict | fail)))
local macro_rules | `(tactic| wtm_at "pv bt") => `(tactic| (with_reducible (first | exact bt_int | exact bt_bool | exact bt_str | exact bt_list | exact bt_tuple | exact bt_dict | exact bt_set | exact bt_ValueError | fail)))
local macro_rules | `(tactic| wtm_at "pv fl") => `(tactic| (first | rfl | (with_reducible assumption) | simp [D.fl] | fail))
local macro_rules | `(tactic| wtm_at "pv op") => `(tactic| (first
  | ((with_reducible show RW _ (rAddA _) (D.int _) (D.int _) _); refine o_add_i ?_)
  | ((with_reducible show RW _ (rAddA _) (D.str _) (D.str _) _); refine o_add_s (by wtm_at "pv len") ?_)
  | ((with_reducible show RW _ (rAddA _) (D.lst _) (D.lst _) _); refine o_add_l (by wtm_at "pv len") ?_)
  | ((with_reducible show RW _ (rAddA _) (D.tup _) (D.tup _) _); refine o_add_t (by wtm_at "pv len") ?_)
  | ((with_reducible show RW _ rSubA _ _ _); refine o_sub ?_)
  | ((with_reducible show RW _ (rIx _) (D.tup (_ :: _)) (D.int _) _); refine o_ix_t rfl ?_)
  | ((with_reducible show RW _ rModA _ _ _); refine o_mod (by first | omega | decide | fail) ?_)
  | ((with_reducible show RW _ rDiv _ _ _); refine o_div (by omega) (by omega) ?_)
  | ((with_reducible show RW _ rMul (D.int _) (D.int _) _); refine o_mul (by first | exact Or.inr (by omega) | exact Or.inl (by omega) | fail) ?_)
  | ((with_reducible show RW _ rPowA _ _ _); refine o_pow (by decide) (by decide) (by decide) ?_)
  | ((with_reducible show RW _ rLtA _ _ _); refine o_lt ?_)
  | ((with_reducible show RW _ rLeA _ _ _); refine o_le ?_)
  | ((with_reducible show RW _ rGtA _ _ _); refine o_gt ?_)
  | ((with_reducible show RW _ rGeA _ _ _); refine o_ge ?_)
  | ((with_reducible show RW _ (rInA _) (D.str ⟨#[_]⟩) (D.str _) _); refine o_in_sign ?_)
  | ((with_reducible show RW _ (rNotInA _) (D.str ⟨#[_]⟩) (D.str _) _); refine o_notIn_sign ?_)
  | ((with_reducible show RW _ (rInA _) _ (D.lst _) _); refine o_in_l (by wtm_at "pv fl") (by wtm_at "pv fl") ?_)
  | ((with_reducible show RW _ (rNotInA _) _ (D.lst _) _); refine o_notIn_l (by wtm_at "pv fl") (by wtm_at "pv fl") ?_)
  | ((with_reducible show RW _ (rInA _) _ (D.tup _) _); refine o_in_t (by wtm_at "pv fl") (by wtm_at "pv fl") ?_)
  | ((with_reducible show RW _ (rNotInA _) _ (D.tup _) _); refine o_notIn_t (by wtm_at "pv fl") (by wtm_at "pv fl") ?_)
  | ((with_reducible show RW _ (rEqA _) (D.str _) (D.str _) _); refine o_eq_s ?_)
  | ((with_reducible show RW _ (rNeA _) (D.str _) (D.str _) _); refine o_ne_s ?_)
  | ((with_reducible show RW _ (rEqA _) _ _ _); refine o_eq rfl rfl ?_)
  | ((with_reducible show RW _ (rNeA _) _ _ _); refine o_ne rfl rfl ?_) | fail))
local macro_rules | `(tactic| wtm_at "pv de") => `(tactic| (first
  | ((with_reducible show DE _ _ (Expr.Name _ _) _ _ _); first
    | refine de_name (by with_reducible assumption) (by wtm_at "pv at") (by wtm_at "pv vis") ?_
    | refine de_glob (by with_reducible assumption) (by with_reducible assumption) (by wtm_at "pv gl") ?_
    | refine de_tyname (by with_reducible assumption) (by wtm_at "pv gl") (by with_reducible assumption) (by wtm_at "pv bt") ?_ | fail)
  | ((with_reducible show DE _ _ (Expr.Constant (Const.int _) _ _) _ _ _); refine de_int ?_)
  | ((with_reducible show DE _ _ (Expr.Constant (Const.str _) _ _) _ _ _); refine de_str ?_)
  | ((with_reducible show DE _ _ (Expr.Constant (Const.bool _) _ _) _ _ _); refine de_bl ?_)
  | ((with_reducible show DE _ _ (Expr.Constant Const.none _ _) _ _ _); refine de_non ?_)
  | ((with_reducible show DE _ _ (Expr.BinOp _ Operator.Add _ _) _ _ _); refine de_add ?_)
  | ((with_reducible show DE _ _ (Expr.BinOp _ Operator.Sub _ _) _ _ _); refine de_sub ?_)
  | ((with_reducible show DE _ _ (Expr.BinOp (Expr.List _ _) Operator.Mult _ _) _ _ _); refine de_repE ?_)
  | ((with_reducible show DE _ _ (Expr.BinOp _ Operator.Mult _ _) _ _ _); refine de_mul ?_)
  | ((with_reducible show DE _ _ (Expr.BinOp _ Operator.Mod _ _) _ _ _); refine de_mod ?_)
  | ((with_reducible show DE _ _ (Expr.BinOp _ Operator.FloorDiv _ _) _ _ _); refine de_div ?_)
  | ((with_reducible show DE _ _ (Expr.BinOp _ Operator.Pow _ _) _ _ _); refine de_pow ?_)
  | ((with_reducible show DE _ _ (Expr.Compare _ _ _ _) _ _ _); wtm_at "pv cmp")
  | ((with_reducible show DE _ _ (Expr.BoolOp BoolOp.And (_ :: _ :: _) _) _ _ _); refine de_and ?_)
  | ((with_reducible show DE _ _ (Expr.BoolOp BoolOp.Or (_ :: _ :: _) _) _ _ _); refine de_or ?_)
  | ((with_reducible show DE _ _ (Expr.BoolOp _ [_] _) _ _ _); refine de_one ?_)
  | ((with_reducible show DE _ _ (Expr.UnaryOp UnaryOp.Not _ _) _ _ _); refine de_not ?_)
  | ((with_reducible show DE _ _ (Expr.UnaryOp UnaryOp.USub _ _) _ _ _); refine de_neg ?_)
  | ((with_reducible show DE _ _ (Expr.IfExp _ _ _ _) _ _ _); refine de_if ?_)
  | ((with_reducible show DE _ _ (Expr.Tuple _ _ _) _ _ _); refine de_tup ?_)
  | ((with_reducible show DE _ _ (Expr.List _ _) _ _ _); refine de_lst ?_)
  | ((with_reducible show DE _ _ (Expr.Dict [] [] _) _ _ _); refine de_dnew ?_)
  | ((with_reducible show DE _ _ (Expr.Dict (_ :: _) _ _) _ _ _); refine de_dict ?_)
  | ((with_reducible show DE _ _ (Expr.Subscript _ (Expr.Slice none none (some (Expr.UnaryOp _ _ _)) _) _) _ _ _); refine de_revL ?_)
  | ((with_reducible show DE _ _ (Expr.Subscript _ (Expr.Slice _ _ _ _) _) _ _ _); refine de_slice ?_)
  | ((with_reducible show DE _ _ (Expr.Subscript (Expr.Name _ _) _ _) _ _ _); refine de_ix_acc (by with_reducible assumption) (by wtm_at "pv at") (by wtm_at "pv vis") ?_)
  | ((with_reducible show DE _ _ (Expr.Subscript _ _ _) _ _ _); refine de_ix ?_)
  | ((with_reducible show DE _ _ (Expr.Call (Expr.Name _ _) _ _ _) _ _ _); wtm_at "pv call")
  | ((with_reducible show DE _ _ (Expr.Call (Expr.Attribute _ (Str.ofString "join") _) _ _ _) _ _ _); refine de_join ?_)
  | ((with_reducible show DE _ _ (Expr.Call (Expr.Attribute _ (Str.ofString "split") _) [_] _ _) _ _ _); refine de_split ?_)
  | ((with_reducible show DE _ _ (Expr.Call (Expr.Attribute _ (Str.ofString "count") _) [_] _ _) _ _ _); refine de_countB ?_)
  | ((with_reducible show DE _ _ (Expr.Call (Expr.Attribute _ (Str.ofString "index") _) [_] _ _) _ _ _); refine de_indexB ?_)
  | ((with_reducible show DE _ _ (Expr.Call (Expr.Attribute _ _ _) [] _ _) _ _ _); refine de_meth0 (by with_reducible assumption) (by with_reducible assumption) (by with_reducible assumption) (by decide) ?_)
  | ((with_reducible show DE _ _ (Expr.Call (Expr.Attribute _ _ _) (_ :: _) _ _) _ _ _); refine de_methX (by with_reducible assumption) (by with_reducible assumption) (by with_reducible assumption) (by decide) ?_)
  | ((with_reducible show DE _ _ (Expr.Attribute (Expr.Name _ _) _ _) _ _ _); refine de_selfld (by with_reducible assumption) (by wtm_at "pv at") (by wtm_at "pv vis") (by with_reducible assumption) (by with_reducible assumption) (by wtm_at "pv lk") ?_)
  | ((with_reducible show DE _ _ (Expr.Attribute _ _ _) _ _ _); refine de_fld (by with_reducible assumption) ?_) | fail))
/- a field's place -/
local macro_rules | `(tactic| wtm_at "pv lk") => `(tactic| (first | exact lkz | exact lkn | (refine lks (by decide +kernel) ?_; wtm_at "pv lk") | fail))
local macro_rules | `(tactic| wtm_at "pv cmp") => `(tactic| (first
  | ((with_reducible show DE _ _ (Expr.Compare _ [CmpOp.Eq] _ _) _ _ _); refine de_eq (by with_reducible assumption) ?_)
  | ((with_reducible show DE _ _ (Expr.Compare _ [CmpOp.NotEq] _ _) _ _ _); refine de_ne (by with_reducible assumption) ?_)
  | ((with_reducible show DE _ _ (Expr.Compare _ [CmpOp.In] _ _) _ _ _); refine de_in (by with_reducible assumption) (Ct.u65 (by with_reducible assumption)) rfl ?_)
  | ((with_reducible show DE _ _ (Expr.Compare _ [CmpOp.NotIn] _ _) _ _ _); refine de_notIn (by with_reducible assumption) (Ct.u65 (by with_reducible assumption)) rfl ?_)
  | ((with_reducible show DE _ _ (Expr.Compare _ [CmpOp.Lt] _ _) _ _ _); refine de_lt ?_)
  | ((with_reducible show DE _ _ (Expr.Compare _ [CmpOp.LtE] _ _) _ _ _); refine de_le ?_)
  | ((with_reducible show DE _ _ (Expr.Compare _ [CmpOp.Gt] _ _) _ _ _); refine de_gt ?_)
  | ((with_reducible show DE _ _ (Expr.Compare _ [CmpOp.GtE] _ _) _ _ _); refine de_ge ?_)
  | ((with_reducible show DE _ _ (Expr.Compare _ [CmpOp.Is] [Expr.Constant Const.none _ _] _) _ _ _); refine de_isN ?_)
  | ((with_reducible show DE _ _ (Expr.Compare _ [CmpOp.IsNot] [Expr.Constant Const.none _ _] _) _ _ _); refine de_notN ?_)
  | ((with_reducible show DE _ _ (Expr.Compare _ [CmpOp.Is] _ _) _ _ _); refine de_isB ?_)
  | ((with_reducible show DE _ _ (Expr.Compare _ [CmpOp.IsNot] _ _) _ _ _); refine de_notB ?_)
  | ((with_reducible show DE _ _ (Expr.Compare _ [CmpOp.LtE, CmpOp.LtE] _ _) _ _ _); refine de_lele ?_)
  | ((with_reducible show DE _ _ (Expr.Compare _ [CmpOp.LtE, CmpOp.Lt] _ _) _ _ _); refine de_lelt ?_) | fail))
local macro_rules | `(tactic| wtm_at "pv cmpt") => `(tactic| (first
  | ((with_reducible show DT _ _ (Expr.Compare _ [CmpOp.Eq] _ _) _ _ _); refine dt_eq (by with_reducible assumption) ?_)
  | ((with_reducible show DT _ _ (Expr.Compare _ [CmpOp.NotEq] _ _) _ _ _); refine dt_ne (by with_reducible assumption) ?_)
  | ((with_reducible show DT _ _ (Expr.Compare _ [CmpOp.In] _ _) _ _ _); refine dt_in (Ct.u65 (by with_reducible assumption)) rfl ?_)
  | ((with_reducible show DT _ _ (Expr.Compare _ [CmpOp.NotIn] _ _) _ _ _); refine dt_notIn (Ct.u65 (by with_reducible assumption)) rfl ?_)
  | ((with_reducible show DT _ _ (Expr.Compare _ [CmpOp.Lt] _ _) _ _ _); refine dt_lt ?_)
  | ((with_reducible show DT _ _ (Expr.Compare _ [CmpOp.LtE] _ _) _ _ _); refine dt_le ?_)
  | ((with_reducible show DT _ _ (Expr.Compare _ [CmpOp.Gt] _ _) _ _ _); refine dt_gt ?_)
  | ((with_reducible show DT _ _ (Expr.Compare _ [CmpOp.GtE] _ _) _ _ _); refine dt_ge ?_)
  | ((with_reducible show DT _ _ (Expr.Compare _ [CmpOp.Is] [Expr.Constant Const.none _ _] _) _ _ _); refine dt_isN ?_)
  | ((with_reducible show DT _ _ (Expr.Compare _ [CmpOp.IsNot] [Expr.Constant Const.none _ _] _) _ _ _); refine dt_notN ?_)
  | ((with_reducible show DT _ _ (Expr.Compare _ [CmpOp.Is] _ _) _ _ _); refine dt_isB ?_)
  | ((with_reducible show DT _ _ (Expr.Compare _ [CmpOp.IsNot] _ _) _ _ _); refine dt_notB ?_)
  | ((with_reducible show DT _ _ (Expr.Compare _ [CmpOp.LtE, CmpOp.LtE] _ _) _ _ _); refine dt_lele ?_)
  | ((with_reducible show DT _ _ (Expr.Compare _ [CmpOp.LtE, CmpOp.Lt] _ _) _ _ _); refine dt_lelt ?_) | fail))
local macro_rules | `(tactic| wtm_at "pv call") => `(tactic| (first
  | ((with_reducible show DE _ _ (Expr.Call (Expr.Name (Str.ofString "len") _) [Expr.Call (Expr.Name (Str.ofString "set") _) [_] _ _] _ _) _ _ _); refine de_lenSet (by with_reducible assumption) (by wtm_at "pv gl") (by with_reducible assumption) (by wtm_at "pv gl") (by with_reducible assumption) ?_)
  | ((with_reducible show DE _ _ (Expr.Call (Expr.Name (Str.ofString "len") _) _ _ _) _ _ _); refine de_len (by with_reducible assumption) (by wtm_at "pv gl") (by with_reducible assumption) ?_)
  | ((with_reducible show DE _ _ (Expr.Call (Expr.Name (Str.ofString "isinstance") _) _ _ _) _ _ _); refine de_isi (by with_reducible assumption) (by wtm_at "pv gl") (by with_reducible assumption) (by wtm_at "pv gl") (by with_reducible assumption) (by wtm_at "pv bt") ?_)
  | ((with_reducible show DE _ _ (Expr.Call (Expr.Name (Str.ofString "all") _) _ _ _) _ _ _); refine de_all (by with_reducible assumption) (by wtm_at "pv gl") (by with_reducible assumption) ?_)
  | ((with_reducible show DE _ _ (Expr.Call (Expr.Name (Str.ofString "any") _) _ _ _) _ _ _); refine de_any (by with_reducible assumption) (by wtm_at "pv gl") (by with_reducible assumption) ?_)
  | ((with_reducible show DE _ _ (Expr.Call (Expr.Name (Str.ofString "sum") _) _ _ _) _ _ _); refine de_sum (by with_reducible assumption) (by wtm_at "pv gl") (by with_reducible assumption) ?_)
  | ((with_reducible show DE _ _ (Expr.Call (Expr.Name (Str.ofString "max") _) [_, _] _ _) _ _ _); refine de_max2 (by with_reducible assumption) (by wtm_at "pv gl") (by with_reducible assumption) ?_)
  | ((with_reducible show DE _ _ (Expr.Call (Expr.Name (Str.ofString "min") _) [_, _] _ _) _ _ _); refine de_min2 (by with_reducible assumption) (by wtm_at "pv gl") (by with_reducible assumption) ?_)
  | ((with_reducible show DE _ _ (Expr.Call (Expr.Name (Str.ofString "divmod") _) [_, _] _ _) _ _ _); refine de_divmod (by with_reducible assumption) (by wtm_at "pv gl") (by with_reducible assumption) ?_)
  | ((with_reducible show DE _ _ (Expr.Call (Expr.Name (Str.ofString "int") _) [_] _ _) _ _ _); refine de_int1 (by with_reducible assumption) (by wtm_at "pv gl") (by with_reducible assumption) ?_)
  | ((with_reducible show DE _ _ (Expr.Call (Expr.Name (Str.ofString "str") _) [_] _ _) _ _ _); refine de_str1 (by with_reducible assumption) (by wtm_at "pv gl") (by with_reducible assumption) ?_)
  | ((with_reducible show DE _ _ (Expr.Call (Expr.Name (Str.ofString "list") _) [_] _ _) _ _ _); refine de_list1 (by with_reducible assumption) (by wtm_at "pv gl") (by with_reducible assumption) ?_)
  | ((with_reducible show DE _ _ (Expr.Call (Expr.Name (Str.ofString "tuple") _) [_] _ _) _ _ _); refine de_tuple1 (by with_reducible assumption) (by wtm_at "pv gl") (by with_reducible assumption) ?_)
  | ((with_reducible show DE _ _ (Expr.Call (Expr.Name (Str.ofString "sorted") _) [_] _ _) _ _ _); refine de_sortedI (by with_reducible assumption) (by wtm_at "pv gl") (by with_reducible assumption) ?_)
  | refine de_call (by with_reducible assumption) (by with_reducible assumption) (by decide) (by wtm_at "pv gl") ?_
  | refine de_makeN (by with_reducible assumption) (by with_reducible assumption) (by with_reducible assumption) (by decide) (by wtm_at "pv gl") ?_ | fail))
local macro_rules | `(tactic| wtm_at "pv dr") => `(tactic| ((with_reducible show DR _ _ _ _ _ _); first
  | ((with_reducible show DR _ _ (Expr.Name _ _) _ _ _); refine dr_acc (by with_reducible assumption) (by wtm_at "pv at") (by wtm_at "pv vis") ?_)
  | refine dr_of ?_ | fail))
local macro_rules | `(tactic| wtm_at "pv args") => `(tactic| (first
  | ((with_reducible show DA _ _ (_ :: _) _ _ _); refine da_cons ?_)
  | ((with_reducible show DA _ _ [] _ _ _); refine da_nil ?_)
  | ((with_reducible show DAR _ _ (_ :: _) _ _ _); refine dar_cons ?_)
  | ((with_reducible show DAR _ _ [] _ _ _); refine dar_nil ?_)
  | ((with_reducible show DO _ _ none _ _ _); refine do_none ?_)
  | ((with_reducible show DO _ _ (some _) _ _ _); refine do_some ?_)
  | ((with_reducible show DTs _ _ [] _ _ _); refine dts_nil ?_)
  | ((with_reducible show DTs _ _ [_] _ _ _); refine dts_one ?_) | fail))
local macro_rules | `(tactic| wtm_at "pv test") => `(tactic| (first
  | ((with_reducible show DT _ _ (Expr.BoolOp _ _ _) _ _ _); refine dw_dt ?_)
  | ((with_reducible show DT _ _ (Expr.UnaryOp UnaryOp.Not _ _) _ _ _); refine dt_not ?_)
  | ((with_reducible show DT _ _ (Expr.Compare _ _ _ _) _ _ _); wtm_at "pv cmpt")
  | ((with_reducible show DT _ _ _ _ _ _); refine dt_tr ?_)
  | ((with_reducible show DW _ _ (Expr.BoolOp BoolOp.Or (_ :: _ :: _) _) _ _ _); refine dw_or ?_)
  | ((with_reducible show DW _ _ (Expr.BoolOp BoolOp.And (_ :: _ :: _) _) _ _ _); refine dw_and ?_)
  | ((with_reducible show DW _ _ (Expr.BoolOp BoolOp.Or [_] _) _ _ _); refine dw_or1 ?_)
  | ((with_reducible show DW _ _ (Expr.BoolOp BoolOp.And [_] _) _ _ _); refine dw_and1 ?_) | fail))
local macro_rules | `(tactic| wtm_at "pv stmt") => `(tactic| (first
  | ((with_reducible show DSs _ _ (_ :: _) _ _ _ _ _ _); refine dss_cons ?_)
  | ((with_reducible show DSs _ _ [] _ _ _ _ _ _); refine dss_nil ?_)
  | ((with_reducible show DS _ _ (Stmt.Return (some (Expr.Name _ _)) _) _ _ _ _ _ _); refine ds_ret_acc (by with_reducible assumption) (by wtm_at "pv at") (by wtm_at "pv vis") ?_)
  | ((with_reducible show DS _ _ (Stmt.Return (some _) _) _ _ _ _ _ _); refine ds_ret ?_)
  | ((with_reducible show DS _ _ (Stmt.If _ _ _ _) _ _ _ _ _ _); refine ds_if ?_)
  | ((with_reducible show DS _ _ (Stmt.Assign [Expr.Name _ _] (Expr.List [] _) _) _ _ _ _ _ _); refine ds_acc (by with_reducible assumption) (by wtm_at "pv at") (by wtm_at "pv loc") ?_)
  | ((with_reducible show DS _ _ (Stmt.Assign [Expr.Name _ _] (Expr.BinOp (Expr.List _ _) Operator.Mult _ _) _) _ _ _ _ _ _); refine ds_accF (by with_reducible assumption) (by wtm_at "pv at") (by wtm_at "pv loc") (df_rep ?_))
  | ((with_reducible show DS _ _ (Stmt.Assign [Expr.Subscript (Expr.Name _ _) _ _] _ _) _ _ _ _ _ _); refine ds_setIx (by with_reducible assumption) (by wtm_at "pv at") (by wtm_at "pv vis") ?_)
  | ((with_reducible show DS _ _ (Stmt.AugAssign (Expr.Subscript (Expr.Name _ _) _ _) Operator.Add _ _) _ _ _ _ _ _); refine ds_addIx (by with_reducible assumption) (by wtm_at "pv at") (by wtm_at "pv vis") ?_)
  | ((with_reducible show DS _ _ (Stmt.AugAssign (Expr.Name _ _) Operator.Add _ _) _ _ _ _ _ _); refine ds_addI (by with_reducible assumption) (by wtm_at "pv at") (by wtm_at "pv loc") ?_)
  | ((with_reducible show DS _ _ (Stmt.AugAssign (Expr.Name _ _) Operator.Sub _ _) _ _ _ _ _ _); refine ds_subI (by with_reducible assumption) (by wtm_at "pv at") (by wtm_at "pv loc") ?_)
  | ((with_reducible show DS _ _ (Stmt.Expr (Expr.Call (Expr.Attribute (Expr.Name _ _) (Str.ofString "append") _) [_] _ _) _) _ _ _ _ _ _); refine ds_append (by with_reducible assumption) (by wtm_at "pv at") (by wtm_at "pv vis") (by wtm_at "pv len") ?_)
  | ((with_reducible show DS _ _ (Stmt.Assign [Expr.Attribute (Expr.Name _ _) _ _] _ _) _ _ _ _ _ _); refine ds_fldN (by with_reducible assumption) (by wtm_at "pv at") (by wtm_at "pv vis") (by with_reducible assumption) (by with_reducible assumption) (by wtm_at "pv lk") (by simp only [List.length_append, List.length_cons, List.length_nil] <;> decide) ?_)
  | ((with_reducible show DS _ _ (Stmt.Assign [_] _ _) _ _ _ _ _ _); refine ds_asg (by with_reducible assumption) ?_)
  | ((with_reducible show DS _ _ (Stmt.Expr _ _) _ _ _ _ _ _); refine ds_expr ?_)
  | ((with_reducible show DS _ _ (Stmt.Raise _ _ _) _ _ _ _ _ _); refine ds_raise (by with_reducible assumption) (by with_reducible assumption) (by wtm_at "pv gl") ?_)
  | ((with_reducible show DS _ _ (Stmt.Pass _) _ _ _ _ _ _); refine ds_pass ?_)
  | ((with_reducible show DS _ _ (Stmt.Continue _) _ _ _ _ _ _); refine ds_cont ?_)
  | ((with_reducible show DS _ _ (Stmt.Break _) _ _ _ _ _ _); refine ds_brk ?_) | fail))
local macro_rules | `(tactic| wtm_at "pv own") => `(tactic| (with_reducible (first | exact OwnW.nil | (apply OwnW.dot; wtm_at "pv own") | (apply OwnW.loc; (wtm_at "pv own"); (wtm_at "pv put")) | (apply OwnW.cel; (wtm_at "pv own"); (wtm_at "pv put")) | (apply OwnW.fre; wtm_at "pv own") | (apply OwnW.gim; wtm_at "pv own") | (apply OwnW.gex; wtm_at "pv own") | fail)))
/- a target within a block: where it stores, and what is behind -/
local macro_rules | `(tactic| wtm_at "pv blk") => `(tactic| (refine ⟨_, _, (by wtm_at "pv dg"), (by decide), fun X' c' => ?_, fun hq X' c' => ?_⟩))
/- a way that can't be, by its written truth; the others told plainly -/
local macro_rules | `(tactic| wtm_at "pv way") => `(tactic| (refine ⟨fun hw => ?_, fun hw => ?_⟩ <;> first
  | exact absurd hw Bool.false_ne_true | exact absurd hw.symm Bool.false_ne_true
  | (simp only [decide_eq_true_eq, decide_eq_false_iff_not, Bool.not_eq_true', Bool.not_eq_false', Bool.not_true, Bool.not_false, Int.not_le, Int.not_lt, beq_iff_eq, beq_eq_false_iff_ne] at hw; try exact absurd rfl hw) | skip))
local macro_rules | `(tactic| wtm_at "pv ex") => `(tactic| (first
  | ((with_reducible show (_ = true → _) ∧ (_ = false → _)); wtm_at "pv way")
  | ((with_reducible show ∃ _ _, DG _ _ _ _ _ _ _ _ ∧ _); refine ⟨_, _, (by wtm_at "pv dg"), ?_⟩)
  | ((with_reducible show ∃ _ _, _ ∧ D.len _ = _ ∧ _); first | refine ⟨_, _, rfl, len_str (by omega), ?_⟩ | refine ⟨_, _, rfl, rfl, ?_⟩ | fail)
  | ((with_reducible show List.length (_ :: _) ≤ 100000 ∧ _); refine ⟨by (simp only [List.length_cons, List.length_nil] <;> omega), ?_⟩)
  | ((with_reducible show List.length [] ≤ 100000 ∧ _); refine ⟨Nat.zero_le _, ?_⟩)
  | ((with_reducible show List.length _ ≤ 100000 ∧ _); refine ⟨by wtm_at "pv len", ?_⟩)
  | ((with_reducible show True); exact trivial)
  | ((with_reducible show List.length _ ≤ 100 ∧ _); refine ⟨by wtm_at "pv len", ?_⟩)
  | ((with_reducible show 0 ≤ _ ∧ _ < 100000 ∧ _); refine ⟨by omega, by omega, ?_⟩)
  | ((with_reducible show pick _ _ [] _); exact trivial)
  | ((with_reducible show pick _ _ (_ :: _) _); refine ⟨fun hw => ?_, ?_⟩)
  | ((with_reducible show ∃ _, D.int _ = keyD _ ∧ _); refine ⟨.inl _, rfl, ?_⟩)
  | ((with_reducible show ∃ _, D.str _ = keyD _ ∧ _); refine ⟨.inr _, rfl, ?_⟩)
  | ((with_reducible show _ = _); rfl)
  | ((with_reducible show ∃ _, Put _ _ _ _ _ _ ∧ _); refine ⟨_, (by wtm_at "pv put"), ?_⟩)
  | ((with_reducible show ∃ _ _ _, D.obj _ _ = D.obj _ _ ∧ Cls _ _ ∧ _); refine ⟨_, _, _, rfl, (by with_reducible assumption), (by with_reducible assumption), (by wtm_at "pv lk"), ?_⟩)
  | ((with_reducible show ∃ _, D.obj _ _ = D.obj _ _ ∧ List.lookup _ _ = none ∧ _); refine ⟨_, rfl, (by wtm_at "pv lk"), ?_⟩)
  | ((with_reducible show ∃ _ _, D.tyN _ = _ ∧ kitB _ _ = _ ∧ _); refine ⟨_, _, rfl, (by wtm_at "pv kb"), ?_⟩)
  | ((with_reducible show ∃ _ _, _ ∧ _ ∧ _); refine ⟨_, _, rfl, rfl, ?_⟩)
  | ((with_reducible show ∃ _, _ ∧ _); refine ⟨_, rfl, ?_⟩)
  | ((with_reducible show _ = _ ∧ _); refine ⟨rfl, ?_⟩) | fail))
local macro_rules | `(tactic| wtm_at "pv di") => `(tactic| (first
  | ((with_reducible show DI _ _ _ (Expr.Call (Expr.Name (Str.ofString "range") _) [_] _ _) _ _ _); refine di_range1 (by with_reducible assumption) (by wtm_at "pv gl") (by with_reducible assumption) ?_)
  | ((with_reducible show DI _ _ _ (Expr.Call (Expr.Name (Str.ofString "range") _) [_, _] _ _) _ _ _); refine di_range2 (by with_reducible assumption) (by wtm_at "pv gl") (by with_reducible assumption) ?_)
  | ((with_reducible show DI _ _ _ (Expr.Call (Expr.Name (Str.ofString "enumerate") _) [_] _ _) _ _ _); refine di_enum (by with_reducible assumption) (by wtm_at "pv gl") (by with_reducible assumption) ?_)
  | ((with_reducible show DI _ _ _ (Expr.Call (Expr.Name (Str.ofString "zip") _) [_, _] _ _) _ _ _); refine di_zip (by with_reducible assumption) (by wtm_at "pv gl") (by with_reducible assumption) ?_) | fail))
local macro_rules | `(tactic| wtm_at "pv step") => `(tactic| (first
  | ((with_reducible show DE _ _ _ _ _ _); wtm_at "pv de")
  | ((with_reducible show RW _ _ _ _ _); wtm_at "pv op")
  | wtm_at "pv di" | wtm_at "pv cut" | wtm_at "pv dps" | wtm_at "pv dr" | wtm_at "pv args" | wtm_at "pv test" | wtm_at "pv stmt" | wtm_at "pv ex" | fail))
/- a cut -/
local macro_rules | `(tactic| wtm_at "pv cut") => `(tactic| (first
  | ((with_reducible show RS _ (D.str _) _ _ _); refine o_sl_s (by wtm_at "pv len") ?_)
  | ((with_reducible show RS _ (D.lst _) _ _ _); refine o_sl_l ?_)
  | ((with_reducible show RS _ (D.tup _) _ _ _); refine o_sl_t ?_) | fail))
/- displays of dicts -/
local macro_rules | `(tactic| wtm_at "pv dps") => `(tactic| (first
  | ((with_reducible show DPs _ _ (_ :: _) (_ :: _) _ _ _); refine dps_cons ?_)
  | ((with_reducible show DPs _ _ [] [] _ _ _); refine dps_nil ?_) | fail))
/- a list, owned -/
local macro_rules | `(tactic| wtm_at "pv acc") => `(tactic| (refine dss_cons ?_; refine ds_acc (by with_reducible assumption) (by wtm_at "pv at") (by wtm_at "pv loc") ?_))
local macro_rules | `(tactic| wtm_at "pv freeze") => `(tactic| (refine dss_freeze (by with_reducible assumption) (by wtm_at "pv at") ?_; refine ⟨_, (by wtm_at "pv put"), ?_⟩))
/- a place of a menu: one way each -/
local macro_rules | `(tactic| wtm_at "pv pick") => `(tactic| (refine o_pick (by omega) (by simp only [List.length_cons, List.length_nil] <;> omega) ?_))
/- all steps, on all that is left -/
local macro_rules | `(tactic| wtm_at "pv") => `(tactic| (repeat' (wtm_at "pv step")))
/- owned objects behind the names -/
local macro_rules | `(tactic| wtm_at "pv hs") => `(tactic| (with_reducible (first | exact Hs.z | (apply Hs.s; wtm_at "pv hs") | fail)))
local macro_rules | `(tactic| wtm_at "pv hput") => `(tactic| (with_reducible (first | exact Hput.z | (apply Hput.s; wtm_at "pv hput") | fail)))
local macro_rules | `(tactic| wtm_at "pv cin") => `(tactic| (with_reducible (first | exact Cin.z | (apply Cin.s; wtm_at "pv cin") | fail)))
local macro_rules | `(tactic| wtm_at "pv cput") => `(tactic| (with_reducible (first | exact Cput.z | (apply Cput.s; wtm_at "pv cput") | fail)))
local macro_rules | `(tactic| wtm_at "pv ls") => `(tactic| (with_reducible (first | exact Ls.z | (apply Ls.s; wtm_at "pv ls") | fail)))
local macro_rules | `(tactic| wtm_at "pv see") => `(tactic| (first | (refine See.look (by wtm_at "pv ls") (by wtm_at "pv cin")) | (refine See.heap (by wtm_at "pv hs") (by wtm_at "pv cin")) | fail))
local macro_rules | `(tactic| wtm_at "pv de") => `(tactic| ((with_reducible show DE _ _ (Expr.Call (Expr.Attribute _ (Str.ofString "startswith") _) _ _ _) _ _ _); refine de_starts ?_))
namespace K82
open PySem PySem.Spec PyProof.Rows L2 PV
def top (i : Nat) : Stmt := PySem.Challenge.pw_wirehall_k82_lines_of_accounts.main.body.getD i (.Pass ⟨0, 0, 0, 0⟩)
abbrev s__wall : Stmt := top 0
abbrev N__wall : List Str := ["k"]
theorem sc__wall : FnScope N__wall ["k"] (defScope s__wall) := ⟨rfl, rfl, rfl, by decide +kernel, rfl, by decide +kernel, by decide +kernel⟩
abbrev s_Twice_init : Stmt := inClass (top 8) 0
abbrev N_Twice_init : List Str := ["self", "figures"]
theorem sc_Twice_init : FnScope N_Twice_init ["self", "figures"] (defScope s_Twice_init) := ⟨rfl, rfl, rfl, by decide +kernel, rfl, by decide +kernel, by decide +kernel⟩
abbrev s_is_figures : Stmt := top 12
abbrev N_is_figures : List Str := ["thing", "sign"]
theorem sc_is_figures : FnScope N_is_figures ["thing"] (defScope s_is_figures) := ⟨rfl, rfl, rfl, by decide +kernel, rfl, by decide +kernel, by decide +kernel⟩
abbrev s_is_between : Stmt := top 13
abbrev N_is_between : List Str := ["thing", "least", "most"]
theorem sc_is_between : FnScope N_is_between ["thing", "least", "most"] (defScope s_is_between) := ⟨rfl, rfl, rfl, by decide +kernel, rfl, by decide +kernel, by decide +kernel⟩
abbrev s_need_time : Stmt := top 17
abbrev N_need_time : List Str := ["time"]
theorem sc_need_time : FnScope N_need_time ["time"] (defScope s_need_time) := ⟨rfl, rfl, rfl, by decide +kernel, rfl, by decide +kernel, by decide +kernel⟩
abbrev s_is_row : Stmt := top 23
abbrev N_is_row : List Str := ["row"]
theorem sc_is_row : FnScope N_is_row ["row"] (defScope s_is_row) := ⟨rfl, rfl, rfl, by decide +kernel, rfl, by decide +kernel, by decide +kernel⟩
abbrev s_are_rows : Stmt := top 24
abbrev N_are_rows : List Str := ["rows", "row", "one", "other"]
theorem sc_are_rows : FnScope N_are_rows ["rows"] (defScope s_are_rows) := ⟨rfl, rfl, rfl, by decide +kernel, rfl, by decide +kernel, by decide +kernel⟩
abbrev s_are_days : Stmt := top 25
abbrev N_are_days : List Str := ["days", "day"]
theorem sc_are_days : FnScope N_are_days ["days"] (defScope s_are_days) := ⟨rfl, rfl, rfl, by decide +kernel, rfl, by decide +kernel, by decide +kernel⟩
abbrev s_are_prices : Stmt := top 26
abbrev N_are_prices : List Str := ["prices", "price"]
theorem sc_are_prices : FnScope N_are_prices ["prices"] (defScope s_are_prices) := ⟨rfl, rfl, rfl, by decide +kernel, rfl, by decide +kernel, by decide +kernel⟩
abbrev s_need_prices : Stmt := top 27
abbrev N_need_prices : List Str := ["prices"]
theorem sc_need_prices : FnScope N_need_prices ["prices"] (defScope s_need_prices) := ⟨rfl, rfl, rfl, by decide +kernel, rfl, by decide +kernel, by decide +kernel⟩
abbrev s_Bands_init : Stmt := inClass (top 28) 0
abbrev N_Bands_init : List Str := ["self", "rows", "low", "begin", "band"]
theorem sc_Bands_init : FnScope N_Bands_init ["self", "rows", "low"] (defScope s_Bands_init) := ⟨rfl, rfl, rfl, by decide +kernel, rfl, by decide +kernel, by decide +kernel⟩
abbrev s_Bands_band_at : Stmt := inClass (top 28) 1
abbrev N_Bands_band_at : List Str := ["self", "time"]
theorem sc_Bands_band_at : FnScope N_Bands_band_at ["self", "time"] (defScope s_Bands_band_at) := ⟨rfl, rfl, rfl, by decide +kernel, rfl, by decide +kernel, by decide +kernel⟩
abbrev s_Bands_of_day : Stmt := inClass (top 28) 2
abbrev N_Bands_of_day : List Str := ["self", "weekday", "second", "found", "k", "band"]
theorem sc_Bands_of_day : FnScope N_Bands_of_day ["self", "weekday", "second"] (defScope s_Bands_of_day) := ⟨rfl, rfl, rfl, by decide +kernel, rfl, by decide +kernel, by decide +kernel⟩
abbrev s_Bands_ahead_of : Stmt := inClass (top 28) 3
abbrev N_Bands_ahead_of : List Str := ["self", "time", "day", "second", "weeks", "left", "found", "weekday", "days", "one", "other"]
theorem sc_Bands_ahead_of : FnScope N_Bands_ahead_of ["self", "time"] (defScope s_Bands_ahead_of) := ⟨rfl, rfl, rfl, by decide +kernel, rfl, by decide +kernel, by decide +kernel⟩
abbrev s_Bands_seconds : Stmt := inClass (top 28) 4
abbrev N_Bands_seconds : List Str := ["self", "begin", "end", "one", "other"]
theorem sc_Bands_seconds : FnScope N_Bands_seconds ["self", "begin", "end"] (defScope s_Bands_seconds) := ⟨rfl, rfl, rfl, by decide +kernel, rfl, by decide +kernel, by decide +kernel⟩
abbrev s_Bands_cost : Stmt := inClass (top 28) 5
abbrev N_Bands_cost : List Str := ["self", "begin", "end", "prices", "many", "price"]
theorem sc_Bands_cost : FnScope N_Bands_cost ["self", "begin", "end", "prices"] (defScope s_Bands_cost) := ⟨rfl, rfl, rfl, by decide +kernel, rfl, by decide +kernel, by decide +kernel⟩
abbrev s_Plan_init : Stmt := inClass (top 31) 0
abbrev N_Plan_init : List Str := ["self", "rows", "beginning", "thing", "size"]
theorem sc_Plan_init : FnScope N_Plan_init ["self", "rows"] (defScope s_Plan_init) := ⟨rfl, rfl, rfl, by decide +kernel, rfl, by decide +kernel, by decide +kernel⟩
abbrev s_Plan_rows : Stmt := inClass (top 31) 1
abbrev N_Plan_rows : List Str := ["self"]
theorem sc_Plan_rows : FnScope N_Plan_rows ["self"] (defScope s_Plan_rows) := ⟨rfl, rfl, rfl, by decide +kernel, rfl, by decide +kernel, by decide +kernel⟩
abbrev s_Plan_longest : Stmt := inClass (top 31) 2
abbrev N_Plan_longest : List Str := ["self", "number", "size"]
theorem sc_Plan_longest : FnScope N_Plan_longest ["self", "number"] (defScope s_Plan_longest) := ⟨rfl, rfl, rfl, by decide +kernel, rfl, by decide +kernel, by decide +kernel⟩
abbrev s_Plan_found : Stmt := inClass (top 31) 3
abbrev N_Plan_found : List Str := ["self", "number", "beginning"]
theorem sc_Plan_found : FnScope N_Plan_found ["self", "number"] (defScope s_Plan_found) := ⟨rfl, rfl, rfl, by decide +kernel, rfl, by decide +kernel, by decide +kernel⟩
abbrev s_Plan_stands : Stmt := inClass (top 31) 4
abbrev N_Plan_stands : List Str := ["self", "figures"]
theorem sc_Plan_stands : FnScope N_Plan_stands ["self", "figures"] (defScope s_Plan_stands) := ⟨rfl, rfl, rfl, by decide +kernel, rfl, by decide +kernel, by decide +kernel⟩
abbrev s_Tariff_init : Stmt := inClass (top 33) 0
abbrev N_Tariff_init : List Str := ["self", "bands", "plan", "rows", "beginning", "prices"]
theorem sc_Tariff_init : FnScope N_Tariff_init ["self", "bands", "plan"] (defScope s_Tariff_init) := ⟨rfl, rfl, rfl, by decide +kernel, rfl, by decide +kernel, by decide +kernel⟩
abbrev s_Tariff_prices_of : Stmt := inClass (top 33) 1
abbrev N_Tariff_prices_of : List Str := ["self", "number", "found"]
theorem sc_Tariff_prices_of : FnScope N_Tariff_prices_of ["self", "number"] (defScope s_Tariff_prices_of) := ⟨rfl, rfl, rfl, by decide +kernel, rfl, by decide +kernel, by decide +kernel⟩
abbrev s_Tariff_price : Stmt := inClass (top 33) 2
abbrev N_Tariff_price : List Str := ["self", "account", "payer", "number", "begin", "end", "prices"]
theorem sc_Tariff_price : FnScope N_Tariff_price ["self", "account"] (defScope s_Tariff_price) := ⟨rfl, rfl, rfl, by decide +kernel, rfl, by decide +kernel, by decide +kernel⟩
abbrev s_Tariff_lines : Stmt := inClass (top 33) 3
abbrev N_Tariff_lines : List Str := ["self", "account", "payer", "number", "begin", "end", "prices", "found", "band", "many"]
theorem sc_Tariff_lines : FnScope N_Tariff_lines ["self", "account"] (defScope s_Tariff_lines) := ⟨rfl, rfl, rfl, by decide +kernel, rfl, by decide +kernel, by decide +kernel⟩
abbrev s_mixed : Stmt := top 35
abbrev N_mixed : List Str := ["_law_cell", "_law_k", "_law_number"]
theorem sc_mixed : FnScope N_mixed ["_law_cell", "_law_k"] (defScope s_mixed) := ⟨rfl, rfl, rfl, by decide +kernel, rfl, by decide +kernel, by decide +kernel⟩
abbrev s_cell_at : Stmt := top 36
abbrev N_cell_at : List Str := ["_law_script", "_law_k"]
theorem sc_cell_at : FnScope N_cell_at ["_law_script", "_law_k"] (defScope s_cell_at) := ⟨rfl, rfl, rfl, by decide +kernel, rfl, by decide +kernel, by decide +kernel⟩
abbrev s_time : Stmt := top 37
abbrev N_time : List Str := ["_law_cell", "_law_far", "_law_midnight"]
theorem sc_time : FnScope N_time ["_law_cell"] (defScope s_time) := ⟨rfl, rfl, rfl, by decide +kernel, rfl, by decide +kernel, by decide +kernel⟩
abbrev s_rows : Stmt := top 38
abbrev N_rows : List Str := ["_law_cell", "_law_begins", "_law_k", "_law_begin"]
theorem sc_rows : FnScope N_rows ["_law_cell"] (defScope s_rows) := ⟨rfl, rfl, rfl, by decide +kernel, rfl, by decide +kernel, by decide +kernel⟩
abbrev s_low : Stmt := top 39
abbrev N_low : List Str := ["_law_cell", "_law_days", "_law_day"]
theorem sc_low : FnScope N_low ["_law_cell"] (defScope s_low) := ⟨rfl, rfl, rfl, by decide +kernel, rfl, by decide +kernel, by decide +kernel⟩
abbrev s_prices : Stmt := top 40
abbrev N_prices : List Str := ["_law_cell", "_law_most", "_law_k"]
theorem sc_prices : FnScope N_prices ["_law_cell"] (defScope s_prices) := ⟨rfl, rfl, rfl, by decide +kernel, rfl, by decide +kernel, by decide +kernel⟩
abbrev s_figures : Stmt := top 41
abbrev N_figures : List Str := ["_law_cell", "_law_most", "_law_k"]
theorem sc_figures : FnScope N_figures ["_law_cell", "_law_most"] (defScope s_figures) := ⟨rfl, rfl, rfl, by decide +kernel, rfl, by decide +kernel, by decide +kernel⟩
abbrev s_price_rows : Stmt := top 42
abbrev N_price_rows : List Str := ["_law_cell", "_law_rows_here", "_law_k", "_law_figures_here", "_law_row"]
theorem sc_price_rows : FnScope N_price_rows ["_law_cell"] (defScope s_price_rows) := ⟨rfl, rfl, rfl, by decide +kernel, rfl, by decide +kernel, by decide +kernel⟩
abbrev s_account : Stmt := top 43
abbrev N_account : List Str := ["_law_cell", "_law_begin", "_law_end"]
theorem sc_account : FnScope N_account ["_law_cell"] (defScope s_account) := ⟨rfl, rfl, rfl, by decide +kernel, rfl, by decide +kernel, by decide +kernel⟩
abbrev s_prices_of : Stmt := top 44
abbrev N_prices_of : List Str := ["_law_rows_here", "_law_number", "_law_found", "_law_figures_here", "_law_prices_here"]
theorem sc_prices_of : FnScope N_prices_of ["_law_rows_here", "_law_number"] (defScope s_prices_of) := ⟨rfl, rfl, rfl, by decide +kernel, rfl, by decide +kernel, by decide +kernel⟩
abbrev s_alike : Stmt := top 45
abbrev N_alike : List Str := ["_law_one", "_law_other", "_law_a", "_law_b"]
theorem sc_alike : FnScope N_alike ["_law_one", "_law_other"] (defScope s_alike) := ⟨rfl, rfl, rfl, by decide +kernel, rfl, by decide +kernel, by decide +kernel⟩
abbrev s_due : Stmt := top 46
abbrev N_due : List Str := ["_law_bands", "_law_rows_here", "_law_account_here", "_law_prices_here", "_law_seconds", "_law_some", "_law_band"]
theorem sc_due : FnScope N_due ["_law_bands", "_law_rows_here", "_law_account_here"] (defScope s_due) := ⟨rfl, rfl, rfl, by decide +kernel, rfl, by decide +kernel, by decide +kernel⟩
abbrev s_law : Stmt := top 47
abbrev N_law : List Str := ["_law_script", "_law_cell", "_law_bands", "_law_rows_here", "_law_tariff", "_law_held", "_law_one", "_law_account_here", "_law_due_here", "_law_found", "_law_line"]
theorem sc_law : FnScope N_law ["_law_script"] (defScope s_law) := ⟨rfl, rfl, rfl, by decide +kernel, rfl, by decide +kernel, by decide +kernel⟩
theorem to_bl {P : D → Prop} {a b : Bool} (h : P (.bl a)) (e : a = b) : P (.bl b) := e ▸ h
def mixed (cell k : Int) : Int := ((cell + 7919 * k) * 48271 % 2147483647) * ((cell + 7919 * k) * 48271 % 2147483647 + 2 * k + 1) % 2147483629
def F_mixed : Phi := fun ds P _ => ∃ cell k : Int, ds = [.int cell, .int k] ∧ 0 ≤ k ∧ k < 1000000 ∧ P (.int (mixed cell k))
theorem ok_mixed {M : Md} {f : Addr} {fd : FuncData} (G : Fun M.K "_law_mixed" "_law_mixed" s_mixed f fd) : FnOk M.P M.w M.K M.mg M.base (L2.CX M.P M.w) 1 f fd ["_law_cell", "_law_k"] (spD M.K 2 F_mixed) := by
  refine fn_ok G sc_mixed rfl ?_
  rintro ds P PX - ⟨cell, k, rfl, h0, h1, hP⟩ X W c
  change DSs X W (_ :: _) [_, _, _] _ _ _ _ _
  wtm_at "pv"
  exact hP
/-- a whole number between two -/
def btw : D → Int → Int → Bool
  | .int i, l, m => decide (l ≤ i) && decide (i ≤ m)
  | _, _, _ => false
def F_between : Phi := fun ds P _ => ∃ d l m, ds = [d, .int l, .int m] ∧ d.tyN.isSome = true ∧ P (.bl (btw d l m))
theorem ok_between {M : Md} {f : Addr} {fd : FuncData} (G : Fun M.K "is_between" "is_between" s_is_between f fd) (bi1 : Bi M "isinstance") (bi2 : Bi M "int") (bi3 : Bi M "bool") : FnOk M.P M.w M.K M.mg M.base (L2.CX M.P M.w) 1 f fd ["thing", "least", "most"] (spD M.K 3 F_between) := by
  refine fn_ok G sc_is_between rfl ?_
  rintro ds P PX - ⟨d, l, m, rfl, ht, hP⟩ X W c
  change DSs X W (_ :: _) [_, _, _] _ _ _ _ _
  cases d with
  | int i =>
    wtm_at "pv"
    · exact to_bl hP (by simp [btw]; omega)
    · exact to_bl hP (by simp [btw]; omega)
  | obj C fs => cases ht
  | exc C w fs => cases ht
  | opq v => cases ht
  | _ =>
    wtm_at "pv"
    exact to_bl hP rfl
/-- a time that may be, or refused -/
def isTime (d : D) : Bool := btw d 0 1000000000000000
def F_need (CT : Addr) : Phi := fun ds P PX => ∃ d, ds = [d] ∧ d.tyN.isSome = true ∧ (isTime d = true → P .non) ∧ (isTime d = false → PX (.plain (.ref CT)))
theorem ok_need {M : Md} {f CT : Addr} {fd : FuncData} (G : Fun M.K "need_time" "need_time" s_need_time f fd) (g1 : GlD M "LAST_TIME" (.int 1000000000000000)) (e1 : EX M "NoTime" CT) (f1 : DefOk M 1 "is_between" 3 F_between) : FnOk M.P M.w M.K M.mg M.base (L2.CX M.P M.w) 2 f fd ["time"] (spD M.K 1 (F_need CT)) := by
  refine fn_ok G sc_need_time rfl ?_
  rintro ds P PX - ⟨d, rfl, ht, hP, hX⟩ X W c
  change DSs X W (_ :: _) [_] _ _ _ _ _
  wtm_at "pv stmt"
  wtm_at "pv stmt"
  wtm_at "pv"
  refine ⟨d, _, _, rfl, ht, ?_⟩
  cases hb : isTime d with
  | true =>
    have hb' : btw d 0 1000000000000000 = true := hb
    rw [hb']
    wtm_at "pv"
    exact hP hb
  | false =>
    have hb' : btw d 0 1000000000000000 = false := hb
    rw [hb']
    wtm_at "pv"
    exact hX hb
/-- a row of a begin and a kind -/
def F_row : Phi := fun ds P _ => ∃ a b : Int, ds = [.tup [.int a, .int b]] ∧ 0 ≤ a ∧ a ≤ 86399 ∧ 0 ≤ b ∧ b ≤ 9 ∧ P (.bl true)
local macro_rules | `(tactic| wtm_at "pv ex") => `(tactic| ((with_reducible show F_mixed _ _ _); refine ⟨_, _, rfl, by omega, by omega, ?_⟩))
theorem ok_row {M : Md} {f : Addr} {fd : FuncData} (G : Fun M.K "is_row" "is_row" s_is_row f fd) (bi1 : Bi M "isinstance") (bi2 : Bi M "tuple") (bi3 : Bi M "len") (g1 : GlD M "DAY" (.int 86400)) (g2 : GlD M "BANDS" (.int 10)) (f1 : DefOk M 1 "is_between" 3 F_between) : FnOk M.P M.w M.K M.mg M.base (L2.CX M.P M.w) 2 f fd ["row"] (spD M.K 1 F_row) := by
  refine fn_ok G sc_is_row rfl ?_
  rintro ds P PX - ⟨a, b, rfl, h0, h1, h2, h3, hP⟩ X W c
  change DSs X W (_ :: _) [_] _ _ _ _ _
  wtm_at "pv"
  refine ⟨_, _, _, rfl, rfl, ?_⟩
  rw [show btw (.int a) 0 (86400 - 1) = true by simp [btw]; omega]
  wtm_at "pv"
  refine ⟨_, _, _, rfl, rfl, ?_⟩
  rw [show btw (.int b) 0 (10 - 1) = true by simp [btw]; omega]
  wtm_at "pv"
  exact hP
/-- a time, drawn -/
def F_time : Phi := fun ds P _ => ∃ cell : Int, ds = [.int cell] ∧ ∀ t : Int, 0 ≤ t → t ≤ 1000000000000000 → P (.int t)
theorem ok_time {M : Md} {f : Addr} {fd : FuncData} (G : Fun M.K "_law_time" "_law_time" s_time f fd) (bi1 : Bi M "max") (f1 : DefOk M 1 "_law_mixed" 2 F_mixed) : FnOk M.P M.w M.K M.mg M.base (L2.CX M.P M.w) 2 f fd ["_law_cell"] (spD M.K 1 F_time) := by
  refine fn_ok G sc_time rfl ?_
  rintro ds P PX - ⟨cell, rfl, hP⟩ X W c
  change DSs X W (_ :: _) [_, _, _] _ _ _ _ _
  refine dss_cons ?_
  refine ds_asg c ?_
  refine DE.imp (P := fun d => ∃ far : Int, d = .int far) ?_ ?_
  · wtm_at "pv"
    exact ⟨_, rfl⟩
  rintro _ ⟨far, rfl⟩
  refine ⟨_, _, by wtm_at "pv dg", ?_⟩
  refine dss_cons ?_
  refine ds_asg c ?_
  refine DE.imp (P := fun d => ∃ t : Int, d = .int t ∧ 0 ≤ t ∧ t ≤ 1000000000000000) ?_ ?_
  · wtm_at "pv"
    split <;> constructor <;> omega
  rintro _ ⟨mid, rfl, m0, m1⟩
  refine ⟨_, _, by wtm_at "pv dg", ?_⟩
  wtm_at "pv"
  wtm_at "pv pick"
  have e : ((10 : Int) ^ Int.toNat 15) = 1000000000000000 := by decide
  wtm_at "pv"
  all_goals (try rw [e])
  all_goals refine hP _ ?_ ?_ <;> omega
/-- one to fifteen figures -/
def figs (s : Str) : Bool := decide (1 ≤ s.length) && decide (s.length ≤ 15) && s.cps.toList.all (fun c => decide (c ∈ ("0123456789" : Str).cps.toList))
def isFig : D → Bool
  | .str s => figs s
  | _ => false
def F_figures : Phi := fun ds P _ => ∃ d, ds = [d] ∧ d.tyN.isSome = true ∧ (∀ s, d = .str s → s.length ≤ 16777216) ∧ P (.bl (isFig d))
theorem ok_figures {M : Md} {f : Addr} {fd : FuncData} (G : Fun M.K "is_figures" "is_figures" s_is_figures f fd) (bi1 : Bi M "isinstance") (bi2 : Bi M "str") (bi3 : Bi M "len") (bi4 : Bi M "all") (g1 : GlD M "MOST_FIGURES" (.int 15)) (g2 : GlD M "FIGURES" (.str "0123456789")) : FnOk M.P M.w M.K M.mg M.base (L2.CX M.P M.w) 1 f fd ["thing"] (spD M.K 1 F_figures) := by
  refine fn_ok G sc_is_figures rfl ?_
  rintro ds P PX - ⟨d, rfl, ht, hz, hP⟩ X W c
  change DSs X W (_ :: _) [_, _] _ _ _ _ _
  cases d with
  | str s =>
    have hz := hz s rfl
    wtm_at "pv"
    · exact to_bl hP (by simp [isFig, figs]; omega)
    · refine de_lcN Nat c (by wtm_at "pv own") (by decide +kernel) ?_
      refine di_str ?_
      wtm_at "pv"
      have hlen : s.cps.toList.length = s.length := by simp [Str.length]
      refine lcb_map s.cps.toList (fun ch => .str ⟨#[ch]⟩) (fun ch => .bl (decide (ch ∈ ("0123456789" : Str).cps.toList))) rfl (by omega) (fun z hz => ?_) ?_
      · refine ⟨_, _, (by wtm_at "pv dg"), (by decide), fun X' c' => ?_⟩
        wtm_at "pv"
      · refine ⟨s.cps.toList.map fun ch => decide (ch ∈ ("0123456789" : Str).cps.toList), by rw [List.map_map]; rfl, ?_⟩
        refine to_bl hP ?_
        rename_i h1 h2
        have a1 : 1 ≤ s.length := by omega
        have a2 : s.length ≤ 15 := by omega
        show (decide (1 ≤ s.length) && decide (s.length ≤ 15) && _) = _
        rw [decide_eq_true a1, decide_eq_true a2, List.all_map]
        rfl
    · exact to_bl hP (by simp [isFig, figs]; omega)
  | obj C fs => cases ht
  | exc C w fs => cases ht
  | opq v => cases ht
  | _ =>
    wtm_at "pv"
    all_goals exact to_bl hP rfl
end K82
namespace K82
open PySem PySem.Spec PyProof.Rows L2 PV
/-! ### the data -/
abbrev rowD (r : Int × Int) : D := .tup [.int r.1, .int r.2]
abbrev rowsD (rs : List (Int × Int)) : D := .lst (rs.map rowD)
structure WfRows (rs : List (Int × Int)) : Prop where
  ne : rs ≠ []
  le : rs.length ≤ 24
  first : ∀ r t, rs = r :: t → r.1 = 0
  rise : rs.Pairwise fun a b => a.1 < b.1
  bnd : ∀ r ∈ rs, 0 ≤ r.1 ∧ r.1 ≤ 86399 ∧ 0 ≤ r.2 ∧ r.2 ≤ 9
structure WfLow (ls : List Int) : Prop where
  nd : ls.Nodup
  bnd : ∀ d ∈ ls, 0 ≤ d ∧ d ≤ 6
  le : ls.length ≤ 7
local macro_rules | `(tactic| wtm_at "pv ex") => `(tactic| ((with_reducible show F_mixed _ _ _); refine ⟨_, _, rfl, by omega, by omega, ?_⟩))
theorem mixed_nn (c k : Int) : 0 ≤ mixed c k := Int.emod_nonneg _ (by decide)
theorem rangeD_get {lo : Int} {n i : Nat} {d : D} (h : (rangeD lo n)[i]? = some d) : i < n ∧ d = .int (lo + (i : Int)) := by
  have hi : i < n := by simpa [rangeD] using (List.getElem?_eq_some_iff.mp h).1
  have e : (rangeD lo n)[i]? = some (.int (lo + (i : Int))) := by simp [rangeD, hi]
  rw [e] at h
  cases h
  exact ⟨hi, rfl⟩
theorem wf_of {ns ms : List Int} {g : Int × Nat → Int} (hn : ns.Nodup) (hb : ∀ n ∈ ns, 0 ≤ n ∧ n ≤ 86399) (h0 : (0 : Int) ∈ ns) (hl : ns.length ≤ 24) (hp : ms.Perm ns) (hs : ms.Pairwise (· ≤ ·)) (hg : ∀ z, 0 ≤ g z ∧ g z ≤ 9 := by intro z; constructor <;> omega) : WfRows (ms.zipIdx.map fun z => (z.1, g z)) := by
  have hmn : ms.Nodup := hp.nodup_iff.mpr hn
  have hlen := hp.length_eq
  have e1 : (ms.zipIdx.map fun z => (z.1, g z)).map (·.1) = ms := by
    rw [List.map_map]
    have : ((fun x : Int × Int => x.1) ∘ fun z : Int × Nat => (z.1, g z)) = Prod.fst := rfl
    rw [this, List.zipIdx_map_fst]
  refine ⟨fun z => ?_, by rw [List.length_map, List.length_zipIdx]; omega, fun r t e => ?_, ?_, fun r hr => ?_⟩
  · rw [z] at e1
    have : (0 : Int) ∈ ms := hp.mem_iff.mpr h0
    rw [← e1] at this
    cases this
  · rw [e] at e1
    have m0 : (0 : Int) ∈ ms := hp.mem_iff.mpr h0
    have hr : r.1 ∈ ms := by rw [← e1]; simp
    have h1 := (hb r.1 (hp.mem_iff.mp hr)).1
    rw [← e1, List.map_cons] at m0 hs
    rcases List.mem_cons.mp m0 with h | h
    · exact h.symm
    · have := (List.pairwise_cons.mp hs).1 0 h
      omega
  · have h2 : ms.Pairwise (· < ·) := by
      have h3 := List.Pairwise.and hs hmn
      exact h3.imp fun ⟨a, b⟩ => by omega
    rw [← e1, List.pairwise_map] at h2
    exact h2
  · obtain ⟨z, hz, rfl⟩ := List.mem_map.mp hr
    have hz1 : z.1 ∈ ms := by
      rw [← List.zipIdx_map_fst 0 ms]
      exact List.mem_map.mpr ⟨z, hz, rfl⟩
    have := hb z.1 (hp.mem_iff.mp hz1)
    have := hg z
    refine ⟨?_, ?_, ?_, ?_⟩ <;> simp only <;> omega
/-- rows, drawn -/
def F_rows : Phi := fun ds P _ => ∃ cell : Int, ds = [.int cell] ∧ ∀ rs, WfRows rs → P (rowsD rs)
theorem ok_rows {M : Md} {f : Addr} {fd : FuncData} (G : Fun M.K "_law_rows" "_law_rows" s_rows f fd) (bi1 : Bi M "range") (bi2 : Bi M "enumerate") (bi3 : Bi M "sorted") (f1 : DefOk M 1 "_law_mixed" 2 F_mixed) : FnOk M.P M.w M.K M.mg M.base (L2.CX M.P M.w) 2 f fd ["_law_cell"] (spD M.K 1 F_rows) := by
  refine fn_ok G sc_rows rfl ?_
  rintro ds P PX - ⟨cell, rfl, hP⟩ X W c
  change DSs X W (_ :: _) [_, _, _, _] _ _ _ _ _
  wtm_at "pv acc"
  wtm_at "pv args"
  wtm_at "pv de"
  wtm_at "pv args"
  wtm_at "pv ex"
  refine ⟨_, (by wtm_at "pv put"), ?_⟩
  wtm_at "pv stmt"
  refine ds_for c (fun i δ => ∃ ns : List Int, ∃ s1 s2, δ = [.val (.int cell), .acc (ns.map .int), s1, s2] ∧ ns.Nodup ∧ (∀ n ∈ ns, 0 ≤ n ∧ n ≤ 86399) ∧ (0 : Int) ∈ ns ∧ ns.length ≤ 1 + i) ?_
  wtm_at "pv di"
  refine DE.imp (P := fun d => ∃ n : Int, d = .int n ∧ 0 ≤ n ∧ n ≤ 23) ?_ ?_
  · wtm_at "pv"
    wtm_at "pv pick"
    wtm_at "pv"
    all_goals constructor <;> omega
  rintro _ ⟨n, rfl, n0, n1⟩
  refine ⟨n, rfl, by omega, by omega, ⟨[0], _, _, rfl, by simp, by simp, by simp, by simp⟩, ?_, ?_⟩
  · rintro i d δi hd ⟨ns, s1, s2, rfl, hn, hb, h0, hl⟩
    obtain ⟨hi, rfl⟩ := rangeD_get hd
    refine ⟨_, _, by wtm_at "pv dg", ?_⟩
    refine dss_set c (fun d => ∃ m : Int, d = .int m ∧ 1 ≤ m ∧ m ≤ 86399) (by wtm_at "pv at") (by wtm_at "pv loc") ?_ ?_
    · wtm_at "pv"
      constructor <;> omega
    rintro _ ⟨m, rfl, m0, m1⟩
    refine ⟨_, by wtm_at "pv put", ?_⟩
    refine dss_mid (fun δ => ∃ m : Int, δ = [.val (.int cell), .acc (ns.map .int), .val (.int (0 + (i : Int))), .val (.int m)] ∧ 1 ≤ m ∧ m ≤ 86399) ?_ ?_
    · refine ds_ifA ?_ ?_ ?_
      · wtm_at "pv"
      · refine dss_set c (fun d => ∃ m : Int, d = .int m ∧ 1 ≤ m ∧ m ≤ 86399) (by wtm_at "pv at") (by wtm_at "pv loc") ?_ ?_
        · wtm_at "pv"
          wtm_at "pv pick"
          wtm_at "pv"
          all_goals decide
        rintro _ ⟨m, rfl, m0, m1⟩
        refine ⟨_, by wtm_at "pv put", ?_⟩
        exact dss_nil ⟨m, rfl, m0, m1⟩
      · exact dss_nil ⟨m, rfl, m0, m1⟩
    rintro _ ⟨m, rfl, m0, m1⟩
    wtm_at "pv"
    · rename_i hw
      rw [inD_int] at hw
      have hm : m ∉ ns := fun z => by rw [List.contains_iff_mem.mpr z] at hw; cases hw
      refine ⟨ns ++ [m], _, _, by rw [List.map_append]; rfl, ?_, ?_, List.mem_append_left _ h0, by rw [List.length_append]; simp; omega⟩
      · rw [List.nodup_append]
        refine ⟨hn, by simp, fun a ha b hb z => ?_⟩
        have hb' : b = m := by simpa using hb
        subst hb' z
        exact hm ha
      · intro n hn2
        rcases List.mem_append.mp hn2 with h | h
        · exact hb n h
        · have : n = m := by simpa using h
          omega
    · exact ⟨ns, _, _, rfl, hn, hb, h0, by omega⟩
  · rintro δn ⟨ns, s1, s2, rfl, hn, hb, h0, hl⟩
    have hl : ns.length ≤ 24 := by
      have : (rangeD 0 n.toNat).length = n.toNat := by simp [rangeD]
      omega
    wtm_at "pv freeze"
    wtm_at "pv stmt"
    wtm_at "pv stmt"
    refine de_lcN (Int × Nat) c (by wtm_at "pv own") (by decide +kernel) ?_
    wtm_at "pv di"
    wtm_at "pv"
    refine ⟨by omega, fun ms hp hs => ⟨_, rfl, ?_⟩⟩
    have hz : ms.zipIdx.length ≤ 100000 := by rw [List.length_zipIdx, hp.length_eq]; omega
    refine lcb_map ms.zipIdx (fun z => .tup [.int (z.2 : Int), .int z.1]) (fun z => .tup [.int z.1, .int (mixed cell (80 + (z.2 : Int)) % 10)]) (enumD_map .int ms 0) hz (fun z hz => ?_) ?_
    · have hz2 : z.2 < 24 := by
        have := (List.mem_zipIdx hz).2.1
        have := hp.length_eq
        omega
      refine ⟨_, _, (by wtm_at "pv dg"), (by decide), fun X' c' => ?_⟩
      wtm_at "pv"
    · have e : (ms.zipIdx.map fun z => (.tup [.int z.1, .int (mixed cell (80 + (z.2 : Int)) % 10)] : D)) = (ms.zipIdx.map fun z => (z.1, mixed cell (80 + (z.2 : Int)) % 10)).map rowD := by rw [List.map_map]; rfl
      rw [e]
      refine hP _ (wf_of hn hb h0 hl hp hs)
end K82
namespace K82
open PySem PySem.Spec PyProof.Rows L2 PV
local macro_rules | `(tactic| wtm_at "pv ex") => `(tactic| ((with_reducible show F_mixed _ _ _); refine ⟨_, _, rfl, by omega, by omega, ?_⟩))
local macro_rules | `(tactic| wtm_at "pv ex") => `(tactic| ((with_reducible show F_between _ _ _); refine ⟨_, _, _, rfl, rfl, ?_⟩))
/-- low weekdays, drawn: None, or a list -/
inductive LowD : D → List Int → Prop
  | non : LowD .non []
  | lst (ls : List Int) : LowD (.lst (ls.map .int)) ls
def F_low : Phi := fun ds P _ => ∃ cell : Int, ds = [.int cell] ∧ ∀ d ls, LowD d ls → WfLow ls → P d
theorem wf_low7 (q : Nat → Bool) : WfLow (((List.range 7).filter q).map fun (i : Nat) => 0 + (i : Int)) := by
  refine ⟨?_, fun d hd => ?_, ?_⟩
  · rw [List.nodup_iff_pairwise_ne, List.pairwise_map]
    have h : ((List.range 7).filter q).Pairwise (· ≠ ·) := List.Pairwise.filter _ (List.nodup_iff_pairwise_ne.mp List.nodup_range)
    exact h.imp fun {a b} (z : a ≠ b) => by omega
  · obtain ⟨i, hi, rfl⟩ := List.mem_map.mp hd
    have := List.mem_range.mp (List.mem_filter.mp hi).1
    omega
  · rw [List.length_map]
    exact Nat.le_trans (List.length_filter_le _ _) (Nat.le_of_eq List.length_range)
theorem ok_low {M : Md} {f : Addr} {fd : FuncData} (G : Fun M.K "_law_low" "_law_low" s_low f fd) (bi1 : Bi M "range") (f1 : DefOk M 1 "_law_mixed" 2 F_mixed) : FnOk M.P M.w M.K M.mg M.base (L2.CX M.P M.w) 2 f fd ["_law_cell"] (spD M.K 1 F_low) := by
  refine fn_ok G sc_low rfl ?_
  rintro ds P PX - ⟨cell, rfl, hP⟩ X W c
  change DSs X W (_ :: _) [_, _, _] _ _ _ _ _
  wtm_at "pv stmt"
  refine ds_setLcN Nat c (by wtm_at "pv at") rfl (by wtm_at "pv own") (by decide +kernel) ?_
  wtm_at "pv"
  refine ⟨by decide, by decide, ?_⟩
  refine ⟨List.range 7, fun i => .int (0 + (i : Int)), fun i => mixed cell (120 + (0 + (i : Int))) % 3 == 0, fun i => .int (0 + (i : Int)), rfl, by simp, fun z hz => ?_, ?_⟩
  · have hz := List.mem_range.mp hz
    refine ⟨_, _, (by wtm_at "pv dg"), (by decide), fun X' c' => ?_, fun hq X' c' => ?_⟩
    · wtm_at "pv"
    · wtm_at "pv"
  · have e : (((List.range 7).filter fun (i : Nat) => mixed cell (120 + (0 + (i : Int))) % 3 == 0).map fun (i : Nat) => (.int (0 + (i : Int)) : D)) = (((List.range 7).filter fun (i : Nat) => mixed cell (120 + (0 + (i : Int))) % 3 == 0).map fun (i : Nat) => 0 + (i : Int)).map .int := by rw [List.map_map]; rfl
    rw [e]
    have wf := wf_low7 fun (i : Nat) => mixed cell (120 + (0 + (i : Int))) % 3 == 0
    generalize (((List.range 7).filter fun (i : Nat) => mixed cell (120 + (0 + (i : Int))) % 3 == 0).map fun (i : Nat) => 0 + (i : Int)) = ls at wf ⊢
    refine ⟨_, by wtm_at "pv put", ?_⟩
    wtm_at "pv"
    wtm_at "pv pick"
    wtm_at "pv"
    · exact hP _ _ .non ⟨by simp, by simp, by simp⟩
    · exact hP _ _ (.lst []) ⟨by simp, by simp, by simp⟩
    · exact hP _ _ (.lst ls) wf
    · refine hP _ _ (by rw [← List.map_reverse]; exact .lst ls.reverse) ⟨(List.reverse_perm ls).nodup_iff.mpr wf.nd, fun d hd => wf.bnd d (List.mem_reverse.mp hd), by rw [List.length_reverse]; exact wf.le⟩
theorem zip_lt {rs : List (Int × Int)} (h : rs.Pairwise fun a b => a.1 < b.1) : ∀ z ∈ rs.zip (rs.drop 1), z.1.1 < z.2.1 := by
  induction rs with
  | nil => intro z hz; cases hz
  | cons a r ih =>
    intro z hz
    cases r with
    | nil => cases hz
    | cons b s =>
      have hz : z ∈ (a :: b :: s).zip (b :: s) := hz
      rw [List.zip_cons_cons] at hz
      obtain ⟨h1, h2⟩ := List.pairwise_cons.mp h
      rcases List.mem_cons.mp hz with rfl | hz
      · exact h1 b (by simp)
      · exact ih h2 z hz
/-- rows that may be -/
def F_areRows : Phi := fun ds P _ => ∃ rs, ds = [rowsD rs] ∧ WfRows rs ∧ P (.bl true)
theorem ok_areRows {M : Md} {f : Addr} {fd : FuncData} (G : Fun M.K "are_rows" "are_rows" s_are_rows f fd) (bi1 : Bi M "isinstance") (bi2 : Bi M "list") (bi3 : Bi M "len") (bi4 : Bi M "all") (bi5 : Bi M "zip") (g1 : GlD M "MOST_ROWS_bands" (.int 24)) (f1 : DefOk M 2 "is_row" 1 F_row) : FnOk M.P M.w M.K M.mg M.base (L2.CX M.P M.w) 3 f fd ["rows"] (spD M.K 1 F_areRows) := by
  refine fn_ok G sc_are_rows rfl ?_
  rintro ds P PX - ⟨rs, rfl, wf, hP⟩ X W c
  change DSs X W (_ :: _) [_, _, _, _] _ _ _ _ _
  have hne : 1 ≤ rs.length := by
    cases h : rs with
    | nil => exact absurd h wf.ne
    | cons a r => simp
  have hle := wf.le
  have hlen : (rs.map rowD).length = rs.length := List.length_map ..
  refine dss_cons ?_
  refine ds_ifF ?_ ?_
  · wtm_at "pv"
    · omega
    · refine de_lcN (Int × Int) c (by wtm_at "pv own") (by decide +kernel) ?_
      refine di_list ?_
      wtm_at "pv"
      refine lcb_map rs rowD (fun _ => .bl true) rfl (by omega) (fun z hz => ?_) ?_
      · refine ⟨_, _, (by wtm_at "pv dg"), (by decide), fun X' c' => ?_⟩
        wtm_at "pv"
        obtain ⟨b0, b1, b2, b3⟩ := wf.bnd z hz
        exact ⟨_, _, rfl, b0, b1, b2, b3, rfl⟩
      · refine ⟨rs.map fun _ => true, by rw [List.map_map]; rfl, ?_⟩
        have : (rs.map fun _ => true).all id = true := by simp
        rw [this]
        wtm_at "pv"
    · omega
  wtm_at "pv stmt"
  wtm_at "pv stmt"
  obtain ⟨r0, rt, hrs⟩ : ∃ r t, rs = r :: t := by
    cases h : rs with
    | nil => exact absurd h wf.ne
    | cons a r => exact ⟨a, r, rfl⟩
  have h0 := wf.first _ _ hrs
  wtm_at "pv"
  · refine o_ix_map (0, 0) (by decide) (by omega) ?_
    have e0 : (rs.getD (Int.toNat 0) (0, 0)).1 = 0 := by rw [hrs]; exact h0
    wtm_at "pv"
    · refine de_lcN ((Int × Int) × (Int × Int)) c (by wtm_at "pv own") (by decide +kernel) ?_
      wtm_at "pv"
      rw [show (some (1 : Int)) = some ((1 : Nat) : Int) from rfl, cut_from, zipD_map]
      refine lcb_map (rs.zip (rs.drop 1)) (fun z => .tup [rowD z.1, rowD z.2]) (fun _ => .bl true) rfl ?_ (fun z hz => ?_) ?_
      · have := @List.length_zip _ _ rs (rs.drop 1)
        omega
      · refine ⟨_, _, (by wtm_at "pv dg"), (by decide), fun X' c' => ?_⟩
        wtm_at "pv"
        exact congrArg D.bl (decide_eq_true (zip_lt wf.rise z hz))
      · refine ⟨(rs.zip (rs.drop 1)).map fun _ => true, by rw [List.map_map]; rfl, ?_⟩
        have : ((rs.zip (rs.drop 1)).map fun _ => true).all id = true := by simp
        rw [this]
        exact hP
    · rename_i hw
      rw [eqb_int2, e0] at hw
      cases hw
end K82
namespace K82
open PySem PySem.Spec PyProof.Rows L2 PV
local macro_rules | `(tactic| wtm_at "pv ex") => `(tactic| ((with_reducible show F_between _ _ _); refine ⟨_, _, _, rfl, rfl, ?_⟩))
/-- weekdays that may be -/
def F_areDays : Phi := fun ds P _ => ∃ ls : List Int, ds = [.lst (ls.map .int)] ∧ WfLow ls ∧ P (.bl true)
theorem ok_areDays {M : Md} {f : Addr} {fd : FuncData} (G : Fun M.K "are_days" "are_days" s_are_days f fd) (bi1 : Bi M "isinstance") (bi2 : Bi M "list") (bi3 : Bi M "len") (bi4 : Bi M "all") (bi5 : Bi M "set") (g1 : GlD M "WEEK" (.int 7)) (f1 : DefOk M 1 "is_between" 3 F_between) : FnOk M.P M.w M.K M.mg M.base (L2.CX M.P M.w) 2 f fd ["days"] (spD M.K 1 F_areDays) := by
  refine fn_ok G sc_are_days rfl ?_
  rintro ds P PX - ⟨ls, rfl, wf, hP⟩ X W c
  change DSs X W (_ :: _) [_, _] _ _ _ _ _
  have hle := wf.le
  refine dss_cons ?_
  refine ds_ifF ?_ ?_
  · wtm_at "pv"
    · refine de_lcN Int c (by wtm_at "pv own") (by decide +kernel) ?_
      refine di_list ?_
      wtm_at "pv"
      refine lcb_map ls .int (fun _ => .bl true) rfl (by omega) (fun z hz => ?_) ?_
      · refine ⟨_, _, (by wtm_at "pv dg"), (by decide), fun X' c' => ?_⟩
        wtm_at "pv"
        obtain ⟨b0, b1⟩ := wf.bnd z hz
        exact congrArg D.bl (by simp [btw]; omega)
      · refine ⟨ls.map fun _ => true, by rw [List.map_map]; rfl, ?_⟩
        have : (ls.map fun _ => true).all id = true := by simp
        rw [this]
        wtm_at "pv"
  wtm_at "pv"
  refine ⟨wf.nd, by omega, ?_⟩
  wtm_at "pv"
  rw [List.length_map, eqb_int2]
  simpa using hP
local macro_rules | `(tactic| wtm_at "pv hs") => `(tactic| (with_reducible (first | exact Hs.z | (apply Hs.s; wtm_at "pv hs") | fail)))
local macro_rules | `(tactic| wtm_at "pv hput") => `(tactic| (with_reducible (first | exact Hput.z | (apply Hput.s; wtm_at "pv hput") | fail)))
local macro_rules | `(tactic| wtm_at "pv cin") => `(tactic| (with_reducible (first | exact Cin.z | (apply Cin.s; wtm_at "pv cin") | fail)))
theorem flat_ints {α : Type} (g : α → Int) (xs : List α) : (xs.map fun x => D.int (g x)).all D.flat = true := by
  rw [List.all_map, List.all_eq_true]
  intro x _
  rfl
/-! ### the bands as an object -/
def endsF (rs : List (Int × Int)) : List Int := (rs.map (·.1)).drop 1 ++ [86400]
abbrev bandsD (C : Addr) (rs : List (Int × Int)) (ls : List Int) : D := .obj C [("begins", .lst (rs.map fun r => .int r.1)), ("ends", .lst ((endsF rs).map .int)), ("kinds", .lst (rs.map fun r => .int r.2)), ("low", .lst (ls.map .int))]
abbrev bandsF (rs : List (Int × Int)) (ls : List Int) : List (Str × D) := [("begins", .lst (rs.map fun r => .int r.1)), ("ends", .lst ((endsF rs).map .int)), ("kinds", .lst (rs.map fun r => .int r.2)), ("low", .lst (ls.map .int))]
structure BT (M : Md) (C : Addr) : Prop where
  cl : Cls M.K C
  nb : NoAttr M.K C "begins"
  ne : NoAttr M.K C "ends"
  nk : NoAttr M.K C "kinds"
  nl : NoAttr M.K C "low"
def F_init : PhiI := fun ds P _ => ∃ rs d ls, ds = [rowsD rs, d] ∧ LowD d ls ∧ WfRows rs ∧ WfLow ls ∧ P (bandsF rs ls)
theorem ok_init {M : Md} {f C : Addr} {fd : FuncData} (G : FunD M.K "__init__" "Bands.__init__" (defArgs s_Bands_init) (defBody s_Bands_init) (defScope s_Bands_init) [V.non] [] f fd) (T : BT M C) (bi1 : Bi M "list") (g1 : GlD M "DAY" (.int 86400)) (f1 : DefOk M 3 "are_rows" 1 F_areRows) (f2 : DefOk M 2 "are_days" 1 F_areDays) : FnOk M.P M.w M.K M.mg M.base (L2.CX M.P M.w) 4 f fd ["self", "rows", "low"] (spIN M.K C 3 F_init) := by
  refine init_okN G sc_Bands_init rfl ?_
  rintro l ds P PX - ⟨rs, d, ls, rfl, hd, wf, wl, hP⟩ X W c
  change DSs X W (_ :: _) [_, _, _, _, _, _] _ _ _ _ _
  obtain ⟨cl, nb, ne, nk, nl⟩ := T
  have hle := wf.le
  refine dss_mid (fun δ => δ = [.ins l C [], .val (rowsD rs), .val (.lst (ls.map .int)), .no, .no, .heap []]) ?_ ?_
  · cases hd with
    | non =>
      refine ds_ifT ?_ ?_
      · wtm_at "pv"
      · refine dss_cons ?_
        refine ds_asg c ?_
        wtm_at "pv"
    | lst =>
      refine ds_ifF ?_ ?_
      · wtm_at "pv"
      · wtm_at "pv"
  rintro _ rfl
  refine dss_cons ?_
  refine ds_ifF ?_ ?_
  · wtm_at "pv"
    refine ⟨rs, rfl, wf, ?_⟩
    wtm_at "pv"
    refine ⟨ls, rfl, wl, ?_⟩
    wtm_at "pv"
  refine dss_nil ?_
  refine dss_cons ?_
  refine ds_fldC c (by wtm_at "pv hs") (by wtm_at "pv at") (by wtm_at "pv vis") cl nb (by wtm_at "pv lk") (by simp only [List.length_append, List.length_cons, List.length_nil] <;> decide) ?_
  refine df_lcN (Int × Int) c (by wtm_at "pv own") (by decide +kernel) ?_
  refine di_list ?_
  wtm_at "pv"
  refine lcb_map rs rowD (fun r => .int r.1) rfl (by omega) (fun z hz => ?_) ?_
  · refine ⟨_, _, (by wtm_at "pv dg"), (by decide), fun X' c' => ?_⟩
    wtm_at "pv"
  intro q1
  refine ⟨_, _, by wtm_at "pv hput", by wtm_at "pv put", ?_⟩
  refine dss_cons ?_
  refine ds_fldC c (by wtm_at "pv hs") (by wtm_at "pv at") (by wtm_at "pv vis") cl ne (by wtm_at "pv lk") (by simp only [List.length_append, List.length_cons, List.length_nil] <;> decide) ?_
  refine df_add ?_
  refine de_cutC (q := q1) (by wtm_at "pv hs") (by wtm_at "pv cin") (de_selfld c (by wtm_at "pv at") (by wtm_at "pv vis") cl nb (by wtm_at "pv lk") rfl) ?_
  wtm_at "pv"
  refine ⟨by simp only [PV.cutD, List.length_take, List.length_drop, List.length_map, List.length_cons, List.length_nil]; omega, ?_⟩
  intro q2
  refine ⟨_, _, by wtm_at "pv hput", by wtm_at "pv put", ?_⟩
  have e : PV.cutD (List.map (fun r : Int × Int => D.int r.fst) rs) (some 1) none ++ [D.int 86400] = (endsF rs).map .int := by
    rw [show (some (1 : Int)) = some ((1 : Nat) : Int) from rfl, cut_from (fun r : Int × Int => D.int r.fst)]
    simp [endsF, List.map_drop]
    rfl
  rw [e]
  refine dss_cons ?_
  refine ds_fldC c (by wtm_at "pv hs") (by wtm_at "pv at") (by wtm_at "pv vis") cl nk (by wtm_at "pv lk") (by simp only [List.length_append, List.length_cons, List.length_nil] <;> decide) ?_
  refine df_lcN (Int × Int) c (by wtm_at "pv own") (by decide +kernel) ?_
  refine di_list ?_
  wtm_at "pv"
  refine lcb_map rs rowD (fun r => .int r.2) rfl (by omega) (fun z hz => ?_) ?_
  · refine ⟨_, _, (by wtm_at "pv dg"), (by decide), fun X' c' => ?_⟩
    wtm_at "pv"
  intro q3
  refine ⟨_, _, by wtm_at "pv hput", by wtm_at "pv put", ?_⟩
  refine dss_cons ?_
  refine ds_fldC c (by wtm_at "pv hs") (by wtm_at "pv at") (by wtm_at "pv vis") cl nl (by wtm_at "pv lk") (by simp only [List.length_append, List.length_cons, List.length_nil] <;> decide) ?_
  refine df_list1 c rfl bi1 ?_
  wtm_at "pv"
  refine ⟨_, .inl rfl, ?_⟩
  intro q4
  refine ⟨_, _, by wtm_at "pv hput", by wtm_at "pv put", ?_⟩
  refine dss_nil ⟨_, bandsF rs ls, _, _, rfl, by wtm_at "pv hs", ?_, hP⟩
  exact .cons (.lst (by wtm_at "pv cin") (flat_ints _ _)) (.cons (.lst (by wtm_at "pv cin") (flat_ints (fun i => i) _)) (.cons (.lst (by wtm_at "pv cin") (flat_ints _ _)) (.cons (.lst (by wtm_at "pv cin") (flat_ints (fun i => i) _)) .nil)))
end K82
namespace K82
open PySem PySem.Spec PyProof.Rows L2 PV
/-! ### sums by bands -/
def tab (f : Nat → Int) : List Int := (List.range 10).map f
abbrev tabD (f : Nat → Int) : List D := (tab f).map .int
theorem tab_len (f : Nat → Int) : (tab f).length = 10 := by simp [tab]
theorem tabD_eq (f : Nat → Int) : tabD f = (List.range 10).map fun c => D.int (f c) := by
  show ((List.range 10).map f).map D.int = _
  rw [List.map_map]; rfl
theorem tab_zero : (List.replicate (Int.toNat 10) [D.int 0]).flatten = tabD fun _ => 0 := by rfl
theorem tab_get {f : Nat → Int} {j : Nat} (h : j < 10) : (tabD f)[j]? = some (.int (f j)) := by
  rw [tabD_eq, List.getElem?_map, List.getElem?_range h]; rfl
theorem tab_set {f : Nat → Int} {j : Nat} {v : Int} (h : j < 10) : (tabD f).set j (.int v) = tabD fun c => if c = j then v else f c := by
  apply List.ext_getElem?
  intro i
  by_cases hi : i < 10
  · by_cases hj : j = i
    · subst hj
      rw [List.getElem?_set_self (by rw [List.length_map, tab_len]; exact h), tab_get h, if_pos rfl]
    · rw [List.getElem?_set_ne hj, tab_get hi, tab_get hi, if_neg (Ne.symm hj)]
  · rw [List.getElem?_eq_none (by rw [List.length_set, List.length_map, tab_len]; omega), List.getElem?_eq_none (by rw [List.length_map, tab_len]; omega)]
theorem tab_cong {f g : Nat → Int} (h : ∀ c, c < 10 → f c = g c) : tab f = tab g := by
  apply List.map_congr_left
  intro c hc
  exact h c (List.mem_range.mp hc)
theorem tabD_cong {f g : Nat → Int} (h : ∀ c, c < 10 → f c = g c) : tabD f = tabD g := congrArg (List.map D.int) (tab_cong h)
/-- seconds of one piece ahead of a second -/
def ov (sec b e : Int) : Int := if (if e < sec then e else sec) - b > 0 then (if e < sec then e else sec) - b else 0
abbrev segs (rs : List (Int × Int)) : List ((Int × Int) × Int) := rs.zip (endsF rs)
def dayS (rs : List (Int × Int)) (sec : Int) (c : Nat) : Int := ((segs rs).map fun z => if z.1.2 = (c : Int) then ov sec z.1.1 z.2 else 0).sum
def dayF (rs : List (Int × Int)) (ls : List Int) (wd sec : Int) (c : Nat) : Int := if ls.contains wd = true then (if c = 0 then sec else 0) else dayS rs sec c
theorem ends_len {rs : List (Int × Int)} (h : rs ≠ []) : (endsF rs).length = rs.length := by
  have : 1 ≤ rs.length := by
    cases e : rs with
    | nil => exact absurd e h
    | cons a r => simp
  unfold endsF
  rw [List.length_append, List.length_drop, List.length_map, List.length_singleton]
  omega
theorem segs_len {rs : List (Int × Int)} (h : rs ≠ []) : (segs rs).length = rs.length := by
  rw [List.length_zip, ends_len h]; exact Nat.min_self _
theorem segs_get {rs : List (Int × Int)} (h : rs ≠ []) {i : Nat} (hi : i < rs.length) : (segs rs)[i]? = some (rs.getD i (0, 0), (endsF rs).getD i 0) := by
  have h2 : i < (endsF rs).length := by rw [ends_len h]; exact hi
  have e : (segs rs)[i]? = some (rs[i]'hi, (endsF rs)[i]'h2) := List.getElem?_zip_eq_some.mpr ⟨List.getElem?_eq_getElem hi, List.getElem?_eq_getElem h2⟩
  rw [e]
  simp [List.getD_eq_getElem?_getD, hi, h2]
theorem take_sum {α : Type} {xs : List α} {g : α → Int} {i : Nat} {x : α} (h : xs[i]? = some x) : ((xs.take (i + 1)).map g).sum = ((xs.take i).map g).sum + g x := by
  rw [List.take_add_one, h]
  simp
def F_ofDay (C : Addr) : Phi := fun ds P _ => ∃ rs ls wd sec, ds = [bandsD C rs ls, .int wd, .int sec] ∧ WfRows rs ∧ WfLow ls ∧ P (.lst (tabD (dayF rs ls wd sec)))
theorem ok_ofDay {M : Md} {f C : Addr} {fd : FuncData} (G : Fun M.K "of_day" "Bands.of_day" s_Bands_of_day f fd) (T : BT M C) (bi1 : Bi M "enumerate") (bi2 : Bi M "max") (bi3 : Bi M "min") (g1 : GlD M "BANDS" (.int 10)) : FnOk M.P M.w M.K M.mg M.base (L2.CX M.P M.w) 1 f fd ["self", "weekday", "second"] (spD M.K 3 (F_ofDay C)) := by
  refine fn_ok G sc_Bands_of_day rfl ?_
  rintro ds P PX - ⟨rs, ls, wd, sec, rfl, wf, wl, hP⟩ X W c
  change DSs X W (_ :: _) [_, _, _, _, _, _] _ _ _ _ _
  obtain ⟨cl, nb, ne, nk, nl⟩ := T
  have hle := wf.le
  have hn := wf.ne
  refine dss_mid (fun δ => δ = [.val (bandsD C rs ls), .val (.int wd), .val (.int sec), .acc (tabD fun _ => 0), .no, .no]) ?_ ?_
  · wtm_at "pv"
  rintro _ rfl
  refine dss_mid (fun δ => ls.contains wd = false ∧ δ = [.val (bandsD C rs ls), .val (.int wd), .val (.int sec), .acc (tabD fun _ => 0), .no, .no]) ?_ ?_
  · wtm_at "pv"
    · rename_i hw
      rw [inD_int] at hw
      refine ⟨by omega, by rw [List.length_map, tab_len]; decide, _, (by wtm_at "pv put"), ?_⟩
      rw [show Int.toNat 0 = 0 from rfl, tab_set (by decide)]
      wtm_at "pv"
      have e : (tabD fun c => if c = 0 then sec else 0) = tabD (dayF rs ls wd sec) := tabD_cong fun c _ => by unfold dayF; rw [if_pos hw]
      rw [e]
      exact hP
    · rename_i hw
      rw [inD_int] at hw
      exact ⟨hw, rfl⟩
  rintro _ ⟨hw, rfl⟩
  refine dss_cons ?_
  refine ds_for c (fun i δ => ∃ s1 s2, δ = [.val (bandsD C rs ls), .val (.int wd), .val (.int sec), .acc (tabD fun c => (((segs rs).take i).map fun z => if z.1.2 = (c : Int) then ov sec z.1.1 z.2 else 0).sum), s1, s2]) ?_
  wtm_at "pv"
  have hel : (enumD 0 (rs.map fun r => D.int r.2)).length = rs.length := by rw [enumD_len, List.length_map]
  rw [hel]
  refine ⟨⟨_, _, rfl⟩, ?_, ?_⟩
  · rintro i d δi hd ⟨s1, s2, rfl⟩
    have hi : i < rs.length := by rw [← hel]; exact (List.getElem?_eq_some_iff.mp hd).1
    have hd2 : d = .tup [.int (i : Int), .int (rs.getD i (0, 0)).2] := by
      rw [enumD_get, List.getElem?_map, List.getElem?_eq_getElem hi] at hd
      simp only [Option.map_some, Option.some.injEq] at hd
      rw [← hd]
      simp [List.getD_eq_getElem?_getD, hi]
    subst hd2
    have hmem : rs.getD i (0, 0) ∈ rs := by
      rw [List.getD_eq_getElem?_getD, List.getElem?_eq_getElem hi]
      exact List.getElem_mem hi
    obtain ⟨b0, b1, b2, b3⟩ := wf.bnd _ hmem
    refine ⟨_, _, by wtm_at "pv dg", ?_⟩
    wtm_at "pv"
    obtain ⟨j, hj⟩ : ∃ j : Nat, (rs.getD i (0, 0)).2 = j := ⟨(rs.getD i (0, 0)).2.toNat, by omega⟩
    have hj10 : j < 10 := by omega
    have hsg := segs_get hn hi
    rw [hj]
    refine ⟨_, _, rfl, by omega, by rw [Int.toNat_natCast]; exact tab_get hj10, ?_⟩
    wtm_at "pv"
    refine o_ix_map 0 (by omega) (by rw [ends_len hn]; omega) ?_
    wtm_at "pv"
    refine o_ix_map (0, 0) (by omega) (by omega) ?_
    wtm_at "pv"
    rw [Int.toNat_natCast, Int.toNat_natCast, tab_set hj10]
    refine ⟨_, _, congrArg (fun z => [Slot.val (bandsD C rs ls), .val (.int wd), .val (.int sec), Slot.acc z, .val (.int (i : Int)), .val (.int (j : Int))]) (tabD_cong fun c _ => ?_)⟩
    rw [take_sum hsg, hj]
    by_cases hc : c = j
    · subst hc
      rw [if_pos rfl, if_pos rfl]
      rfl
    · rw [if_neg hc, if_neg (by omega), Int.add_zero]
  · rintro δn ⟨s1, s2, rfl⟩
    wtm_at "pv"
    have e : (tabD fun c => (((segs rs).take rs.length).map fun z => if z.1.2 = (c : Int) then ov sec z.1.1 z.2 else 0).sum) = tabD (dayF rs ls wd sec) := tabD_cong fun c _ => by
      rw [← segs_len hn, List.take_length]
      unfold dayF
      rw [if_neg (by rw [hw]; decide)]
      rfl
    rw [e]
    exact hP
end K82
namespace K82
open PySem PySem.Spec PyProof.Rows L2 PV
local macro_rules | `(tactic| wtm_at "pv ex") => `(tactic| ((with_reducible show F_ofDay _ _ _ _); refine ⟨_, _, _, _, rfl, (by with_reducible assumption), (by with_reducible assumption), ?_⟩))
local macro_rules | `(tactic| wtm_at "pv ex") => `(tactic| ((with_reducible show CDiv _ _ ∧ _); refine ⟨⟨by decide, by decide⟩, ?_⟩))
/-- how many days of a kind there are ahead -/
def wks (t : Int) (i : Nat) : Int := t / 86400 / 7 + (if (i : Int) < t / 86400 % 7 then 1 else 0)
def aheadP (rs : List (Int × Int)) (ls : List Int) (t : Int) (c : Nat) : Int := dayF rs ls (t / 86400 % 7) (t % 86400) c + ((List.range 7).map fun i => wks t i * dayF rs ls i 86400 c).sum
theorem rsum_succ (g : Nat → Int) (i : Nat) : ((List.range (i + 1)).map g).sum = ((List.range i).map g).sum + g i := by
  rw [List.range_succ, List.map_append, List.sum_append]
  simp
theorem zip_tab (f g : Nat → Int) : zipD (tabD f) (tabD g) = (List.range 10).map fun c => .tup [D.int (f c), D.int (g c)] := by
  rw [tabD_eq, tabD_eq, zipD_map, List.zip_eq_zipWith, List.zipWith_self, List.map_map]
  rfl
theorem b2i (p : Prop) [Decidable p] : (if decide p = true then (1 : Int) else 0) = if p then 1 else 0 := by simp
def F_ahead2 (C : Addr) : Phi := fun ds P _ => ∃ rs ls t, ds = [bandsD C rs ls, .int t] ∧ WfRows rs ∧ WfLow ls ∧ 0 ≤ t ∧ t ≤ 1000000000000000 ∧ P (.lst (tabD (aheadP rs ls t)))
theorem ok_ahead2 {M : Md} {f C : Addr} {fd : FuncData} (G : Fun M.K "ahead_of" "Bands.ahead_of" s_Bands_ahead_of f fd) (T : BT M C) (bi1 : Bi M "divmod") (bi2 : Bi M "int") (bi3 : Bi M "range") (bi4 : Bi M "zip") (g1 : GlD M "DAY" (.int 86400)) (g2 : GlD M "WEEK" (.int 7)) (f1 : MethOk M C 1 "of_day" 3 (F_ofDay C)) : FnOk M.P M.w M.K M.mg M.base (L2.CX M.P M.w) 2 f fd ["self", "time"] (spD M.K 2 (F_ahead2 C)) := by
  refine fn_ok G sc_Bands_ahead_of rfl ?_
  rintro ds P PX - ⟨rs, ls, t, rfl, wf, wl, t0, t1, hP⟩ X W c
  change DSs X W (_ :: _) [_, _, _, _, _, _, _, _, _, _, _] _ _ _ _ _
  obtain ⟨cl, nb, ne, nk, nl⟩ := T
  refine dss_mid (fun δ => δ = [.val (bandsD C rs ls), .val (.int t), .val (.int (t / 86400)), .val (.int (t % 86400)), .no, .no, .no, .no, .no, .no, .no]) ?_ ?_
  · wtm_at "pv"
  rintro _ rfl
  refine dss_mid (fun δ => δ = [.val (bandsD C rs ls), .val (.int t), .val (.int (t / 86400)), .val (.int (t % 86400)), .val (.int (t / 86400 / 7)), .val (.int (t / 86400 % 7)), .no, .no, .no, .no, .no]) ?_ ?_
  · wtm_at "pv"
  rintro _ rfl
  refine dss_mid (fun δ => δ = [.val (bandsD C rs ls), .val (.int t), .val (.int (t / 86400)), .val (.int (t % 86400)), .val (.int (t / 86400 / 7)), .val (.int (t / 86400 % 7)), .val (.lst (tabD (dayF rs ls (t / 86400 % 7) (t % 86400)))), .no, .no, .no, .no]) ?_ ?_
  · wtm_at "pv"
  rintro _ rfl
  refine dss_cons ?_
  refine ds_for c (fun i δ => ∃ s1 s2 s3 s4, δ = [.val (bandsD C rs ls), .val (.int t), .val (.int (t / 86400)), .val (.int (t % 86400)), .val (.int (t / 86400 / 7)), .val (.int (t / 86400 % 7)), .val (.lst (tabD fun c => dayF rs ls (t / 86400 % 7) (t % 86400) c + ((List.range i).map fun i => wks t i * dayF rs ls i 86400 c).sum)), s1, s2, s3, s4]) ?_
  wtm_at "pv"
  refine ⟨by decide, by decide, ⟨.no, .no, .no, .no, ?_⟩, ?_, ?_⟩
  · exact congrArg (fun z => [Slot.val (bandsD C rs ls), .val (.int t), .val (.int (t / 86400)), .val (.int (t % 86400)), .val (.int (t / 86400 / 7)), .val (.int (t / 86400 % 7)), .val (.lst z), Slot.no, Slot.no, Slot.no, Slot.no]) (tabD_cong fun c _ => (Int.add_zero _).symm)
  · rintro i d δi hd ⟨s1, s2, s3, s4, rfl⟩
    obtain ⟨hi, rfl⟩ := rangeD_get hd
    refine ⟨_, _, by wtm_at "pv dg", ?_⟩
    refine dss_mid (fun δ => δ = [.val (bandsD C rs ls), .val (.int t), .val (.int (t / 86400)), .val (.int (t % 86400)), .val (.int (t / 86400 / 7)), .val (.int (t / 86400 % 7)), .val (.lst (tabD fun c => dayF rs ls (t / 86400 % 7) (t % 86400) c + ((List.range i).map fun i => wks t i * dayF rs ls i 86400 c).sum)), .val (.int (0 + (i : Int))), .val (.int (wks t i)), s3, s4]) ?_ ?_
    · wtm_at "pv"
      refine .inr ⟨_, rfl, ?_⟩
      wtm_at "pv"
      rw [b2i, Int.zero_add]
      rfl
    rintro _ rfl
    rw [Int.zero_add]
    have hw : -18446744073709551615 < wks t i ∧ wks t i < 18446744073709551615 := by
      unfold wks
      split <;> constructor <;> omega
    obtain ⟨w0, w1⟩ := hw
    wtm_at "pv stmt"
    refine ds_setLcN Nat c (by wtm_at "pv at") rfl (by wtm_at "pv own") (by decide +kernel) ?_
    wtm_at "pv"
    rw [zip_tab]
    refine lcb_map (List.range 10) (fun c => .tup [D.int (dayF rs ls (t / 86400 % 7) (t % 86400) c + ((List.range i).map fun i => wks t i * dayF rs ls i 86400 c).sum), D.int (dayF rs ls i 86400 c)]) (fun c => D.int (dayF rs ls (t / 86400 % 7) (t % 86400) c + ((List.range i).map fun i => wks t i * dayF rs ls i 86400 c).sum + wks t i * dayF rs ls i 86400 c)) rfl (by decide) (fun z hz => ?_) ?_
    · refine ⟨_, _, (by wtm_at "pv dg"), (by decide), fun X' c' => ?_⟩
      wtm_at "pv"
    · refine ⟨_, by wtm_at "pv put", ?_⟩
      refine dss_nil ⟨_, _, _, _, congrArg (fun z => [Slot.val (bandsD C rs ls), .val (.int t), .val (.int (t / 86400)), .val (.int (t % 86400)), .val (.int (t / 86400 / 7)), .val (.int (t / 86400 % 7)), .val (.lst z), .val (.int (i : Int)), .val (.int (wks t i)), s3, s4]) ?_⟩
      rw [tabD_eq]
      apply List.map_congr_left
      intro c _
      rw [rsum_succ, Int.add_assoc]
  · rintro δn ⟨s1, s2, s3, s4, rfl⟩
    wtm_at "pv"
    exact hP
/-- a stretch of times that may be -/
def span : D → D → Option (Int × Int)
  | .int b, .int e => if 0 ≤ b ∧ b ≤ e ∧ e ≤ 1000000000000000 then some (b, e) else none
  | _, _ => none
theorem span_if (b e : Int) : span (.int b) (.int e) = if 0 ≤ b ∧ b ≤ e ∧ e ≤ 1000000000000000 then some (b, e) else none := rfl
theorem span_some {d1 d2 : D} {b e : Int} (h : span d1 d2 = some (b, e)) : d1 = .int b ∧ d2 = .int e ∧ 0 ≤ b ∧ b ≤ e ∧ e ≤ 1000000000000000 := by
  cases d1 with
  | int b' =>
    cases d2 with
    | int e' =>
      rw [span_if] at h
      split at h
      · rename_i hh
        cases h
        exact ⟨rfl, rfl, hh⟩
      · cases h
    | _ => exact nomatch h
  | _ => exact nomatch h
theorem span_ints {b e : Int} (h : 0 ≤ b ∧ b ≤ e ∧ e ≤ 1000000000000000) : span (.int b) (.int e) = some (b, e) := if_pos h
theorem isTime_int {d : D} (h : isTime d = true) : ∃ t : Int, d = .int t ∧ 0 ≤ t ∧ t ≤ 1000000000000000 := by
  cases d <;> first | cases h | skip
  rename_i t
  have : (decide (0 ≤ t) && decide (t ≤ 1000000000000000)) = true := h
  rw [Bool.and_eq_true, decide_eq_true_eq, decide_eq_true_eq] at this
  exact ⟨t, rfl, this.1, this.2⟩
theorem isTime_of {t : Int} (h0 : 0 ≤ t) (h1 : t ≤ 1000000000000000) : isTime (.int t) = true := by
  show (decide (0 ≤ t) && decide (t ≤ 1000000000000000)) = true
  rw [decide_eq_true h0, decide_eq_true h1]; rfl
abbrev secD (rs : List (Int × Int)) (ls : List Int) (b e : Int) : D := .lst (tabD fun c => aheadP rs ls e c - aheadP rs ls b c)
def F_seconds (C CT : Addr) : Phi := fun ds P PX => ∃ rs ls d1 d2, ds = [bandsD C rs ls, d1, d2] ∧ WfRows rs ∧ WfLow ls ∧ d1.tyN.isSome = true ∧ d2.tyN.isSome = true ∧ (∀ b e, span d1 d2 = some (b, e) → P (secD rs ls b e)) ∧ (span d1 d2 = none → PX (.plain (.ref CT)))
local macro_rules | `(tactic| wtm_at "pv ex") => `(tactic| ((with_reducible show F_ahead2 _ _ _ _); refine ⟨_, _, _, rfl, (by with_reducible assumption), (by with_reducible assumption), by omega, by omega, ?_⟩))
theorem ok_seconds {M : Md} {f C CT : Addr} {fd : FuncData} (G : Fun M.K "seconds" "Bands.seconds" s_Bands_seconds f fd) (T : BT M C) (bi4 : Bi M "zip") (e1 : EX M "NoTime" CT) (f2 : DefOk M 2 "need_time" 1 (F_need CT)) (f1 : MethOk M C 2 "ahead_of" 2 (F_ahead2 C)) : FnOk M.P M.w M.K M.mg M.base (L2.CX M.P M.w) 3 f fd ["self", "begin", "end"] (spD M.K 3 (F_seconds C CT)) := by
  refine fn_ok G sc_Bands_seconds rfl ?_
  rintro ds P PX - ⟨rs, ls, d1, d2, rfl, wf, wl, y1, y2, hP, hX⟩ X W c
  change DSs X W (_ :: _) [_, _, _, _, _] _ _ _ _ _
  obtain ⟨cl, nb, ne, nk, nl⟩ := T
  wtm_at "pv stmt"
  wtm_at "pv"
  refine ⟨d1, rfl, y1, fun h1 => ?_, fun h1 => hX ?_⟩
  rotate_left
  · cases hs : span d1 d2 with
    | none => rfl
    | some z =>
      obtain ⟨b, e⟩ := z
      obtain ⟨rfl, rfl, z0, z1, z2⟩ := span_some hs
      rw [isTime_of z0 (by omega)] at h1
      cases h1
  obtain ⟨b, rfl, b0, b1⟩ := isTime_int h1
  wtm_at "pv stmt"
  wtm_at "pv"
  refine ⟨d2, rfl, y2, fun h2 => ?_, fun h2 => hX ?_⟩
  rotate_left
  · cases hs : span (.int b) d2 with
    | none => rfl
    | some z =>
      obtain ⟨b', e⟩ := z
      obtain ⟨hb, rfl, z0, z1, z2⟩ := span_some hs
      cases hb
      rw [isTime_of (by omega) z2] at h2
      cases h2
  obtain ⟨e, rfl, e0, e1'⟩ := isTime_int h2
  wtm_at "pv"
  · rename_i hw
    refine hX ?_
    rw [span_if, if_neg (by omega)]
  · rename_i hw
    refine de_lcN Nat c (by wtm_at "pv own") (by decide +kernel) ?_
    wtm_at "pv"
    rw [zip_tab]
    refine lcb_map (List.range 10) (fun c => .tup [D.int (aheadP rs ls e c), D.int (aheadP rs ls b c)]) (fun c => D.int (aheadP rs ls e c - aheadP rs ls b c)) rfl (by decide) (fun z hz => ?_) ?_
    · refine ⟨_, _, (by wtm_at "pv dg"), (by decide), fun X' c' => ?_⟩
      wtm_at "pv"
    · rw [← tabD_eq (fun c => aheadP rs ls e c - aheadP rs ls b c)]
      exact hP b e (span_ints ⟨b0, by omega, e1'⟩)
end K82
namespace K82
open PySem PySem.Spec PyProof.Rows L2 PV
/-! ### prices -/
def isPrices : D → Bool
  | .lst xs => decide (xs.length = 10) && xs.all fun x => btw x 0 1000000000
  | _ => false
/-- a thing that may be asked whether it is prices -/
structure PrOk (d : D) : Prop where
  ty : d.tyN.isSome = true
  it : ∀ xs, d = .lst xs → xs.length ≤ 1000 ∧ ∀ x ∈ xs, x.tyN.isSome = true
def F_arePrices : Phi := fun ds P _ => ∃ d, ds = [d] ∧ PrOk d ∧ P (.bl (isPrices d))
theorem ok_arePrices {M : Md} {f : Addr} {fd : FuncData} (G : Fun M.K "are_prices" "are_prices" s_are_prices f fd) (bi1 : Bi M "isinstance") (bi2 : Bi M "list") (bi3 : Bi M "len") (bi4 : Bi M "all") (g1 : GlD M "BANDS" (.int 10)) (g2 : GlD M "MOST_PRICE" (.int 1000000000)) (f1 : DefOk M 1 "is_between" 3 F_between) : FnOk M.P M.w M.K M.mg M.base (L2.CX M.P M.w) 2 f fd ["prices"] (spD M.K 1 F_arePrices) := by
  refine fn_ok G sc_are_prices rfl ?_
  rintro ds P PX - ⟨d, rfl, ok, hP⟩ X W c
  change DSs X W (_ :: _) [_, _] _ _ _ _ _
  have ty := ok.ty
  cases d with
  | lst xs =>
    obtain ⟨hz, it⟩ := ok.it xs rfl
    wtm_at "pv stmt"
    wtm_at "pv stmt"
    wtm_at "pv"
    · rename_i h1 h2
      rw [eqb_int2, beq_eq_false_iff_ne] at h2
      exact to_bl hP (by
        show (decide (xs.length = 10) && _) = false
        rw [decide_eq_false (by omega)]; rfl)
    · rename_i h1 h2
      rw [eqb_int2, beq_iff_eq] at h2
      refine de_lcN D c (by wtm_at "pv own") (by decide +kernel) ?_
      refine di_list ?_
      wtm_at "pv"
      refine lcb_map xs id (fun x => .bl (btw x 0 1000000000)) (by simp) (by omega) (fun z hz => ?_) ?_
      · refine ⟨_, _, (by wtm_at "pv dg"), (by decide), fun X' c' => ?_⟩
        wtm_at "pv"
        exact ⟨z, _, _, rfl, it z hz, rfl⟩
      · refine ⟨xs.map fun x => btw x 0 1000000000, by rw [List.map_map]; rfl, ?_⟩
        refine to_bl hP ?_
        show (decide (xs.length = 10) && _) = _
        rw [decide_eq_true (by omega), List.all_map]
        rfl
  | obj C fs => cases ty
  | exc C w fs => cases ty
  | opq v => cases ty
  | _ =>
    wtm_at "pv"
    exact to_bl hP rfl
def F_needP (CP : Addr) : Phi := fun ds P PX => ∃ d, ds = [d] ∧ PrOk d ∧ (isPrices d = true → P .non) ∧ (isPrices d = false → PX (.plain (.ref CP)))
theorem ok_needP {M : Md} {f CP : Addr} {fd : FuncData} (G : Fun M.K "need_prices" "need_prices" s_need_prices f fd) (e1 : EX M "NoPrices" CP) (f1 : DefOk M 2 "are_prices" 1 F_arePrices) : FnOk M.P M.w M.K M.mg M.base (L2.CX M.P M.w) 3 f fd ["prices"] (spD M.K 1 (F_needP CP)) := by
  refine fn_ok G sc_need_prices rfl ?_
  rintro ds P PX - ⟨d, rfl, ok, hP, hX⟩ X W c
  change DSs X W (_ :: _) [_] _ _ _ _ _
  wtm_at "pv stmt"
  wtm_at "pv stmt"
  wtm_at "pv"
  refine ⟨d, rfl, ok, ?_⟩
  cases hb : isPrices d with
  | true =>
    wtm_at "pv"
    exact hP hb
  | false =>
    wtm_at "pv"
    exact hX hb
theorem prices_of {d : D} (h : isPrices d = true) : ∃ ps : List Int, d = .lst (ps.map .int) ∧ ps.length = 10 ∧ ∀ p ∈ ps, 0 ≤ p ∧ p ≤ 1000000000 := by
  cases d with
  | lst xs =>
    have h : (decide (xs.length = 10) && xs.all fun x => btw x 0 1000000000) = true := h
    rw [Bool.and_eq_true, decide_eq_true_eq, List.all_eq_true] at h
    obtain ⟨hl, ha⟩ := h
    have key : ∀ xs : List D, (∀ x ∈ xs, btw x 0 1000000000 = true) → ∃ ps : List Int, xs = ps.map .int ∧ ∀ p ∈ ps, 0 ≤ p ∧ p ≤ 1000000000 := by
      intro xs
      induction xs with
      | nil => exact fun _ => ⟨[], rfl, by simp⟩
      | cons x r ih =>
        intro h
        obtain ⟨ps, rfl, hp⟩ := ih fun y hy => h y (List.mem_cons_of_mem _ hy)
        have hx := h x (by simp)
        cases x with
        | int i =>
          have hx : (decide (0 ≤ i) && decide (i ≤ 1000000000)) = true := hx
          rw [Bool.and_eq_true, decide_eq_true_eq, decide_eq_true_eq] at hx
          refine ⟨i :: ps, rfl, fun p hp2 => ?_⟩
          rcases List.mem_cons.mp hp2 with rfl | h
          · exact hx
          · exact hp p h
        | _ => exact nomatch hx
    obtain ⟨ps, rfl, hp⟩ := key xs ha
    exact ⟨ps, rfl, by simpa using hl, hp⟩
  | _ => exact nomatch h
/-- what seconds cost -/
def costF (f : Nat → Int) (ps : List Int) : Int := (((tab f).zip ps).map fun z => z.1 * z.2).sum
abbrev secF (rs : List (Int × Int)) (ls : List Int) (b e : Int) : Nat → Int := fun c => aheadP rs ls e c - aheadP rs ls b c
def F_cost (C CT CP : Addr) : Phi := fun ds P PX => ∃ rs ls d1 d2 d3, ds = [bandsD C rs ls, d1, d2, d3] ∧ WfRows rs ∧ WfLow ls ∧ d1.tyN.isSome = true ∧ d2.tyN.isSome = true ∧ PrOk d3 ∧ (isPrices d3 = false → PX (.plain (.ref CP))) ∧
  (isPrices d3 = true → span d1 d2 = none → PX (.plain (.ref CT))) ∧ (∀ b e ps, span d1 d2 = some (b, e) → d3 = .lst (ps.map .int) → ps.length = 10 → (∀ p ∈ ps, 0 ≤ p ∧ p ≤ 1000000000) → P (.int (costF (secF rs ls b e) ps)))
theorem ok_cost {M : Md} {f C CT CP : Addr} {fd : FuncData} (G : Fun M.K "cost" "Bands.cost" s_Bands_cost f fd) (T : BT M C) (bi1 : Bi M "sum") (bi2 : Bi M "zip") (f2 : DefOk M 3 "need_prices" 1 (F_needP CP)) (f1 : MethOk M C 3 "seconds" 3 (F_seconds C CT)) : FnOk M.P M.w M.K M.mg M.base (L2.CX M.P M.w) 4 f fd ["self", "begin", "end", "prices"] (spD M.K 4 (F_cost C CT CP)) := by
  refine fn_ok G sc_Bands_cost rfl ?_
  rintro ds P PX - ⟨rs, ls, d1, d2, d3, rfl, wf, wl, y1, y2, ok, hX, hX2, hP⟩ X W c
  change DSs X W (_ :: _) [_, _, _, _, _, _] _ _ _ _ _
  obtain ⟨cl, nb, ne, nk, nl⟩ := T
  wtm_at "pv stmt"
  wtm_at "pv"
  refine ⟨d3, rfl, ok, fun h1 => ?_, hX⟩
  obtain ⟨ps, rfl, hl, hp⟩ := prices_of h1
  wtm_at "pv"
  refine de_lcN (Int × Int) c (by wtm_at "pv own") (by decide +kernel) ?_
  wtm_at "pv"
  refine ⟨rs, ls, d1, d2, rfl, wf, wl, y1, y2, fun b e hs => ?_, hX2 h1⟩
  wtm_at "pv"
  rw [zipD_map]
  refine lcb_map ((tab (secF rs ls b e)).zip ps) (fun z => .tup [D.int z.1, D.int z.2]) (fun z => D.int (z.1 * z.2)) rfl (by rw [List.length_zip, tab_len]; omega) (fun z hz => ?_) ?_
  · have hz2 := hp z.2 (List.of_mem_zip hz).2
    refine ⟨_, _, (by wtm_at "pv dg"), (by decide), fun X' c' => ?_⟩
    wtm_at "pv"
  · refine ⟨((tab (secF rs ls b e)).zip ps).map fun z => z.1 * z.2, by rw [List.map_map]; rfl, ?_⟩
    exact hP b e ps hs rfl hl hp
end K82
namespace K82
open PySem PySem.Spec PyProof.Rows L2 PV
local macro_rules | `(tactic| wtm_at "pv ex") => `(tactic| ((with_reducible show F_mixed _ _ _); refine ⟨_, _, rfl, by omega, by omega, ?_⟩))
/-- prices, drawn -/
def F_prices : Phi := fun ds P _ => ∃ cell : Int, ds = [.int cell] ∧ ∀ ps : List Int, ps.length = 10 → (∀ p ∈ ps, 0 ≤ p ∧ p ≤ 1000000000) → P (.lst (ps.map .int))
theorem ok_prices {M : Md} {f : Addr} {fd : FuncData} (G : Fun M.K "_law_prices" "_law_prices" s_prices f fd) (bi1 : Bi M "min") (bi2 : Bi M "range") (f1 : DefOk M 1 "_law_mixed" 2 F_mixed) : FnOk M.P M.w M.K M.mg M.base (L2.CX M.P M.w) 2 f fd ["_law_cell"] (spD M.K 1 F_prices) := by
  refine fn_ok G sc_prices rfl ?_
  rintro ds P PX - ⟨cell, rfl, hP⟩ X W c
  change DSs X W (_ :: _) [_, _, _] _ _ _ _ _
  refine dss_set c (fun d => ∃ m : Int, d = .int m ∧ 10 ≤ m ∧ m ≤ 1000000000) (by wtm_at "pv at") (by wtm_at "pv loc") ?_ ?_
  · wtm_at "pv"
    wtm_at "pv pick"
    wtm_at "pv"
    · decide
    · decide
    · exact ⟨by decide, by decide⟩
  rintro _ ⟨m, rfl, m0, m1⟩
  refine ⟨_, by wtm_at "pv put", ?_⟩
  wtm_at "pv stmt"
  wtm_at "pv stmt"
  refine de_lcN Nat c (by wtm_at "pv own") (by decide +kernel) ?_
  wtm_at "pv"
  refine ⟨by decide, by decide, ?_⟩
  refine lcb_map (List.range 10) (fun i => .int (0 + (i : Int))) (fun i => .int (if mixed cell (161 + (0 + (i : Int))) % (m + m / 4) < m then mixed cell (161 + (0 + (i : Int))) % (m + m / 4) else m)) rfl (by decide) (fun z hz => ?_) ?_
  · have hz := List.mem_range.mp hz
    refine ⟨_, _, (by wtm_at "pv dg"), (by decide), fun X' c' => ?_⟩
    wtm_at "pv"
  · have e : ((List.range 10).map fun (i : Nat) => (D.int (if mixed cell (161 + (0 + (i : Int))) % (m + m / 4) < m then mixed cell (161 + (0 + (i : Int))) % (m + m / 4) else m))) = ((List.range 10).map fun (i : Nat) => (if mixed cell (161 + (0 + (i : Int))) % (m + m / 4) < m then mixed cell (161 + (0 + (i : Int))) % (m + m / 4) else m)).map .int := by rw [List.map_map]; rfl
    rw [e]
    refine hP _ (by simp) fun p hp => ?_
    obtain ⟨i, _, rfl⟩ := List.mem_map.mp hp
    have := Int.emod_nonneg (mixed cell (161 + (0 + (i : Int)))) (show m + m / 4 ≠ 0 by omega)
    split <;> omega
end K82
namespace K82
open PySem PySem.Spec PyProof.Rows L2 PV
local macro_rules | `(tactic| wtm_at "pv hs") => `(tactic| (with_reducible (first | exact Hs.z | (apply Hs.s; wtm_at "pv hs") | fail)))
local macro_rules | `(tactic| wtm_at "pv hput") => `(tactic| (with_reducible (first | exact Hput.z | (apply Hput.s; wtm_at "pv hput") | fail)))
local macro_rules | `(tactic| wtm_at "pv cin") => `(tactic| (with_reducible (first | exact Cin.z | (apply Cin.s; wtm_at "pv cin") | fail)))
local macro_rules | `(tactic| wtm_at "pv cput") => `(tactic| (with_reducible (first | exact Cput.z | (apply Cput.s; wtm_at "pv cput") | fail)))
/-! ### the data of a plan -/
abbrev plRow (r : Str × D) : D := .tup [.str r.1, r.2]
structure PlRows (rs : List (Str × D)) : Prop where
  le : rs.length ≤ 200
  fig : ∀ r ∈ rs, figs r.1 = true
  nd : (rs.map (·.1)).Nodup
abbrev thK (rs : List (Str × D)) : List (Key × D) := rs.map fun r => (.inr r.1, r.2)
/-- figures that some row goes on from -/
def wayIn (rs : List (Str × D)) (f : Str) : Prop := ∃ r ∈ rs, ∃ n : Nat, n < r.1.length ∧ f = cutS r.1 none (some (n : Int))
def WaysOk (rs : List (Str × D)) (ws : List (Key × D)) : Prop := ∀ f, (getK ws (.inr f)).isSome = true ↔ wayIn rs f
theorem figs_len {s : Str} (h : figs s = true) : 1 ≤ s.length ∧ s.length ≤ 15 := by
  unfold figs at h
  rw [Bool.and_eq_true, Bool.and_eq_true, decide_eq_true_eq, decide_eq_true_eq] at h
  exact h.1
theorem getK_th {rs : List (Str × D)} {f : Str} : (getK (thK rs) (.inr f)).isSome = (rs.map (·.1)).contains f := by
  induction rs with
  | nil => rfl
  | cons r t ih =>
    by_cases e : r.1 = f
    · simp [getK, thK, List.find?_cons, e]
    · have e2 : getK (thK (r :: t)) (.inr f) = getK (thK t) (.inr f) := by
        have hne : ¬ (Sum.inr r.1 : Key) = .inr f := fun z => e (Sum.inr.inj z)
        simp [getK, thK, List.find?_cons, hne]
      rw [e2, ih, List.map_cons, List.contains_cons]
      have : (f == r.1) = false := beq_eq_false_iff_ne.mpr (Ne.symm e)
      rw [this, Bool.false_or]
theorem getK_put {kvs : List (Key × D)} {key k2 : Key} {d : D} : (getK (putKD kvs key d) k2).isSome = (decide (k2 = key) || (getK kvs k2).isSome) := by
  have h : ∀ kvs : List (Key × D), (getK kvs k2).isSome = (kvs.map (·.1)).any fun x => decide (x = k2) := by
    intro kvs
    induction kvs with
    | nil => rfl
    | cons r t ih =>
      by_cases e : r.1 = k2
      · simp [getK, List.find?_cons, e]
      · have e2 : getK (r :: t) k2 = getK t k2 := by simp [getK, List.find?_cons, e]
        rw [e2, ih, List.map_cons, List.any_cons, decide_eq_false e, Bool.false_or]
  rw [h, h]
  unfold putKD
  split
  · rename_i hany
    have hk : (kvs.map fun kv => if kv.1 = key then (kv.1, d) else kv).map (·.1) = kvs.map (·.1) := by
      rw [List.map_map]
      apply List.map_congr_left
      intro z _
      show (if z.1 = key then (z.1, d) else z).1 = z.1
      split <;> rfl
    rw [hk]
    by_cases e : k2 = key
    · subst e
      rw [decide_eq_true rfl, Bool.true_or, List.any_map]
      exact hany
    · rw [decide_eq_false e, Bool.false_or]
  · rw [List.map_append, List.any_append]
    by_cases e : k2 = key
    · subst e; simp
    · have : ¬ key = k2 := Ne.symm e
      simp [e, this]
theorem putKD_new {kvs : List (Key × D)} {key : Key} {d : D} (h : (getK kvs key).isSome = false) : putKD kvs key d = kvs ++ [(key, d)] := by
  have e : (kvs.any fun kv => decide (kv.1 = key)) = false := by
    have h2 : ∀ kvs : List (Key × D), (getK kvs key).isSome = (kvs.any fun kv => decide (kv.1 = key)) := by
      intro kvs
      induction kvs with
      | nil => rfl
      | cons r t ih =>
        by_cases e : r.1 = key
        · simp [getK, List.find?_cons, e]
        · have e2 : getK (r :: t) key = getK t key := by simp [getK, List.find?_cons, e]
          rw [e2, ih, List.any_cons, decide_eq_false e, Bool.false_or]
    rw [← h2]; exact h
  unfold putKD
  rw [e, if_neg Bool.false_ne_true]
theorem putKD_len {kvs : List (Key × D)} {key : Key} {d : D} : (putKD kvs key d).length ≤ kvs.length + 1 := by
  unfold putKD
  split <;> simp
def F_pinit : PhiI := fun ds P _ => ∃ rs : List (Str × D), ds = [.lst (rs.map plRow)] ∧ PlRows rs ∧ ∀ ws, WaysOk rs ws → P [("things", .dic (thK rs)), ("ways", .dic ws)]
structure PT (M : Md) (C : Addr) : Prop where
  cl : Cls M.K C
  nt : NoAttr M.K C "things"
  nw : NoAttr M.K C "ways"
local macro_rules | `(tactic| wtm_at "pv ex") => `(tactic| ((with_reducible show F_figures _ _ _); refine ⟨_, rfl, rfl, (fun _ hs => by cases hs; omega), ?_⟩))
theorem ok_pinit {M : Md} {f C : Addr} {fd : FuncData} (G : Fun M.K "__init__" "Plan.__init__" s_Plan_init f fd) (T : PT M C) (bi1 : Bi M "len") (bi2 : Bi M "range") (g1 : GlD M "MOST_ROWS_plans" (.int 200)) (f1 : DefOk M 1 "is_figures" 1 F_figures) : FnOk M.P M.w M.K M.mg M.base (L2.CX M.P M.w) 2 f fd ["self", "rows"] (spI M.K C 2 F_pinit) := by
  refine init_okC G sc_Plan_init rfl ?_
  rintro l ds P PX - ⟨rs, rfl, wf, hP⟩ X W c
  change DSs X W (_ :: _) [_, _, _, _, _, _] _ _ _ _ _
  obtain ⟨cl, nt, nw⟩ := T
  have hle := wf.le
  refine dss_cons ?_
  refine ds_ifF ?_ ?_
  · wtm_at "pv"
    exact decide_eq_false (by rw [List.length_map]; omega)
  refine dss_nil ?_
  refine dss_cons ?_
  refine ds_fldD c (by wtm_at "pv hs") (by wtm_at "pv at") (by wtm_at "pv vis") cl nt (by wtm_at "pv lk") (by decide) ?_
  intro q1
  refine ⟨_, _, by wtm_at "pv hput", by wtm_at "pv put", ?_⟩
  refine dss_cons ?_
  refine ds_fldD c (by wtm_at "pv hs") (by wtm_at "pv at") (by wtm_at "pv vis") cl nw (by wtm_at "pv lk") (by simp only [List.length_append, List.length_cons, List.length_nil] <;> decide) ?_
  intro q2
  refine ⟨_, _, by wtm_at "pv hput", by wtm_at "pv put", ?_⟩
  refine dss_cons ?_
  refine ds_for c (fun i δ => ∃ ws s1 s2 s3, WaysOk (rs.take i) ws ∧ ws.length ≤ 15 * i ∧ δ = [.ins l C [("things", .opq (.ref q1)), ("ways", .opq (.ref q2))], .val (.lst (rs.map plRow)), s1, s2, s3, .heap [(q2, .dic ws), (q1, .dic (thK (rs.take i)))]]) ?_
  refine di_list ?_
  wtm_at "pv"
  refine ⟨⟨[], _, _, _, fun f => ⟨fun z => (nomatch z), fun ⟨r, hr, _⟩ => by cases hr⟩, Nat.le_refl _, rfl⟩, ?_, ?_⟩
  rotate_left
  · rintro δn ⟨ws, s1, s2, s3, hw, hwl, rfl⟩
    rw [List.length_map, List.take_length] at *
    exact dss_nil ⟨_, [("things", .dic (thK rs)), ("ways", .dic ws)], _, _, rfl, by wtm_at "pv hs", .cons (.dic (by wtm_at "pv cin")) (.cons (.dic (by wtm_at "pv cin")) .nil), hP ws hw⟩
  rintro i d δi hd ⟨ws, s1, s2, s3, hw, hwl, rfl⟩
  have hi : i < rs.length := by
    have := (List.getElem?_eq_some_iff.mp hd).1
    simpa using this
  have hd2 : d = plRow rs[i] := by
    rw [List.getElem?_map, List.getElem?_eq_getElem hi] at hd
    exact (Option.some.inj hd).symm
  subst hd2
  have hf := wf.fig rs[i] (List.getElem_mem hi)
  obtain ⟨f1l, f2l⟩ := figs_len hf
  have htake : rs.take (i + 1) = rs.take i ++ [rs[i]] := by simp
  have hnew : (getK (thK (rs.take i)) (.inr rs[i].1)).isSome = false := by
    rw [getK_th]
    cases hc : ((rs.take i).map (·.1)).contains rs[i].1 with
    | false => rfl
    | true =>
      exfalso
      have hm := List.contains_iff_mem.mp hc
      have nd := wf.nd
      have e : rs = rs.take i ++ rs.drop i := (List.take_append_drop i rs).symm
      rw [e, List.map_append, List.nodup_append] at nd
      have hm2 : rs[i].1 ∈ (rs.drop i).map (·.1) := List.mem_map.mpr ⟨rs[i], by rw [List.drop_eq_getElem_cons hi]; exact List.mem_cons_self, rfl⟩
      exact nd.2.2 _ hm _ hm2 rfl
  refine ⟨_, _, by wtm_at "pv dg", ?_⟩
  refine dss_cons ?_
  refine ds_ifF ?_ ?_
  · wtm_at "pv"
    rw [show isFig (.str rs[i].1) = true from hf]
    wtm_at "pv"
  refine dss_nil ?_
  refine dss_cons ?_
  refine ds_ifF ?_ ?_
  · refine dt_din c ?_
    wtm_at "pv de"
    refine dk_cel (q := q1) (by wtm_at "pv hs") (by wtm_at "pv cin") (de_selfld c (by wtm_at "pv at") (by wtm_at "pv vis") cl nt (by wtm_at "pv lk") rfl) ?_
    exact ⟨.inr rs[i].1, rfl, hnew⟩
  refine dss_nil ?_
  refine dss_cons ?_
  refine ds_dputC c (q := q1) (by wtm_at "pv hs") (by wtm_at "pv cin") (by rw [List.length_map, List.length_take]; omega) (de_selfld c (by wtm_at "pv at") (by wtm_at "pv vis") cl nt (by wtm_at "pv lk") rfl) ?_
  wtm_at "pv de"
  wtm_at "pv de"
  refine ⟨.inr rs[i].1, rfl, _, _, by wtm_at "pv cput", by wtm_at "pv hput", ?_⟩
  have e1 : putKD (thK (rs.take i)) (.inr rs[i].1) rs[i].2 = thK (rs.take (i + 1)) := by
    rw [putKD_new hnew, htake]
    show _ = (rs.take i ++ [rs[i]]).map _
    rw [List.map_append]
    rfl
  rw [e1]
  refine dss_cons ?_
  refine ds_for c (fun j δ => ∃ ws s3, (∀ f, (getK ws (.inr f)).isSome = true ↔ wayIn (rs.take i) f ∨ ∃ n : Nat, n < j ∧ f = cutS rs[i].1 none (some (n : Int))) ∧ ws.length ≤ 15 * i + j ∧ δ = [.ins l C [("things", .opq (.ref q1)), ("ways", .opq (.ref q2))], .val (.lst (rs.map plRow)), .val (.str rs[i].1), .val rs[i].2, s3, .heap [(q2, .dic ws), (q1, .dic (thK (rs.take (i + 1))))]]) ?_
  wtm_at "pv"
  refine ⟨by omega, by omega, ⟨ws, s3, fun f => ⟨fun z => .inl ((hw f).mp z), fun z => ?_⟩, by omega, rfl⟩, ?_, ?_⟩
  · rcases z with z | ⟨n, hn, _⟩
    · exact (hw f).mpr z
    · omega
  · rintro j d δi hd ⟨ws, s3, hw2, hwl2, rfl⟩
    obtain ⟨hj, rfl⟩ := rangeD_get hd
    refine ⟨_, _, by wtm_at "pv dg", ?_⟩
    refine dss_cons ?_
    refine ds_dputC c (q := q2) (by wtm_at "pv hs") (by wtm_at "pv cin") (by omega) (de_selfld c (by wtm_at "pv at") (by wtm_at "pv vis") cl nw (by wtm_at "pv lk") rfl) ?_
    wtm_at "pv"
    refine ⟨_, _, by wtm_at "pv cput", by wtm_at "pv hput", ?_⟩
    have hl := putKD_len (kvs := ws) (key := .inr (cutS rs[i].1 none (some (0 + (j : Int))))) (d := .bl true)
    refine dss_nil ⟨_, _, fun f => ?_, by omega, rfl⟩
    rw [getK_put, Bool.or_eq_true, decide_eq_true_eq, hw2 f, Int.zero_add]
    constructor
    · rintro (h | h | ⟨n, hn, h⟩)
      · exact .inr ⟨j, by omega, Sum.inr.inj h⟩
      · exact .inl h
      · exact .inr ⟨n, by omega, h⟩
    · rintro (h | ⟨n, hn, h⟩)
      · exact .inr (.inl h)
      · by_cases hnj : n = j
        · subst hnj
          exact .inl (by rw [h])
        · exact .inr (.inr ⟨n, by omega, h⟩)
  · rintro δn ⟨ws, s3, hw2, hwl2, rfl⟩
    have hlen : (rangeD 0 (rs[i].1.length : Int).toNat).length = rs[i].1.length := by simp [rangeD]
    rw [hlen] at hw2 hwl2
    refine dss_nil ⟨ws, _, _, _, fun f => ?_, by omega, rfl⟩
    rw [hw2 f, htake]
    constructor
    · rintro (⟨r, hr, h⟩ | ⟨n, hn, h⟩)
      · exact ⟨r, List.mem_append_left _ hr, h⟩
      · exact ⟨rs[i], List.mem_append_right _ (List.mem_singleton.mpr rfl), n, hn, h⟩
    · rintro ⟨r, hr, n, hn, h⟩
      rcases List.mem_append.mp hr with hr | hr
      · exact .inl ⟨r, hr, n, hn, h⟩
      · rw [List.mem_singleton.mp hr] at hn h
        exact .inr ⟨n, hn, h⟩
end K82
namespace K82
open PySem PySem.Spec PyProof.Rows L2 PV
abbrev planD (C : Addr) (rs : List (Str × D)) (ws : List (Key × D)) : D := .obj C [("things", .dic (thK rs)), ("ways", .dic ws)]
/-- the longest beginning among the rows, of so many figures at most -/
def longN (rs : List (Str × D)) (s : Str) : Nat → Option Str
  | 0 => none
  | n + 1 => if (rs.map (·.1)).contains (cutS s none (some ((n + 1 : Nat) : Int))) = true then some (cutS s none (some ((n + 1 : Nat) : Int))) else longN rs s n
def optD : Option Str → D
  | none => .non
  | some t => .str t
def F_longest (C : Addr) : Phi := fun ds P _ => ∃ rs ws s, ds = [planD C rs ws, .str s] ∧ s.length ≤ 1000 ∧ P (optD (longN rs s s.length))
theorem ok_longest {M : Md} {f C : Addr} {fd : FuncData} (G : Fun M.K "longest" "Plan.longest" s_Plan_longest f fd) (T : PT M C) (bi1 : Bi M "len") (bi2 : Bi M "range") : FnOk M.P M.w M.K M.mg M.base (L2.CX M.P M.w) 1 f fd ["self", "number"] (spD M.K 2 (F_longest C)) := by
  refine fn_ok G sc_Plan_longest rfl ?_
  rintro ds P PX - ⟨rs, ws, s, rfl, hs, hP⟩ X W c
  change DSs X W (_ :: _) [_, _, _] _ _ _ _ _
  obtain ⟨cl, nt, nw⟩ := T
  refine dss_cons ?_
  refine ds_for c (fun i δ => ∃ s3, longN rs s s.length = longN rs s (s.length - i) ∧ δ = [.val (planD C rs ws), .val (.str s), s3]) ?_
  refine di_down c rfl bi2 ?_
  wtm_at "pv"
  refine ⟨_, _, rfl, by omega, by omega, by omega, by omega, ⟨_, rfl, rfl⟩, ?_, ?_⟩
  · rintro i d δi hd ⟨s3, hl, rfl⟩
    obtain ⟨hi, rfl⟩ := downD_get hd
    refine ⟨_, _, by wtm_at "pv dg", ?_⟩
    obtain ⟨n, hn⟩ : ∃ n : Nat, s.length - i = n + 1 := ⟨s.length - i - 1, by omega⟩
    have hni : (s.length : Int) - (i : Int) = ((n + 1 : Nat) : Int) := by omega
    rw [hn] at hl
    refine dss_cons ?_
    refine ds_if ?_
    refine dt_din c ?_
    wtm_at "pv"
    refine dk_of ?_
    wtm_at "pv"
    · rename_i hw
      rw [getK_th, hni] at hw
      rw [hni]
      have e : longN rs s s.length = some (cutS s none (some ((n + 1 : Nat) : Int))) := by
        rw [hl]
        exact if_pos hw
      rw [e] at hP
      exact hP
    · rename_i hw
      rw [getK_th, hni] at hw
      refine ⟨_, ?_, rfl⟩
      rw [hl, show s.length - (i + 1) = n by omega]
      exact if_neg (by rw [hw]; exact Bool.false_ne_true)
  · rintro δn ⟨s3, hl, rfl⟩
    rw [downD_len] at hl
    have e : s.length - ((s.length : Int) - 0).toNat = 0 := by omega
    rw [e] at hl
    rw [hl] at hP
    wtm_at "pv"
    exact hP
end K82
namespace K82
open PySem PySem.Spec PyProof.Rows L2 PV
/-! ### a tariff -/
def F_prows (C : Addr) : Phi := fun ds P _ => ∃ rs ws, ds = [planD C rs ws] ∧ P (.lst (rs.map plRow))
theorem ok_prows {M : Md} {f C : Addr} {fd : FuncData} (G : Fun M.K "rows" "Plan.rows" s_Plan_rows f fd) (T : PT M C) (bi1 : Bi M "list") : FnOk M.P M.w M.K M.mg M.base (L2.CX M.P M.w) 1 f fd ["self"] (spD M.K 1 (F_prows C)) := by
  refine fn_ok G sc_Plan_rows rfl ?_
  rintro ds P PX - ⟨rs, ws, rfl, hP⟩ X W c
  change DSs X W (_ :: _) [_] _ _ _ _ _
  obtain ⟨cl, nt, nw⟩ := T
  refine dss_cons ?_
  refine ds_ret (DF.de (df_items c rfl bi1 (dk_of ?_)))
  wtm_at "pv"
  have e : (thK rs).map (fun kv => D.tup [keyD kv.1, kv.2]) = rs.map plRow := by rw [List.map_map]; rfl
  rw [e]
  exact hP
structure TT (M : Md) (C : Addr) : Prop where
  cl : Cls M.K C
  nb : NoAttr M.K C "bands"
  np : NoAttr M.K C "plan"
abbrev tarD (C : Addr) (b p : D) : D := .obj C [("bands", b), ("plan", p)]
def F_tinit (CP CX : Addr) : PhiI := fun ds P PX => ∃ b rs ws, ds = [b, planD CP rs ws] ∧ PlRows rs ∧ (∀ r ∈ rs, PrOk r.2) ∧ ((∀ r ∈ rs, isPrices r.2 = true) → ∀ ws', WaysOk rs ws' → P [("bands", b), ("plan", planD CP rs ws')]) ∧ ((∃ r ∈ rs, isPrices r.2 = false) → PX (.plain (.ref CX)))
local macro_rules | `(tactic| wtm_at "pv ex") => `(tactic| ((with_reducible show F_prows _ _ _ _); refine ⟨_, _, rfl, ?_⟩))
theorem ok_tinit {M : Md} {f C CP CX : Addr} {fd : FuncData} (G : Fun M.K "__init__" "Tariff.__init__" s_Tariff_init f fd) (T : TT M C) (T2 : PT M CP) (hC : M.mg "Plan" = some (.ref CP)) (bi1 : Bi M "list") (f1 : DefOk M 3 "need_prices" 1 (F_needP CX)) (m1 : MethOk M CP 1 "rows" 1 (F_prows CP)) (mk : MkOk M CP 2 2 F_pinit) : FnOk M.P M.w M.K M.mg M.base (L2.CX M.P M.w) 4 f fd ["self", "bands", "plan"] (spI M.K C 3 (F_tinit CP CX)) := by
  refine init_ok G sc_Tariff_init rfl ?_
  rintro l ds P PX - ⟨b, rs, ws, rfl, wf, hpr, hP, hX⟩ X W c
  change DSs X W (_ :: _) [_, _, _, _, _, _] _ _ _ _ _
  obtain ⟨cl, nb, np⟩ := T
  have cl2 := T2.cl
  have hle := wf.le
  refine dss_mid (fun δ => δ = [.ins l C [], .val b, .val (planD CP rs ws), .acc [], .no, .no]) ?_ ?_
  · wtm_at "pv"
  rintro _ rfl
  refine dss_mid (fun δ => (∀ r ∈ rs, isPrices r.2 = true) ∧ ∃ s4 s5, δ = [.ins l C [], .val b, .val (planD CP rs ws), .acc (rs.map plRow), s4, s5]) ?_ ?_
  · refine ds_for c (fun i δ => (∀ r ∈ rs.take i, isPrices r.2 = true) ∧ ∃ s4 s5, δ = [.ins l C [], .val b, .val (planD CP rs ws), .acc ((rs.take i).map plRow), s4, s5]) ?_
    refine di_list ?_
    wtm_at "pv"
    refine ⟨⟨(fun r hr => by simp at hr), _, _, rfl⟩, ?_, ?_⟩
    rotate_left
    · rintro δn ⟨hall, s4, s5, rfl⟩
      rw [List.length_map, List.take_length] at *
      exact ⟨hall, _, _, rfl⟩
    rintro i d δi hd ⟨hall, s4, s5, rfl⟩
    have hi : i < rs.length := by
      have := (List.getElem?_eq_some_iff.mp hd).1
      simpa using this
    have hd2 : d = plRow rs[i] := by
      rw [List.getElem?_map, List.getElem?_eq_getElem hi] at hd
      exact (Option.some.inj hd).symm
    subst hd2
    have hmem := List.getElem_mem hi
    have htake : rs.take (i + 1) = rs.take i ++ [rs[i]] := by simp
    have hlen : ((rs.take i).map plRow).length < 100000 := by rw [List.length_map, List.length_take]; omega
    refine ⟨_, _, by wtm_at "pv dg", ?_⟩
    refine dss_cons ?_
    refine ds_expr ?_
    wtm_at "pv"
    refine ⟨rs[i].2, rfl, hpr _ hmem, fun hp => ?_, fun hp => hX ⟨_, hmem, hp⟩⟩
    obtain ⟨ps, hps, _, _⟩ := prices_of hp
    rw [hps]
    refine dss_cons ?_
    refine ds_append c (by wtm_at "pv at") (by wtm_at "pv vis") hlen ?_
    wtm_at "pv"
    refine ⟨_, .inl rfl, ?_⟩
    wtm_at "pv"
    have e : (rs.take (i + 1)).map plRow = (rs.take i).map plRow ++ [.tup [.str rs[i].1, .lst (ps.map .int)]] := by
      rw [htake, List.map_append, ← hps]; rfl
    refine ⟨fun r hr => ?_, .val (.str rs[i].1), .val (.lst (ps.map .int)), by rw [e]⟩
    rw [htake] at hr
    rcases List.mem_append.mp hr with h | h
    · exact hall r h
    · rw [List.mem_singleton.mp h]; exact hp
  rintro _ ⟨hall, s4, s5, rfl⟩
  refine dss_freeze c (by wtm_at "pv at") ?_
  refine ⟨_, by wtm_at "pv put", ?_⟩
  wtm_at "pv"
  refine ⟨rs, rfl, wf, fun ws' hw => ?_⟩
  wtm_at "pv"
  exact hP hall ws' hw
end K82
namespace K82
open PySem PySem.Spec PyProof.Rows L2 PV
local macro_rules | `(tactic| wtm_at "pv ex") => `(tactic| ((with_reducible show F_mixed _ _ _); refine ⟨_, _, rfl, by omega, by omega, ?_⟩))
local macro_rules | `(tactic| wtm_at "pv ex") => `(tactic| ((with_reducible show F_prices _ _ _); refine ⟨_, rfl, ?_⟩))
theorem figs_of {s : Str} (h0 : 1 ≤ s.length) (h1 : s.length ≤ 15) (h : ∀ c ∈ s.cps.toList, c ∈ ("0123456789" : Str).cps.toList) : figs s = true := by
  unfold figs
  rw [Bool.and_eq_true, Bool.and_eq_true, decide_eq_true_eq, decide_eq_true_eq, List.all_eq_true]
  exact ⟨⟨h0, h1⟩, fun c hc => decide_eq_true (h c hc)⟩
theorem figs_in {s : Str} (h : figs s = true) : ∀ c ∈ s.cps.toList, c ∈ ("0123456789" : Str).cps.toList := by
  unfold figs at h
  rw [Bool.and_eq_true, List.all_eq_true] at h
  exact fun c hc => of_decide_eq_true (h.2 c hc)
theorem figs_str {s : Str} (h : figs s = true) : PyData.strOk s = true := ok_of fun c hc => by
  have h2 := figs_in h c hc
  have h3 : ∀ c ∈ ("0123456789" : Str).cps.toList, c < 0x110000 := by decide +kernel
  exact h3 c h2
/-- figures, drawn of four -/
def F_figs : Phi := fun ds P _ => ∃ cell most : Int, ds = [.int cell, .int most] ∧ 1 ≤ most ∧ most ≤ 15 ∧ ∀ s : Str, figs s = true → P (.str s)
def digL : List Nat := ("0123456789" : Str).cps.toList
theorem pick4 {K : Fr} {P : D → Prop} {n : Int} (h0 : 0 ≤ n) (h1 : n < 4) (hP : ∀ ch ∈ digL, P (.str ⟨#[ch]⟩)) : RW K (rIx K) (.str "0123") (.int n) P := by
  have h : n = 0 ∨ n = 1 ∨ n = 2 ∨ n = 3 := by omega
  rcases h with rfl | rfl | rfl | rfl
  · exact o_ix_s (ch := 48) (by decide) (by decide +kernel) (hP 48 (by decide +kernel))
  · exact o_ix_s (ch := 49) (by decide) (by decide +kernel) (hP 49 (by decide +kernel))
  · exact o_ix_s (ch := 50) (by decide) (by decide +kernel) (hP 50 (by decide +kernel))
  · exact o_ix_s (ch := 51) (by decide) (by decide +kernel) (hP 51 (by decide +kernel))
theorem signs_of {xs : List Nat} {ys : List D} (h : Rels (fun (_ : Nat) y => ∃ ch ∈ digL, y = D.str ⟨#[ch]⟩) xs ys) : ∃ chs : List Nat, chs.length = xs.length ∧ (∀ ch ∈ chs, ch ∈ digL) ∧ ys = chs.map fun ch => .str ⟨#[ch]⟩ := by
  induction h with
  | nil => exact ⟨[], rfl, by simp, rfl⟩
  | cons a _ ih =>
    obtain ⟨ch, h1, rfl⟩ := a
    obtain ⟨chs, e1, e2, rfl⟩ := ih
    refine ⟨ch :: chs, by simp [e1], fun x hx => ?_, rfl⟩
    rcases List.mem_cons.mp hx with rfl | hx
    · exact h1
    · exact e2 x hx
theorem ok_figs {M : Md} {f : Addr} {fd : FuncData} (G : Fun M.K "_law_figures" "_law_figures" s_figures f fd) (bi2 : Bi M "range") (f1 : DefOk M 1 "_law_mixed" 2 F_mixed) : FnOk M.P M.w M.K M.mg M.base (L2.CX M.P M.w) 2 f fd ["_law_cell", "_law_most"] (spD M.K 2 F_figs) := by
  refine fn_ok G sc_figures rfl ?_
  rintro ds P PX - ⟨cell, most, rfl, h1, h15, hP⟩ X W c
  change DSs X W (_ :: _) [_, _, _] _ _ _ _ _
  have m0 : 0 ≤ mixed cell 229 % most := Int.emod_nonneg _ (by omega)
  have m1 : mixed cell 229 % most < most := Int.emod_lt_of_pos _ (by omega)
  wtm_at "pv"
  refine DF.de (df_lcR Nat c (by wtm_at "pv own") (by decide +kernel) ?_)
  wtm_at "pv"
  refine ⟨by omega, by omega, ?_⟩
  have n1 : 1 ≤ (1 + mixed cell 229 % most).toNat := by omega
  have n2 : (1 + mixed cell 229 % most).toNat ≤ 15 := by omega
  generalize (1 + mixed cell 229 % most).toNat = n at n1 n2 ⊢
  refine ⟨List.range n, (fun i => .int (0 + (i : Int))), (fun _ y => ∃ ch ∈ digL, y = .str ⟨#[ch]⟩), rfl, by simp; omega, fun z hz => ?_, fun ys hys => ?_⟩
  · have hz := List.mem_range.mp hz
    refine ⟨_, _, (by wtm_at "pv dg"), (by decide), fun X' c' => ?_⟩
    wtm_at "pv"
    exact pick4 (Int.emod_nonneg _ (by decide)) (Int.emod_lt_of_pos _ (by decide)) fun ch hc => ⟨ch, hc, rfl⟩
  · obtain ⟨chs, e1, e2, rfl⟩ := signs_of hys
    rw [List.length_range] at e1
    refine ⟨chs.map fun ch => ⟨#[ch]⟩, by rw [List.map_map]; rfl, ?_, ?_⟩
    · rw [sum_ones _ (by simp [Str.length])]
      simp
      show _ + n * 0 ≤ _
      omega
    · refine hP _ ((congrArg figs (join_signs chs)).trans ?_)
      exact figs_of (by simp [Str.length]; omega) (by simp [Str.length]; omega) fun ch hc => e2 ch (by simpa using hc)
/-- rows of prices, drawn -/
def PrRows (rs : List (Str × D)) : Prop := ∀ r ∈ rs, ∃ ps : List Int, r.2 = .lst (ps.map .int) ∧ ps.length = 10 ∧ ∀ p ∈ ps, 0 ≤ p ∧ p ≤ 1000000000
def F_prRows : Phi := fun ds P _ => ∃ cell : Int, ds = [.int cell] ∧ ∀ rs, PlRows rs → 1 ≤ rs.length → rs.length ≤ 6 → PrRows rs → P (.lst (rs.map plRow))
theorem PlRows.add {rs : List (Str × D)} {s : Str} {d : D} (wf : PlRows rs) (hl : rs.length < 200) (hs : figs s = true) (hn : ¬ s ∈ rs.map (·.1)) : PlRows (rs ++ [(s, d)]) := by
  refine ⟨by simp; omega, ?_, ?_⟩
  · intro r hr
    rcases List.mem_append.mp hr with h | h
    · exact wf.fig r h
    · rw [List.mem_singleton.mp h]; exact hs
  · rw [List.map_append, List.nodup_append]
    refine ⟨wf.nd, by simp, ?_⟩
    intro a ha b hb e
    have hb : b = s := by simpa using hb
    exact hn (by rw [← hb, ← e]; exact ha)
theorem inD_str (s : Str) : ∀ ss : List Str, inD (.str s) (ss.map .str) = decide (s ∈ ss)
  | [] => rfl
  | t :: r => by
    show (eqb (.str t) (.str s) || inD (.str s) (r.map .str)) = _
    rw [inD_str s r]
    have e : eqb (.str t) (.str s) = decide (t = s) := by rw [Bool.eq_iff_iff]; simp [eqb, D.py, PyData.eqv]
    rw [e]
    by_cases h : t = s
    · subst h; simp
    · have : ¬ s = t := fun z => h z.symm
      simp [h, this]
theorem ok_prRows {M : Md} {f : Addr} {fd : FuncData} (G : Fun M.K "_law_price_rows" "_law_price_rows" s_price_rows f fd) (bi2 : Bi M "range") (f1 : DefOk M 1 "_law_mixed" 2 F_mixed) (f2 : DefOk M 2 "_law_figures" 2 F_figs) (f3 : DefOk M 2 "_law_prices" 1 F_prices) : FnOk M.P M.w M.K M.mg M.base (L2.CX M.P M.w) 3 f fd ["_law_cell"] (spD M.K 1 F_prRows) := by
  refine fn_ok G sc_price_rows rfl ?_
  rintro ds P PX - ⟨cell, rfl, hP⟩ X W c
  change DSs X W (_ :: _) [_, _, _, _, _] _ _ _ _ _
  refine dss_mid (fun δ => δ = [.val (.int cell), .acc [], .no, .no, .no]) ?_ ?_
  · wtm_at "pv"
  rintro _ rfl
  refine dss_cons ?_
  refine ds_for c (fun i δ => ∃ rs s2 s3 s4, PlRows rs ∧ rs.length ≤ i ∧ (1 ≤ i → 1 ≤ rs.length) ∧ PrRows rs ∧ δ = [.val (.int cell), .acc (rs.map plRow), s2, s3, s4]) ?_
  wtm_at "pv"
  refine ⟨by omega, by omega, ⟨[], _, _, _, ⟨by simp, by simp, by simp⟩, by simp, by simp, (fun r hr => by simp at hr), rfl⟩, ?_, ?_⟩
  rotate_left
  · rintro δn ⟨rs, s2, s3, s4, wf, h1, h2, h3, rfl⟩
    have hlen : (rangeD 0 (1 + mixed cell 430 % 6).toNat).length = (1 + mixed cell 430 % 6).toNat := by simp [rangeD]
    rw [hlen] at h1 h2
    wtm_at "pv"
    exact hP rs wf (h2 (by omega)) (by omega) h3
  rintro i d δi hd ⟨rs, s2, s3, s4, wf, h1, h2, h3, rfl⟩
  obtain ⟨hi, rfl⟩ := rangeD_get hd
  have hi6 : i < 6 := by omega
  refine ⟨_, _, by wtm_at "pv dg", ?_⟩
  refine dss_set c (fun d => ∃ s : Str, d = .str s ∧ figs s = true) (by wtm_at "pv at") (by wtm_at "pv loc") ?_ ?_
  · wtm_at "pv"
    exact ⟨_, _, rfl, by decide, by decide, fun s hs => ⟨s, rfl, hs⟩⟩
  rintro _ ⟨s, rfl, hs⟩
  refine ⟨_, by wtm_at "pv put", ?_⟩
  refine dss_cons ?_
  refine ds_if ?_
  refine dt_notIn (Ct.u65 c) rfl ?_
  wtm_at "pv"
  refine DF.de (df_lcR2 (Str × D) c (by wtm_at "pv own") (by decide +kernel) (di2_acc c (by wtm_at "pv at") (by wtm_at "pv vis") ?_))
  refine ⟨rs, plRow, (fun r y => y = .str r.1), rfl, by omega, fun z hz => ?_, fun ys hys => ?_⟩
  · refine ⟨_, _, (by wtm_at "pv dg"), (by decide), fun X' c' => ?_⟩
    wtm_at "pv"
  have e : ys = (rs.map (·.1)).map .str := by
    have go : ∀ {xs : List (Str × D)} {ys : List D}, Rels (fun r y => y = D.str r.1) xs ys → ys = (xs.map (·.1)).map .str := by
      intro xs ys h
      induction h with
      | nil => rfl
      | cons a _ ih => rw [a, ih]; rfl
    exact go hys
  subst e
  refine o_notIn_l rfl (by simp [D.fl]) ?_
  rw [inD_str]
  wtm_at "pv"
  · rename_i hnew
    intro ps hl hb
    wtm_at "pv"
    refine ⟨rs ++ [(s, .lst (ps.map .int))], .val (.int (0 + (i : Int))), .val (.str s), s4, wf.add (by omega) hs hnew, by simp; omega, by simp, ?_, by rw [List.map_append]; rfl⟩
    intro r hr
    rcases List.mem_append.mp hr with h | h
    · exact h3 r h
    · rw [List.mem_singleton.mp h]; exact ⟨ps, rfl, hl, hb⟩
  · rename_i hold
    refine ⟨rs, _, _, _, wf, by omega, fun _ => ?_, h3, rfl⟩
    cases rs with
    | nil => simp at hold
    | cons a r => simp
end K82
namespace K82
open PySem PySem.Spec PyProof.Rows L2 PV
theorem cut_list (s : Str) (n : Nat) : (cutS s none (some (n : Int))).cps.toList = s.cps.toList.take n := by
  have hl : s.cps.toList.length = s.length := by simp [Str.length]
  unfold cutS
  simp only [List.toList_toArray]
  rw [HT.sIx_nat]
  show ((s.cps.toList.drop 0).take (min n _ - 0)) = _
  rw [List.drop_zero, Nat.sub_zero]
  by_cases h : n ≤ s.length
  · rw [Nat.min_eq_left (by omega)]
  · rw [Nat.min_eq_right (by omega), List.take_of_length_le (by omega), List.take_of_length_le (by omega)]
theorem len_list (s : Str) : s.cps.toList.length = s.length := by simp [Str.length]
theorem cut_len (s : Str) (n : Nat) : (cutS s none (some (n : Int))).length = min n s.length := by
  rw [← len_list, cut_list, List.length_take, len_list]
/-- t is a beginning of s -/
def pre (t s : Str) : Prop := cutS s none (some ((t.length : Nat) : Int)) = t
instance (t s : Str) : Decidable (pre t s) := inferInstanceAs (Decidable (_ = _))
def IsLong (rs : List (Str × D)) (s : Str) : Option Str → Prop
  | none => ∀ r ∈ rs, ¬ pre r.1 s
  | some t => (∃ r ∈ rs, r.1 = t) ∧ pre t s ∧ ∀ r ∈ rs, pre r.1 s → r.1.length ≤ t.length
theorem IsLong.uniq {rs : List (Str × D)} {s : Str} : ∀ {o o' : Option Str}, IsLong rs s o → IsLong rs s o' → o = o'
  | none, none, _, _ => rfl
  | none, some t, h, ⟨⟨r, hr, e⟩, h2, _⟩ => (h r hr (by rw [e]; exact h2)).elim
  | some t, none, ⟨⟨r, hr, e⟩, h2, _⟩, h => (h r hr (by rw [e]; exact h2)).elim
  | some t, some t', ⟨⟨r, hr, e⟩, h2, h3⟩, ⟨⟨r', hr', e'⟩, h2', h3'⟩ => by
    have l1 := h3 r' hr' (by rw [e']; exact h2')
    have l2 := h3' r hr (by rw [e]; exact h2)
    rw [e'] at l1
    rw [e] at l2
    have hl : t.length = t'.length := by omega
    have : t = t' := by
      unfold pre at h2 h2'
      rw [hl] at h2
      exact h2.symm.trans h2'
    rw [this]
theorem pre_len {t s : Str} (h : pre t s) : t.length ≤ s.length := by
  have := cut_len s t.length
  unfold pre at h
  rw [h] at this
  omega
theorem long_is {rs : List (Str × D)} {s : Str} (hp : ∀ r ∈ rs, 1 ≤ r.1.length) : ∀ n : Nat, n ≤ s.length → match longN rs s n with
    | none => ∀ r ∈ rs, r.1.length ≤ n → ¬ pre r.1 s
    | some t => (∃ r ∈ rs, r.1 = t) ∧ pre t s ∧ ∀ r ∈ rs, r.1.length ≤ n → pre r.1 s → r.1.length ≤ t.length
  | 0, _ => fun r hr h => by have := hp r hr; omega
  | n + 1, hn => by
    have ih := long_is (s := s) hp n (by omega)
    unfold longN
    by_cases hc : (rs.map (·.1)).contains (cutS s none (some ((n + 1 : Nat) : Int))) = true
    · rw [if_pos hc]
      obtain ⟨r, hr, e⟩ := List.mem_map.mp (List.contains_iff_mem.mp hc)
      have hl : (cutS s none (some ((n + 1 : Nat) : Int))).length = n + 1 := by rw [cut_len]; omega
      refine ⟨⟨r, hr, e⟩, ?_, fun r' hr' h1 h2 => Nat.le_trans h1 (Nat.le_of_eq hl.symm)⟩
      show cutS s none (some (((cutS s none (some ((n + 1 : Nat) : Int))).length : Nat) : Int)) = _
      rw [hl]
    · rw [if_neg hc]
      have no : ∀ r ∈ rs, pre r.1 s → r.1.length ≠ n + 1 := fun r hr h e => hc (List.contains_iff_mem.mpr (List.mem_map.mpr ⟨r, hr, by
        show r.1 = _
        rw [← e]; exact h.symm⟩))
      cases hl : longN rs s n with
      | none =>
        rw [hl] at ih
        intro r hr h1 h2
        have := no r hr h2
        exact ih r hr (by omega) h2
      | some t =>
        rw [hl] at ih
        refine ⟨ih.1, ih.2.1, fun r hr h1 h2 => ?_⟩
        have := no r hr h2
        exact ih.2.2 r hr (by omega) h2
theorem long_ok {rs : List (Str × D)} {s : Str} (wf : PlRows rs) : IsLong rs s (longN rs s s.length) := by
  have h := long_is (rs := rs) (s := s) (fun r hr => (figs_len (wf.fig r hr)).1) s.length (Nat.le_refl _)
  cases hl : longN rs s s.length with
  | none =>
    rw [hl] at h
    exact fun r hr hp => h r hr (pre_len hp) hp
  | some t =>
    rw [hl] at h
    exact ⟨h.1, h.2.1, fun r hr hp => h.2.2 r hr (pre_len hp) hp⟩
theorem getK_mem {rs : List (Str × D)} {t : Str} (h : ∃ r ∈ rs, r.1 = t) : ∃ r ∈ rs, r.1 = t ∧ getK (thK rs) (.inr t) = some r.2 := by
  obtain ⟨r, hr, e⟩ := h
  have hs : (getK (thK rs) (.inr t)).isSome = true := by
    rw [getK_th]
    exact List.contains_iff_mem.mpr (List.mem_map.mpr ⟨r, hr, e⟩)
  cases hg : getK (thK rs) (.inr t) with
  | none => rw [hg] at hs; cases hs
  | some d =>
    unfold getK at hg
    rw [Option.map_eq_some_iff] at hg
    obtain ⟨kv, h1, h2⟩ := hg
    have hm := List.mem_of_find?_eq_some h1
    have hk : kv.1 = .inr t := by simpa using List.find?_some h1
    obtain ⟨r', hr', rfl⟩ := List.mem_map.mp hm
    exact ⟨r', hr', Sum.inr.inj hk, by rw [← h2]⟩
/-- the longest beginning, its thing, what is left -/
def foundD (rs : List (Str × D)) (s : Str) : Option Str → D
  | none => .non
  | some t => .tup [.str t, (getK (thK rs) (.inr t)).getD .non, .str (cutS s (some ((t.length : Nat) : Int)) none)]
def F_found (C : Addr) : Phi := fun ds P _ => ∃ rs ws s, ds = [planD C rs ws, .str s] ∧ PlRows rs ∧ s.length ≤ 1000 ∧ P (foundD rs s (longN rs s s.length))
local macro_rules | `(tactic| wtm_at "pv ex") => `(tactic| ((with_reducible show F_longest _ _ _ _); refine ⟨_, _, _, rfl, by wtm_at "pv len", ?_⟩))
local macro_rules | `(tactic| wtm_at "pv de") => `(tactic| ((with_reducible show DE _ _ (Expr.Subscript (Expr.Attribute _ _ _) _ _) _ _ _); refine de_dget (by with_reducible assumption) ?_))
local macro_rules | `(tactic| wtm_at "pv ex") => `(tactic| ((with_reducible show DK _ _ _ _ _ _); refine dk_of ?_))
theorem ok_found {M : Md} {f C : Addr} {fd : FuncData} (G : Fun M.K "found" "Plan.found" s_Plan_found f fd) (T : PT M C) (bi1 : Bi M "len") (f1 : MethOk M C 1 "longest" 2 (F_longest C)) : FnOk M.P M.w M.K M.mg M.base (L2.CX M.P M.w) 2 f fd ["self", "number"] (spD M.K 2 (F_found C)) := by
  refine fn_ok G sc_Plan_found rfl ?_
  rintro ds P PX - ⟨rs, ws, s, rfl, wf, hs, hP⟩ X W c
  change DSs X W (_ :: _) [_, _, _] _ _ _ _ _
  obtain ⟨cl, nt, nw⟩ := T
  have hl := long_ok wf (s := s)
  refine dss_set c (fun d => d = optD (longN rs s s.length)) (by wtm_at "pv at") (by wtm_at "pv loc") ?_ ?_
  · wtm_at "pv"
  rintro _ rfl
  refine ⟨_, by wtm_at "pv put", ?_⟩
  generalize longN rs s s.length = o at *
  cases o with
  | none =>
    show DSs X W _ [_, _, .val .non] _ _ _ _ _
    wtm_at "pv"
    exact hP
  | some t =>
    show DSs X W _ [_, _, .val (.str t)] _ _ _ _ _
    obtain ⟨r, hr, e, hg⟩ := getK_mem hl.1
    have hz := pre_len hl.2.1
    wtm_at "pv"
    refine ⟨.inr t, r.2, rfl, hg, ?_⟩
    wtm_at "pv"
    have e2 : foundD rs s (some t) = .tup [.str t, r.2, .str (cutS s (some ((t.length : Nat) : Int)) none)] := by
      show D.tup [.str t, (getK (thK rs) (.inr t)).getD .non, _] = _
      rw [hg]; rfl
    rw [e2] at hP
    exact hP
end K82
namespace K82
open PySem PySem.Spec PyProof.Rows L2 PV
/-! ### what an account costs -/
/-- the prices of a number -/
def prD (rs : List (Str × D)) (s : Str) : D := match longN rs s s.length with
  | none => .non
  | some t => (getK (thK rs) (.inr t)).getD .non
def F_pof (C CP : Addr) : Phi := fun ds P _ => ∃ b rs ws s, ds = [tarD C b (planD CP rs ws), .str s] ∧ PlRows rs ∧ s.length ≤ 1000 ∧ P (prD rs s)
local macro_rules | `(tactic| wtm_at "pv ex") => `(tactic| ((with_reducible show F_found _ _ _ _); refine ⟨_, _, _, rfl, by with_reducible assumption, by omega, ?_⟩))
theorem ok_pof {M : Md} {f C CP : Addr} {fd : FuncData} (G : Fun M.K "prices_of" "Tariff.prices_of" s_Tariff_prices_of f fd) (T : TT M C) (T2 : PT M CP) (f1 : MethOk M CP 2 "found" 2 (F_found CP)) : FnOk M.P M.w M.K M.mg M.base (L2.CX M.P M.w) 3 f fd ["self", "number"] (spD M.K 2 (F_pof C CP)) := by
  refine fn_ok G sc_Tariff_prices_of rfl ?_
  rintro ds P PX - ⟨b, rs, ws, s, rfl, wf, hs, hP⟩ X W c
  change DSs X W (_ :: _) [_, _, _] _ _ _ _ _
  obtain ⟨cl, nb, np⟩ := T
  have cl2 := T2.cl
  refine dss_set c (fun d => d = foundD rs s (longN rs s s.length)) (by wtm_at "pv at") (by wtm_at "pv loc") ?_ ?_
  · wtm_at "pv"
  rintro _ rfl
  refine ⟨_, by wtm_at "pv put", ?_⟩
  unfold prD at hP
  generalize longN rs s s.length = o at *
  cases o with
  | none =>
    show DSs X W _ [_, _, .val .non] _ _ _ _ _
    wtm_at "pv"
    exact hP
  | some t =>
    show DSs X W _ [_, _, .val (.tup [.str t, (getK (thK rs) (.inr t)).getD .non, .str (cutS s (some ((t.length : Nat) : Int)) none)])] _ _ _ _ _
    wtm_at "pv"
    exact hP
theorem prD_is {rs : List (Str × D)} (wf : PlRows rs) (pr : PrRows rs) (s : Str) : prD rs s = .non ∨ ∃ ps : List Int, prD rs s = .lst (ps.map .int) ∧ ps.length = 10 ∧ ∀ p ∈ ps, 0 ≤ p ∧ p ≤ 1000000000 := by
  unfold prD
  have hl := long_ok wf (s := s)
  generalize longN rs s s.length = o at *
  cases o with
  | none => exact .inl rfl
  | some t =>
    obtain ⟨r, hr, e, hg⟩ := getK_mem hl.1
    obtain ⟨ps, h1, h2, h3⟩ := pr r hr
    refine .inr ⟨ps, ?_, h2, h3⟩
    show (getK (thK rs) (.inr t)).getD .non = _
    rw [hg, ← h1]; rfl
def intOf : D → Int
  | .int i => i
  | _ => 0
/-- what seconds of a number cost -/
def priceF (bs : List (Int × Int)) (ls : List Int) (rs : List (Str × D)) (s : Str) (x y : Int) : Int := match prD rs s with
  | .lst ps => costF (secF bs ls x y) (ps.map intOf)
  | _ => 0
theorem price_none {bs : List (Int × Int)} {ls : List Int} {rs : List (Str × D)} {s : Str} {x y : Int} (h : prD rs s = .non) : priceF bs ls rs s x y = 0 := by unfold priceF; rw [h]
theorem price_some {bs : List (Int × Int)} {ls : List Int} {rs : List (Str × D)} {s : Str} {x y : Int} {ps : List Int} (h : prD rs s = .lst (ps.map .int)) : priceF bs ls rs s x y = costF (secF bs ls x y) ps := by
  unfold priceF
  rw [h]
  show costF _ ((ps.map D.int).map intOf) = _
  rw [List.map_map]
  have e : (intOf ∘ D.int) = id := rfl
  rw [e, List.map_id]
theorem span_of {x y : Int} (h0 : 0 ≤ x) (h1 : x ≤ y) (h2 : y ≤ 1000000000000000) : span (.int x) (.int y) = some (x, y) := by
  have a : isTime (.int x) = true := by unfold isTime btw; simp; omega
  have b : isTime (.int y) = true := by unfold isTime btw; simp; omega
  simp only [span]
  simp [isTime, btw] at *
  omega
/-- the data of a tariff -/
structure TarOk (bs : List (Int × Int)) (ls : List Int) (rs : List (Str × D)) : Prop where
  b : WfRows bs
  l : WfLow ls
  p : PlRows rs
  r : PrRows rs
abbrev tarV (C CB CP : Addr) (bs : List (Int × Int)) (ls : List Int) (rs : List (Str × D)) (ws : List (Key × D)) : D := tarD C (bandsD CB bs ls) (planD CP rs ws)
def F_price (C CB CP : Addr) : Phi := fun ds P _ => ∃ bs ls rs ws p s x y, ds = [tarV C CB CP bs ls rs ws, .tup [p, .str s, .int x, .int y]] ∧ TarOk bs ls rs ∧ s.length ≤ 1000 ∧ 0 ≤ x ∧ x ≤ y ∧ y ≤ 1000000000000000 ∧ P (.int (priceF bs ls rs s x y))
theorem ok_price {M : Md} {f C CB CP CT CQ : Addr} {fd : FuncData} (G : Fun M.K "price" "Tariff.price" s_Tariff_price f fd) (T : TT M C) (T2 : BT M CB) (f1 : MethOk M C 3 "prices_of" 2 (F_pof C CP)) (f2 : MethOk M CB 4 "cost" 4 (F_cost CB CT CQ)) : FnOk M.P M.w M.K M.mg M.base (L2.CX M.P M.w) 5 f fd ["self", "account"] (spD M.K 2 (F_price C CB CP)) := by
  refine fn_ok G sc_Tariff_price rfl ?_
  rintro ds P PX - ⟨bs, ls, rs, ws, p, s, x, y, rfl, ok, hs, h0, h1, h2, hP⟩ X W c
  change DSs X W (_ :: _) [_, _, _, _, _, _, _] _ _ _ _ _
  obtain ⟨cl, nb, np⟩ := T
  have cl2 := T2.cl
  refine dss_mid (fun δ => δ = [.val (tarV C CB CP bs ls rs ws), .val (.tup [p, .str s, .int x, .int y]), .val p, .val (.str s), .val (.int x), .val (.int y), .no]) ?_ ?_
  · wtm_at "pv"
  rintro _ rfl
  refine dss_set c (fun d => d = prD rs s) (by wtm_at "pv at") (by wtm_at "pv loc") ?_ ?_
  · wtm_at "pv"
    exact ⟨_, rs, ws, s, rfl, ok.p, hs, rfl⟩
  rintro _ rfl
  refine ⟨_, by wtm_at "pv put", ?_⟩
  rcases prD_is ok.p ok.r s with h | ⟨ps, h, hl, hb⟩
  · rw [price_none h] at hP
    rw [h]
    wtm_at "pv"
    exact hP
  · rw [price_some h] at hP
    rw [h]
    have pk : isPrices (.lst (ps.map .int)) = true := by
      show (decide ((ps.map D.int).length = 10) && _) = true
      rw [List.length_map, decide_eq_true hl, Bool.true_and, List.all_eq_true]
      intro z hz
      obtain ⟨i, hi, rfl⟩ := List.mem_map.mp hz
      have := hb i hi
      show (decide (0 ≤ i) && decide (i ≤ 1000000000)) = true
      rw [decide_eq_true this.1, decide_eq_true this.2]; rfl
    wtm_at "pv"
    refine ⟨bs, ls, .int x, .int y, .lst (ps.map .int), rfl, ok.b, ok.l, rfl, rfl, ⟨rfl, fun xs e => ?_⟩, (fun z => by rw [pk] at z; cases z), (fun _ z => by rw [span_of h0 h1 h2] at z; cases z), fun b e qs he hq _ _ => ?_⟩
    · cases e
      exact ⟨by rw [List.length_map]; omega, fun z hz => by obtain ⟨i, _, rfl⟩ := List.mem_map.mp hz; rfl⟩
    · rw [span_of h0 h1 h2] at he
      cases he
      have : qs = ps := by
        have e2 := D.lst.inj hq
        have := congrArg (List.map intOf) e2
        rw [List.map_map, List.map_map] at this
        have e : (intOf ∘ D.int) = id := rfl
        rw [e, List.map_id, List.map_id] at this
        exact this.symm
      rw [this]
      exact hP
end K82
namespace K82
open PySem PySem.Spec PyProof.Rows L2 PV
local macro_rules | `(tactic| wtm_at "pv hs") => `(tactic| (with_reducible (first | exact Hs.z | (apply Hs.s; wtm_at "pv hs") | fail)))
local macro_rules | `(tactic| wtm_at "pv hput") => `(tactic| (with_reducible (first | exact Hput.z | (apply Hput.s; wtm_at "pv hput") | fail)))
local macro_rules | `(tactic| wtm_at "pv cin") => `(tactic| (with_reducible (first | exact Cin.z | (apply Cin.s; wtm_at "pv cin") | fail)))
/-! ### the law's own look for the longest beginning: rows sorted by how long they are -/
abbrev lamQ : Str := ("_law_prices_of" : Str) ++ ".<locals>." ++ "<lambda>"
def lastIn (s : Str) (l : List (Str × D)) : Option (Str × D) := (l.filter fun r => decide (pre r.1 s)).getLast?
def thingO : Option (Str × D) → D
  | none => .non
  | some r => r.2
theorem lastIn_next {s : Str} {l : List (Str × D)} {i : Nat} (h : i < l.length) : lastIn s (l.take (i + 1)) = if pre l[i].1 s then some l[i] else lastIn s (l.take i) := by
  have e : l.take (i + 1) = l.take i ++ [l[i]] := by simp
  unfold lastIn
  rw [e, List.filter_append]
  by_cases hp : pre l[i].1 s
  · rw [if_pos hp, List.filter_cons_of_pos (by simpa using hp)]
    simp
  · rw [if_neg hp, List.filter_cons_of_neg (by simpa using hp)]
    simp
theorem fst_inj : ∀ {rs : List (Str × D)} {a b : Str × D}, (rs.map (·.1)).Nodup → a ∈ rs → b ∈ rs → a.1 = b.1 → a = b
  | x :: xs, a, b, nd, ha, hb, e => by
    rw [List.map_cons, List.nodup_cons] at nd
    obtain ⟨n1, n2⟩ := nd
    rcases List.mem_cons.mp ha with h1 | h1
    · rcases List.mem_cons.mp hb with h2 | h2
      · rw [h1, h2]
      · exact (n1 (List.mem_map.mpr ⟨b, h2, by rw [← e, h1]⟩)).elim
    · rcases List.mem_cons.mp hb with h2 | h2
      · exact (n1 (List.mem_map.mpr ⟨a, h1, by rw [e, h2]⟩)).elim
      · exact fst_inj n2 h1 h2 e
theorem last_long {rs rs' : List (Str × D)} {s : Str} (wf : PlRows rs) (hp : rs'.Perm rs) (hs : rs'.Pairwise fun a b => a.1.length ≤ b.1.length) : thingO (lastIn s rs') = prD rs s := by
  have lo := long_ok wf (s := s)
  unfold prD
  cases hl : lastIn s rs' with
  | none =>
    unfold lastIn at hl
    rw [List.getLast?_eq_none_iff, List.filter_eq_nil_iff] at hl
    have : IsLong rs s none := fun r hr h => hl r (hp.mem_iff.mpr hr) (decide_eq_true h)
    rw [IsLong.uniq lo this]
    rfl
  | some r =>
    unfold lastIn at hl
    obtain ⟨l, e⟩ : ∃ l, (rs'.filter fun r => decide (pre r.1 s)) = l ++ [r] := by
      have hne : (rs'.filter fun r => decide (pre r.1 s)) ≠ [] := fun z => by rw [z] at hl; cases hl
      have h2 := List.dropLast_concat_getLast hne
      rw [List.getLast?_eq_getLast hne] at hl
      rw [Option.some.inj hl] at h2
      exact ⟨_, h2.symm⟩
    have hr : r ∈ rs' ∧ pre r.1 s := by
      have : r ∈ rs'.filter fun r => decide (pre r.1 s) := by rw [e]; simp
      rw [List.mem_filter, decide_eq_true_eq] at this
      exact this
    have pw : (l ++ [r]).Pairwise fun a b : Str × D => a.1.length ≤ b.1.length := by
      rw [← e]
      exact hs.filter _
    rw [List.pairwise_append] at pw
    have big : ∀ z ∈ rs, pre z.1 s → z.1.length ≤ r.1.length := fun z hz h => by
      have : z ∈ l ++ [r] := by
        rw [← e, List.mem_filter]
        exact ⟨hp.mem_iff.mpr hz, decide_eq_true h⟩
      rcases List.mem_append.mp this with h2 | h2
      · exact pw.2.2 z h2 r (List.mem_singleton.mpr rfl)
      · rw [List.mem_singleton.mp h2]
        exact Nat.le_refl _
    have hrs : r ∈ rs := hp.mem_iff.mp hr.1
    have : IsLong rs s (some r.1) := ⟨⟨r, hrs, rfl⟩, hr.2, big⟩
    rw [IsLong.uniq lo this]
    obtain ⟨r2, h2, e2, hg⟩ := getK_mem (rs := rs) (t := r.1) ⟨r, hrs, rfl⟩
    have e3 : r2 = r := fst_inj wf.nd h2 hrs e2
    show r.2 = (getK (thK rs) (.inr r.1)).getD .non
    rw [hg, e3]
    rfl
def unRow : D → Str × D
  | .tup [.str s, d] => (s, d)
  | _ => (Str.empty, .non)
theorem perm_rows {rs : List (Str × D)} {ds : List D} (h : ds.Perm (rs.map plRow)) (hs : ds.Pairwise fun a b => len0 a ≤ len0 b) : ∃ rs' : List (Str × D), ds = rs'.map plRow ∧ rs'.Perm rs ∧ rs'.Pairwise fun a b => a.1.length ≤ b.1.length := by
  have e1 : (rs.map plRow).map unRow = rs := by
    rw [List.map_map]
    exact List.map_id'' (fun _ => rfl) rs
  have e2 : (ds.map unRow).map plRow = ds := by
    rw [List.map_map]
    refine (List.map_congr_left fun z hz => ?_).trans (List.map_id ds)
    obtain ⟨r, _, rfl⟩ := List.mem_map.mp (h.mem_iff.mp hz)
    rfl
  refine ⟨ds.map unRow, e2.symm, ?_, ?_⟩
  · have := h.map unRow
    rwa [e1] at this
  · rw [← e2, List.pairwise_map] at hs
    exact hs
theorem str_ext {a b : Str} (h : a.cps.toList = b.cps.toList) : a = b := by
  cases a
  cases b
  congr 1
  exact Array.toList_inj.mp h
theorem starts_pre (s t : Str) : Txt.startswith s t = decide (pre t s) := by
  unfold Txt.startswith
  rw [StrLaws.subAt_eq]
  by_cases h : pre t s
  · have h1 := pre_len h
    have h2 := congrArg (fun z : Str => z.cps.toList) h
    rw [cut_list] at h2
    rw [decide_eq_true h, Bool.and_eq_true, decide_eq_true_eq, beq_iff_eq]
    exact ⟨by omega, h2⟩
  · rw [decide_eq_false h, Bool.and_eq_false_iff, decide_eq_false_iff_not, beq_eq_false_iff_ne]
    refine .inr fun z => h ?_
    have z2 : s.cps.toList.take t.length = t.cps.toList := z
    rw [← cut_list] at z2
    exact str_ext z2
def F_lpof (tb : Addr) : PhiC := fun ds lk cs P _ => ∃ rs s, ds = [.lst (rs.map plRow), .str s] ∧ PlRows rs ∧ s.length ≤ 1000 ∧ lk = [] ∧ cs = [(tb, .tbl lamQ)] ∧ P (prD rs s) [(tb, .tbl lamQ)]
theorem ok_lpof {M : Md} {f co tb : Addr} {fd : FuncData} (G : Fun M.K "_law_prices_of" "_law_prices_of" s_prices_of f fd) (hcd : fd.code = .ref co) (B : LamX.TabB M.base M.mg co tb) (bi1 : Bi M "sorted") (bi2 : Bi M "len") : FnOk M.P M.w M.K M.mg M.base (L2.CX M.P M.w) 3 f fd ["_law_rows_here", "_law_number"] (spC M.K 2 (F_lpof tb)) := by
  refine fn_okK G sc_prices_of rfl ?_
  rintro ds lk cs P PX - ⟨rs, s, rfl, wf, hs, rfl, rfl, hP⟩ X W c fb ⟨hc1, hc2⟩
  change DSs X W (_ :: _) [_, _, _, _, _, _, _] _ _ _ _ _
  have hle := wf.le
  refine dss_set c (fun d => d = .non) (by wtm_at "pv at") (by wtm_at "pv loc") ?_ ?_
  · wtm_at "pv"
  rintro _ rfl
  refine ⟨_, by wtm_at "pv put", ?_⟩
  refine dss_cons ?_
  refine ds_forE c (dix_list ?_)
  refine dx_sortedLen c (by wtm_at "pv gl") bi1 bi2 B (hc1.trans hcd) (j0 := 6) (cs := [(tb, .tbl lamQ)]) ?_ ?_ ?_
  · wtm_at "pv hs"
  · rw [hc2]
    wtm_at "pv cin"
  · wtm_at "pv"
    refine ⟨?_, ?_⟩
    · intro z hz
      obtain ⟨r, hr, rfl⟩ := List.mem_map.mp hz
      obtain ⟨l1, l2⟩ := figs_len (wf.fig r hr)
      exact ⟨r.1, [r.2], rfl, by omega⟩
    intro ds' h1 h2
    obtain ⟨rs', rfl, hp, hs'⟩ := perm_rows h1 h2
    have fin := last_long wf hp hs' (s := s)
    refine ⟨_, rfl, fun i δ => ∃ a b, δ = [.val (.lst (rs.map plRow)), .val (.str s), .val (thingO (lastIn s (rs'.take i))), a, b, .look [], .heap [(tb, .tbl lamQ)]], ⟨_, _, rfl⟩, fun i d δi hd => ?_, ?_⟩
    · rintro ⟨a, b, rfl⟩
      rw [List.getElem?_map] at hd
      obtain ⟨r, hr, rfl⟩ := Option.map_eq_some_iff.mp hd
      obtain ⟨hi, hr⟩ := List.getElem?_eq_some_iff.mp hr
      subst hr
      obtain ⟨l1, l2⟩ := figs_len (wf.fig _ (hp.mem_iff.mp (List.getElem_mem hi)))
      have nx := lastIn_next (s := s) hi
      refine ⟨_, _, by wtm_at "pv dg", ?_⟩
      by_cases hpr : pre rs'[i].1 s
      · rw [if_pos hpr] at nx
        wtm_at "pv"
        all_goals (rename_i hw; rw [starts_pre] at hw)
        · exact ⟨_, _, by rw [nx]; rfl⟩
        · rw [decide_eq_true hpr] at hw; cases hw
      · rw [if_neg hpr] at nx
        wtm_at "pv"
        all_goals (rename_i hw; rw [starts_pre] at hw)
        · rw [decide_eq_false hpr] at hw; cases hw
        · exact ⟨_, _, by rw [nx]⟩
    · rintro _ ⟨a, b, rfl⟩
      rw [List.length_map, List.take_length, fin]
      wtm_at "pv"
      exact ⟨_, _, by wtm_at "pv hs", hP⟩
end K82
namespace K82
open PySem PySem.Spec PyProof.Rows L2 PV
/-! ### the plain law -/
theorem segs_one (r : Int × Int) : segs [r] = [(r, 86400)] := rfl
theorem segs_two (r s : Int × Int) (t : List (Int × Int)) : segs (r :: s :: t) = (r, s.1) :: segs (s :: t) := by
  show (r :: s :: t).zip (endsF (r :: s :: t)) = _
  have e : endsF (r :: s :: t) = s.1 :: endsF (s :: t) := by simp [endsF]
  rw [e, List.zip_cons_cons]
theorem segs_bnd : ∀ {rs : List (Int × Int)}, rs.Pairwise (fun a b => a.1 < b.1) → (∀ r ∈ rs, 0 ≤ r.1 ∧ r.1 ≤ 86399 ∧ 0 ≤ r.2 ∧ r.2 ≤ 9) → ∀ z ∈ segs rs, 0 ≤ z.1.1 ∧ z.1.1 < z.2 ∧ z.2 ≤ 86400 ∧ 0 ≤ z.1.2 ∧ z.1.2 ≤ 9
  | [], _, _, z, hz => by simp [segs] at hz
  | [r], _, hb, z, hz => by
    rw [segs_one] at hz
    have e : z = (r, 86400) := by simpa using hz
    subst e
    have := hb r (by simp)
    simp only
    omega
  | r :: s :: t, hp, hb, z, hz => by
    rw [segs_two] at hz
    obtain ⟨h1, h2⟩ := List.pairwise_cons.mp hp
    rcases List.mem_cons.mp hz with rfl | hz
    · have a := hb r (by simp)
      have b := hb s (by simp)
      have := h1 s (by simp)
      simp only
      omega
    · exact segs_bnd h2 (fun x hx => hb x (List.mem_cons_of_mem _ hx)) z hz
theorem ov_sum {sec : Int} (h0 : sec ≤ 86400) : ∀ {rs : List (Int × Int)} (r : Int × Int), (r :: rs).Pairwise (fun a b => a.1 < b.1) → ((segs (r :: rs)).map fun z => ov sec z.1.1 z.2).sum = if r.1 < sec then sec - r.1 else 0
  | [], r, _ => by
    rw [segs_one]
    simp only [List.map_cons, List.map_nil, List.sum_cons, List.sum_nil, ov]
    repeat' split
    all_goals omega
  | s :: t, r, hp => by
    obtain ⟨h1, h2⟩ := List.pairwise_cons.mp hp
    rw [segs_two, List.map_cons, List.sum_cons, ov_sum h0 s h2]
    have := h1 s (by simp)
    simp only [ov]
    repeat' split
    all_goals omega
theorem ov_all {rs : List (Int × Int)} (wf : WfRows rs) {sec : Int} (h0 : 0 ≤ sec) (h1 : sec ≤ 86400) : ((segs rs).map fun z => ov sec z.1.1 z.2).sum = sec := by
  cases rs with
  | nil => exact absurd rfl wf.ne
  | cons r t =>
    have hr := wf.first r t rfl
    rw [ov_sum h1 r wf.rise, hr]
    split <;> omega
theorem ov_day {b e : Int} (h0 : b < e) (h1 : e ≤ 86400) : ov 86400 b e = e - b := by
  unfold ov
  repeat' split
  all_goals omega
theorem ov_zero {b e : Int} (h0 : 0 ≤ b) (h1 : b < e) : ov 0 b e = 0 := by
  unfold ov
  repeat' split
  all_goals omega
theorem sum_lin {α : Type} (xs : List α) (f g : α → Int) (a b : Int) : (xs.map fun x => a * f x + b * g x).sum = a * (xs.map f).sum + b * (xs.map g).sum := by
  induction xs with
  | nil => simp
  | cons x r ih =>
    simp only [List.map_cons, List.sum_cons, ih, Int.mul_add]
    omega
theorem sum_zero {α : Type} (xs : List α) (f : α → Int) (h : ∀ x ∈ xs, f x = 0) : (xs.map f).sum = 0 := by
  induction xs with
  | nil => rfl
  | cons x r ih => rw [List.map_cons, List.sum_cons, h x (by simp), ih fun y hy => h y (List.mem_cons_of_mem _ hy)]; rfl
theorem sum_cong {α : Type} {xs : List α} {f g : α → Int} (h : ∀ x ∈ xs, f x = g x) : (xs.map f).sum = (xs.map g).sum := congrArg List.sum (List.map_congr_left h)
/-- the law's own reckoning, of one weekday -/
theorem pick_sum (d : Int) (g : Nat → Int) (h0 : 0 ≤ d) (h1 : d < 7) : ((List.range 7).map fun (wd : Nat) => (if d = (wd : Int) then 1 else 0) * g wd).sum = g d.toNat := by
  obtain ⟨n, rfl⟩ : ∃ n : Nat, d = n := ⟨d.toNat, by omega⟩
  have hn : n < 7 := by omega
  have h : n = 0 ∨ n = 1 ∨ n = 2 ∨ n = 3 ∨ n = 4 ∨ n = 5 ∨ n = 6 := by omega
  rcases h with rfl | rfl | rfl | rfl | rfl | rfl | rfl <;> simp [List.range_succ]
theorem ahead_zero {rs : List (Int × Int)} {ls : List Int} (wf : WfRows rs) (c : Nat) : aheadP rs ls 0 c = 0 := by
  have hb := segs_bnd wf.rise wf.bnd
  have e1 : ∀ wd, dayF rs ls wd 0 c = 0 := fun wd => by
    unfold dayF
    split
    · split <;> rfl
    · refine sum_zero _ _ fun z hz => ?_
      rw [ov_zero (hb z hz).1 (hb z hz).2.1]
      split <;> rfl
  have e2 : ((List.range 7).map fun i => wks 0 i * dayF rs ls i 86400 c).sum = 0 := sum_zero _ _ fun i hi => by
    have : wks 0 i = 0 := by unfold wks; split <;> omega
    rw [this, Int.zero_mul]
  unfold aheadP
  rw [e2]
  show dayF rs ls _ 0 c + 0 = 0
  rw [e1]; rfl
theorem tab_sum_lin (f g : Nat → Int) (a b : Int) : (tab fun c => a * f c + b * g c).sum = a * (tab f).sum + b * (tab g).sum := sum_lin _ _ _ _ _
theorem tab_sum_if (k x : Int) (h0 : 0 ≤ k) (h1 : k ≤ 9) : (tab fun c => if k = (c : Int) then x else 0).sum = x := by
  obtain ⟨n, rfl⟩ : ∃ n : Nat, k = n := ⟨k.toNat, by omega⟩
  have h : n = 0 ∨ n = 1 ∨ n = 2 ∨ n = 3 ∨ n = 4 ∨ n = 5 ∨ n = 6 ∨ n = 7 ∨ n = 8 ∨ n = 9 := by omega
  rcases h with rfl | rfl | rfl | rfl | rfl | rfl | rfl | rfl | rfl | rfl <;> simp [tab, List.range_succ]
theorem tab_sum_sum {α : Type} (xs : List α) (k x : α → Int) (h : ∀ z ∈ xs, 0 ≤ k z ∧ k z ≤ 9) : (tab fun c => (xs.map fun z => if k z = (c : Int) then x z else 0).sum).sum = (xs.map x).sum := by
  induction xs with
  | nil => rfl
  | cons a r ih =>
    have e := tab_sum_lin (fun c => if k a = (c : Int) then x a else 0) (fun c => (r.map fun z => if k z = (c : Int) then x z else 0).sum) 1 1
    simp only [Int.one_mul] at e
    simp only [List.map_cons, List.sum_cons]
    rw [e, ih fun z hz => h z (List.mem_cons_of_mem _ hz), tab_sum_if _ _ (h a (by simp)).1 (h a (by simp)).2]
theorem day_sum {rs : List (Int × Int)} {ls : List Int} (wf : WfRows rs) (wd : Int) {sec : Int} (h0 : 0 ≤ sec) (h1 : sec ≤ 86400) : (tab (dayF rs ls wd sec)).sum = sec := by
  have hb := segs_bnd wf.rise wf.bnd
  by_cases hl : ls.contains wd = true
  · have e : tab (dayF rs ls wd sec) = tab fun c => if c = 0 then sec else 0 := tab_cong fun c _ => by unfold dayF; rw [if_pos hl]
    rw [e]
    simp [tab, List.range_succ]
  · have e : tab (dayF rs ls wd sec) = tab (dayS rs sec) := tab_cong fun c _ => by unfold dayF; rw [if_neg hl]
    rw [e]
    unfold dayS
    rw [tab_sum_sum (segs rs) (fun z => z.1.2) (fun z => ov sec z.1.1 z.2) fun z hz => (hb z hz).2.2.2, ov_all wf h0 h1]
theorem ahead_sum {rs : List (Int × Int)} {ls : List Int} (wf : WfRows rs) {t : Int} (h0 : 0 ≤ t) : (tab (aheadP rs ls t)).sum = t := by
  have e1 : ∀ n : Nat, (tab fun c => ((List.range n).map fun i => wks t i * dayF rs ls i 86400 c).sum).sum = ((List.range n).map fun i => wks t i * 86400).sum := by
    intro n
    induction n with
    | zero => rfl
    | succ n ih =>
      have e := tab_sum_lin (fun c => ((List.range n).map fun i => wks t i * dayF rs ls i 86400 c).sum) (fun c => dayF rs ls n 86400 c) 1 (wks t n)
      simp only [Int.one_mul] at e
      have e3 : (tab fun c => ((List.range (n + 1)).map fun i => wks t i * dayF rs ls i 86400 c).sum) = tab fun c => ((List.range n).map fun i => wks t i * dayF rs ls i 86400 c).sum + wks t n * dayF rs ls n 86400 c := tab_cong fun c _ => rsum_succ _ _
      rw [e3, e, ih, rsum_succ, day_sum wf n (by decide) (by decide)]
  have e := tab_sum_lin (dayF rs ls (t / 86400 % 7) (t % 86400)) (fun c => ((List.range 7).map fun i => wks t i * dayF rs ls i 86400 c).sum) 1 1
  simp only [Int.one_mul] at e
  show (tab fun c => aheadP rs ls t c).sum = t
  unfold aheadP
  rw [e, e1, day_sum wf _ (by omega) (by omega)]
  simp only [List.range_succ, List.range_zero, List.nil_append, List.cons_append, List.map_cons, List.map_nil, List.sum_cons, List.sum_nil, wks]
  repeat' split
  all_goals omega
theorem sec_sum {rs : List (Int × Int)} {ls : List Int} (wf : WfRows rs) {b e : Int} (h0 : 0 ≤ b) (h1 : 0 ≤ e) : (tab fun c => aheadP rs ls e c - aheadP rs ls b c).sum = e - b := by
  have e2 := tab_sum_lin (aheadP rs ls e) (aheadP rs ls b) 1 (-1)
  have e3 : (tab fun c => aheadP rs ls e c - aheadP rs ls b c) = tab fun c => 1 * aheadP rs ls e c + -1 * aheadP rs ls b c := tab_cong fun c _ => by omega
  rw [e3, e2, ahead_sum wf h0, ahead_sum wf h1]
  omega
theorem dayS_one (r : Int × Int) (sec : Int) (c : Nat) : dayS [r] sec c = if r.2 = (c : Int) then ov sec r.1 86400 else 0 := by
  unfold dayS
  rw [segs_one]
  simp
theorem dayS_two (r u : Int × Int) (t : List (Int × Int)) (sec : Int) (c : Nat) : dayS (r :: u :: t) sec c = (if r.2 = (c : Int) then ov sec r.1 u.1 else 0) + dayS (u :: t) sec c := by
  unfold dayS
  rw [segs_two, List.map_cons, List.sum_cons]
/-- the band of a second of the day -/
def pickB (s : Int) (a : Int) (r : Int × Int) : Int := if r.1 ≤ s then r.2 else a
def bandAt (rs : List (Int × Int)) (s : Int) : Int := rs.foldl (pickB s) 0
theorem ov_lo {s b e : Int} (h : s ≤ b) (h2 : b < e) : ov s b e = 0 := by
  unfold ov
  repeat' split
  all_goals omega
theorem late_rows {s : Int} : ∀ (t : List (Int × Int)) (u : Int × Int) (a : Int) (c : Nat), (u :: t).Pairwise (fun a b => a.1 < b.1) → (∀ r ∈ u :: t, r.1 ≤ 86399) → s < u.1 → (u :: t).foldl (pickB s) a = a ∧ dayS (u :: t) (s + 1) c = 0 ∧ dayS (u :: t) s c = 0
  | [], u, a, c, _, hb, h => by
    have := hb u (by simp)
    refine ⟨?_, ?_, ?_⟩
    · show pickB s a u = a
      exact if_neg (by omega)
    · rw [dayS_one, ov_lo (by omega) (by omega)]; split <;> rfl
    · rw [dayS_one, ov_lo (by omega) (by omega)]; split <;> rfl
  | v :: t, u, a, c, hp, hb, h => by
    obtain ⟨h1, h2⟩ := List.pairwise_cons.mp hp
    have hv := h1 v (by simp)
    obtain ⟨i1, i2, i3⟩ := late_rows (s := s) t v a c h2 (fun r hr => hb r (List.mem_cons_of_mem _ hr)) (by omega)
    refine ⟨?_, ?_, ?_⟩
    · rw [List.foldl_cons, show pickB s a u = a from if_neg (by omega)]
      exact i1
    · rw [dayS_two, i2, ov_lo (by omega) hv]; split <;> rfl
    · rw [dayS_two, i3, ov_lo (by omega) hv]; split <;> rfl
theorem dayS_step {s : Int} (hs : s ≤ 86399) : ∀ (t : List (Int × Int)) (r : Int × Int) (a : Int) (c : Nat), (r :: t).Pairwise (fun a b => a.1 < b.1) → (∀ x ∈ r :: t, x.1 ≤ 86399) → r.1 ≤ s → dayS (r :: t) (s + 1) c = dayS (r :: t) s c + (if (r :: t).foldl (pickB s) a = (c : Int) then 1 else 0)
  | [], r, a, c, _, hb, h => by
    rw [dayS_one, dayS_one]
    show _ = _ + (if pickB s a r = (c : Int) then 1 else 0)
    rw [show pickB s a r = r.2 from if_pos h]
    have e : ov (s + 1) r.1 86400 = ov s r.1 86400 + 1 := by
      unfold ov
      repeat' split
      all_goals omega
    rw [e]
    split <;> omega
  | u :: t, r, a, c, hp, hb, h => by
    obtain ⟨h1, h2⟩ := List.pairwise_cons.mp hp
    have hu := h1 u (by simp)
    rw [List.foldl_cons, show pickB s a r = r.2 from if_pos h, dayS_two, dayS_two]
    by_cases hus : u.1 ≤ s
    · have ih := dayS_step hs t u r.2 c h2 (fun r hr => hb r (List.mem_cons_of_mem _ hr)) hus
      have e : ov (s + 1) r.1 u.1 = ov s r.1 u.1 := by
        unfold ov
        repeat' split
        all_goals omega
      rw [e, ih]
      omega
    · obtain ⟨i1, i2, i3⟩ := late_rows (s := s) t u r.2 c h2 (fun r hr => hb r (List.mem_cons_of_mem _ hr)) (by omega)
      have e : ov (s + 1) r.1 u.1 = ov s r.1 u.1 + 1 := by
        unfold ov
        repeat' split
        all_goals omega
      rw [e, i1, i2, i3]
      split <;> omega
theorem rows_step {rs : List (Int × Int)} (wf : WfRows rs) {s : Int} (h0 : 0 ≤ s) (h1 : s ≤ 86399) (c : Nat) : dayS rs (s + 1) c = dayS rs s c + (if bandAt rs s = (c : Int) then 1 else 0) := by
  cases rs with
  | nil => exact absurd rfl wf.ne
  | cons r t =>
    have hr := wf.first r t rfl
    exact dayS_step h1 t r 0 c wf.rise (fun x hx => (wf.bnd x hx).2.1) (by omega)
def dayB (rs : List (Int × Int)) (ls : List Int) (wd s : Int) : Int := if ls.contains wd = true then 0 else bandAt rs s
def bandF (rs : List (Int × Int)) (ls : List Int) (t : Int) : Int := dayB rs ls (t / 86400 % 7) (t % 86400)
theorem dayF_step {rs : List (Int × Int)} {ls : List Int} (wf : WfRows rs) (wd : Int) {s : Int} (h0 : 0 ≤ s) (h1 : s ≤ 86399) (c : Nat) : dayF rs ls wd (s + 1) c = dayF rs ls wd s c + (if dayB rs ls wd s = (c : Int) then 1 else 0) := by
  unfold dayF dayB
  by_cases h : ls.contains wd = true
  · rw [if_pos h, if_pos h, if_pos h]
    by_cases hc : c = 0
    · subst hc
      rw [if_pos rfl, if_pos rfl, if_pos (show (0 : Int) = ((0 : Nat) : Int) from rfl)]
    · rw [if_neg hc, if_neg hc, if_neg (by omega)]; rfl
  · rw [if_neg h, if_neg h, if_neg h]
    exact rows_step wf h0 h1 c
theorem dayF_zero {rs : List (Int × Int)} {ls : List Int} (wf : WfRows rs) (wd : Int) (c : Nat) : dayF rs ls wd 0 c = 0 := by
  have hb := segs_bnd wf.rise wf.bnd
  unfold dayF
  split
  · split <;> rfl
  · refine sum_zero _ _ fun z hz => ?_
    rw [ov_zero (hb z hz).1 (hb z hz).2.1]
    split <;> rfl
theorem ahead_step {rs : List (Int × Int)} {ls : List Int} (wf : WfRows rs) {t : Int} (h0 : 0 ≤ t) (c : Nat) : aheadP rs ls (t + 1) c = aheadP rs ls t c + (if bandF rs ls t = (c : Int) then 1 else 0) := by
  have st := dayF_step (ls := ls) wf (t / 86400 % 7) (s := t % 86400) (by omega) (by omega) c
  by_cases h : t % 86400 < 86399
  · have e1 : (t + 1) / 86400 = t / 86400 := by omega
    have e2 : (t + 1) % 86400 = t % 86400 + 1 := by omega
    have e3 : ∀ i, wks (t + 1) i = wks t i := fun i => by unfold wks; rw [e1]
    unfold aheadP
    rw [sum_cong (g := fun i => wks t i * dayF rs ls i 86400 c) fun i _ => by rw [e3], e1, e2, st]
    unfold bandF
    omega
  · have e1 : (t + 1) / 86400 = t / 86400 + 1 := by omega
    have e2 : (t + 1) % 86400 = 0 := by omega
    have e4 : t % 86400 = 86399 := by omega
    rw [e4, show (86399 : Int) + 1 = 86400 from rfl] at st
    have e3 : ∀ i ∈ List.range 7, wks (t + 1) i * dayF rs ls i 86400 c = 1 * (wks t i * dayF rs ls i 86400 c) + 1 * ((if t / 86400 % 7 = (i : Int) then 1 else 0) * dayF rs ls i 86400 c) := fun i hi => by
      have hi := List.mem_range.mp hi
      have w : wks (t + 1) i = wks t i + (if t / 86400 % 7 = (i : Int) then 1 else 0) := by
        unfold wks
        rw [e1]
        repeat' split
        all_goals omega
      rw [w, Int.add_mul, Int.one_mul, Int.one_mul]
    unfold aheadP
    rw [sum_cong e3, sum_lin, Int.one_mul, Int.one_mul, pick_sum (t / 86400 % 7) (fun wd => dayF rs ls wd 86400 c) (by omega) (by omega), e2, dayF_zero wf]
    have e5 : ((t / 86400 % 7).toNat : Int) = t / 86400 % 7 := by omega
    rw [e5, st, e4]
    unfold bandF
    rw [e4]
    omega
def cntF (rs : List (Int × Int)) (ls : List Int) (b : Int) (n : Nat) (c : Nat) : Int := ((List.range n).map fun (i : Nat) => if bandF rs ls (b + (i : Int)) = (c : Int) then 1 else 0).sum
theorem cnt_eq {rs : List (Int × Int)} {ls : List Int} (wf : WfRows rs) {b : Int} (h0 : 0 ≤ b) (c : Nat) : ∀ n : Nat, cntF rs ls b n c = aheadP rs ls (b + (n : Int)) c - aheadP rs ls b c
  | 0 => by
    show (0 : Int) = _
    rw [Int.natCast_zero, Int.add_zero, Int.sub_self]
  | n + 1 => by
    have ih := cnt_eq (ls := ls) wf h0 c n
    have e : cntF rs ls b (n + 1) c = cntF rs ls b n c + (if bandF rs ls (b + (n : Int)) = (c : Int) then 1 else 0) := rsum_succ _ _
    rw [e, ih, show b + ((n + 1 : Nat) : Int) = b + (n : Int) + 1 by omega, ahead_step wf (by omega)]
    omega
theorem foldB_bnd {s : Int} : ∀ (rs : List (Int × Int)) (a : Int), (∀ r ∈ rs, 0 ≤ r.2 ∧ r.2 ≤ 9) → 0 ≤ a → a ≤ 9 → 0 ≤ rs.foldl (pickB s) a ∧ rs.foldl (pickB s) a ≤ 9
  | [], a, _, h0, h1 => ⟨h0, h1⟩
  | r :: t, a, hb, h0, h1 => by
    have hr := hb r (by simp)
    rw [List.foldl_cons]
    refine foldB_bnd t _ (fun x hx => hb x (List.mem_cons_of_mem _ hx)) ?_ ?_ <;> (unfold pickB; split <;> omega)
theorem bandF_bnd {rs : List (Int × Int)} {ls : List Int} (wf : WfRows rs) (t : Int) : 0 ≤ bandF rs ls t ∧ bandF rs ls t ≤ 9 := by
  unfold bandF dayB
  split
  · decide
  · exact foldB_bnd rs 0 (fun r hr => (wf.bnd r hr).2.2) (by decide) (by decide)
end K82
namespace K82
open PySem PySem.Spec PyProof.Rows L2 PV
local macro_rules | `(tactic| wtm_at "pv hs") => `(tactic| (with_reducible (first | exact Hs.z | (apply Hs.s; wtm_at "pv hs") | fail)))
local macro_rules | `(tactic| wtm_at "pv hput") => `(tactic| (with_reducible (first | exact Hput.z | (apply Hput.s; wtm_at "pv hput") | fail)))
local macro_rules | `(tactic| wtm_at "pv cin") => `(tactic| (with_reducible (first | exact Cin.z | (apply Cin.s; wtm_at "pv cin") | fail)))
local macro_rules | `(tactic| wtm_at "pv cput") => `(tactic| (with_reducible (first | exact Cput.z | (apply Cput.s; wtm_at "pv cput") | fail)))
/-! ### accounts and bills -/
structure Acc where
  p : Int
  s : Str
  b : Int
  e : Int
abbrev accD (a : Acc) : D := .tup [.int a.p, .str a.s, .int a.b, .int a.e]
structure AccOk (a : Acc) : Prop where
  s : figs a.s = true
  b0 : 0 ≤ a.b
  be : a.b ≤ a.e
  e1 : a.e ≤ 1000000000000000
structure Tr where
  bs : List (Int × Int)
  ls : List Int
  rs : List (Str × D)
  ws : List (Key × D)
abbrev Tr.d (t : Tr) (C CB CP : Addr) : D := tarV C CB CP t.bs t.ls t.rs t.ws
abbrev Tr.Ok (t : Tr) : Prop := TarOk t.bs t.ls t.rs
def prA (t : Tr) (a : Acc) : Int := priceF t.bs t.ls t.rs a.s a.b a.e
theorem price_acc {C CB CP : Addr} {t : Tr} {a : Acc} {P : D → Prop} {PX : Xd → Prop} (ok : t.Ok) (oa : AccOk a) (p : P (.int (prA t a))) : F_price C CB CP [t.d C CB CP, accD a] P PX := by
  have := figs_len oa.s
  exact ⟨_, _, _, _, _, _, _, _, rfl, ok, by omega, oa.b0, oa.be, oa.e1, p⟩
local macro_rules | `(tactic| wtm_at "pv ex") => `(tactic| ((with_reducible show F_price _ _ _ _ _ _); refine price_acc (by with_reducible assumption) (by with_reducible assumption) ?_))
abbrev rowA (t : Tr) (a : Acc) : D := .tup [accD a, .int (prA t a)]
def ofP (as : List Acc) (p : Int) : List Acc := as.filter fun a => decide (a.p = p)
abbrev billR (t : Tr) (as : List Acc) (p : Int) : List D := (ofP as p).map (rowA t)
def billS (t : Tr) (as : List Acc) (p : Int) : Int := ((ofP as p).map (prA t)).sum
theorem ofP_len (as : List Acc) (p : Int) : (ofP as p).length ≤ as.length := List.length_filter_le _ _
structure AsOk (as : List Acc) : Prop where
  ok : ∀ a ∈ as, AccOk a
  le : as.length ≤ 60
end K82
namespace K82
open PySem PySem.Spec PyProof.Rows L2 PV
local macro_rules | `(tactic| wtm_at "pv ex") => `(tactic| ((with_reducible show F_mixed _ _ _); refine ⟨_, _, rfl, by omega, by omega, ?_⟩))
local macro_rules | `(tactic| wtm_at "pv ex") => `(tactic| ((with_reducible show F_time _ _ _); refine ⟨_, rfl, ?_⟩))
/-! ### the law's own -/
def F_cellAt : Phi := fun ds P _ => ∃ (ns : List Int) (k : Int), ds = [.lst (ns.map .int), .int k] ∧ 0 ≤ k ∧ k < 1000000 ∧ ∀ z : Int, P (.int z)
theorem ok_cellAt {M : Md} {f : Addr} {fd : FuncData} (G : Fun M.K "_law_cell_at" "_law_cell_at" s_cell_at f fd) (bi1 : Bi M "len") (f1 : DefOk M 1 "_law_mixed" 2 F_mixed) : FnOk M.P M.w M.K M.mg M.base (L2.CX M.P M.w) 2 f fd ["_law_script", "_law_k"] (spD M.K 2 F_cellAt) := by
  refine fn_ok G sc_cell_at rfl ?_
  rintro ds P PX - ⟨ns, k, rfl, k0, k1, hP⟩ X W c
  change DSs X W (_ :: _) [_, _] _ _ _ _ _
  wtm_at "pv"
  · rename_i hw
    rw [List.length_map] at hw
    refine o_ix_map 0 k0 (by omega) ?_
    wtm_at "pv"
    exact hP _
  · exact hP _
def F_account : Phi := fun ds P _ => ∃ cell : Int, ds = [.int cell] ∧ ∀ a, AccOk a → P (accD a)
theorem ok_account {M : Md} {f : Addr} {fd : FuncData} (G : Fun M.K "_law_account" "_law_account" s_account f fd) (bi1 : Bi M "sorted") (bi2 : Bi M "min") (f1 : DefOk M 1 "_law_mixed" 2 F_mixed) (f2 : DefOk M 2 "_law_figures" 2 F_figs) (f3 : DefOk M 2 "_law_time" 1 F_time) : FnOk M.P M.w M.K M.mg M.base (L2.CX M.P M.w) 3 f fd ["_law_cell"] (spD M.K 1 F_account) := by
  refine fn_ok G sc_account rfl ?_
  rintro ds P PX - ⟨cell, rfl, hP⟩ X W c
  change DSs X W (_ :: _) [_, _, _] _ _ _ _ _
  refine dss_mid (fun δ => ∃ x y : Int, 0 ≤ x ∧ x ≤ y ∧ y ≤ 1000000000000000 ∧ δ = [.val (.int cell), .val (.int x), .val (.int y)]) ?_ ?_
  · refine ds_asg c ?_
    wtm_at "pv"
    intro x x0 x1
    wtm_at "pv"
    intro y y0 y1
    wtm_at "pv"
    refine ⟨[x, y], rfl, by show 2 < 64; decide, fun ms hm hs => ?_⟩
    have hl : ms.length = 2 := hm.length_eq
    match ms, hl, hm, hs with
    | [u, v], _, hm, hs =>
      have hu : u = x ∨ u = y := by have := hm.mem_iff.mp (show u ∈ [u, v] by simp); simpa using this
      have hv : v = x ∨ v = y := by have := hm.mem_iff.mp (show v ∈ [u, v] by simp); simpa using this
      have huv : u ≤ v := by simpa using hs
      exact ⟨_, _, by wtm_at "pv dg", u, v, by omega, huv, by omega, rfl⟩
  rintro _ ⟨x, y, x0, xy, y1, rfl⟩
  refine dss_mid (fun δ => ∃ y : Int, x ≤ y ∧ y ≤ 1000000000000000 ∧ δ = [.val (.int cell), .val (.int x), .val (.int y)]) ?_ ?_
  · refine ds_if ?_
    wtm_at "pv"
    · have := Int.emod_nonneg (mixed cell 452) (show (500 : Int) ≠ 0 by decide)
      refine ⟨_, ?_, ?_, rfl⟩
      all_goals (have e : ((10 : Int) ^ Int.toNat 15) = 1000000000000000 := by decide)
      all_goals (rw [e]; split <;> omega)
    · exact ⟨y, xy, y1, rfl⟩
  rintro _ ⟨z, xz, z1, rfl⟩
  wtm_at "pv"
  refine ⟨_, 5, rfl, by decide, by decide, fun s hs => ?_⟩
  wtm_at "pv"
  exact hP ⟨_, s, x, z⟩ ⟨hs, x0, xz, z1⟩
end K82
namespace K82
open PySem PySem.Spec PyProof.Rows L2 PV
/-! ### what an account costs, band by band -/
/-- the line of a band -/
def lineD (f : Nat → Int) (ps : List Int) (c : Nat) : D := .tup [.int c, .int (f c), .int (ps.getD c 0), .int (f c * ps.getD c 0)]
def linesN (f : Nat → Int) (ps : List Int) (n : Nat) : List D := ((List.range n).filter fun c => decide (0 < f c)).map (lineD f ps)
theorem linesN_succ (f : Nat → Int) (ps : List Int) (n : Nat) : linesN f ps (n + 1) = if 0 < f n then linesN f ps n ++ [lineD f ps n] else linesN f ps n := by
  unfold linesN
  rw [List.range_succ, List.filter_append, List.map_append]
  by_cases h : 0 < f n
  · rw [if_pos h]
    simp [h]
  · rw [if_neg h]
    simp [h]
def F_lines (C CB CP : Addr) : PhiL := fun ds P _ => ∃ bs ls rs ws p s x y, ds = [tarV C CB CP bs ls rs ws, .tup [p, .str s, .int x, .int y]] ∧ TarOk bs ls rs ∧ s.length ≤ 1000 ∧ 0 ≤ x ∧ x ≤ y ∧ y ≤ 1000000000000000 ∧ (prD rs s = .non → P []) ∧ ∀ ps : List Int, prD rs s = .lst (ps.map .int) → ps.length = 10 → P (linesN (secF bs ls x y) ps 10)
theorem ok_lines {M : Md} {f C CB CP CT : Addr} {fd : FuncData} (G : Fun M.K "lines" "Tariff.lines" s_Tariff_lines f fd) (T : TT M C) (T2 : BT M CB) (bi1 : Bi M "enumerate") (f1 : MethOk M C 3 "prices_of" 2 (F_pof C CP)) (f2 : MethOk M CB 3 "seconds" 3 (F_seconds CB CT)) : FnOk M.P M.w M.K M.mg M.base (L2.CX M.P M.w) 5 f fd ["self", "account"] (spL M.K 2 (F_lines C CB CP)) := by
  refine fn_okL G sc_Tariff_lines rfl ?_
  rintro ds P PX - ⟨bs, ls, rs, ws, p, s, x, y, rfl, ok, hs, h0, h1, h2, hP0, hP⟩ X W c
  change LSs X W (_ :: _) [_, _, _, _, _, _, _, _, _, _] _ _
  obtain ⟨cl, nb, np⟩ := T
  have cl2 := T2.cl
  refine ls_cons (DS.imp (N := fun δ => δ = [.val (tarV C CB CP bs ls rs ws), .val (.tup [p, .str s, .int x, .int y]), .val p, .val (.str s), .val (.int x), .val (.int y), .no, .no, .no, .no]) ?_ ?_)
  · wtm_at "pv"
  rintro _ rfl
  refine ls_cons (ds_asg c (DE.imp (P := fun d => d = prD rs s) ?_ ?_))
  · wtm_at "pv"
    exact ⟨_, rs, ws, s, rfl, ok.p, hs, rfl⟩
  rintro _ rfl
  refine ⟨_, _, by wtm_at "pv dg", ?_⟩
  rcases prD_is ok.p ok.r s with h | ⟨ps, h, hl, hb⟩
  · rw [h]
    refine ls_if (DT.imp (P := fun i => i = true) ?_ ?_)
    · wtm_at "pv"
    rintro _ rfl
    refine ⟨fun _ => ls_ret (df_lst ?_), fun z => nomatch z⟩
    wtm_at "pv"
    exact hP0 h
  rw [h]
  refine ls_if (DT.imp (P := fun i => i = false) ?_ ?_)
  · wtm_at "pv"
  rintro _ rfl
  refine ⟨(fun z => nomatch z), fun _ => ?_⟩
  refine ls_cons (DS.imp (N := fun δ => δ = [.val (tarV C CB CP bs ls rs ws), .val (.tup [p, .str s, .int x, .int y]), .val p, .val (.str s), .val (.int x), .val (.int y), .val (.lst (ps.map .int)), .acc [], .no, .no]) ?_ ?_)
  · wtm_at "pv"
  rintro _ rfl
  refine ls_cons (ds_for c (fun i δ => ∃ u1 u2, δ = [.val (tarV C CB CP bs ls rs ws), .val (.tup [p, .str s, .int x, .int y]), .val p, .val (.str s), .val (.int x), .val (.int y), .val (.lst (ps.map .int)), .acc (linesN (secF bs ls x y) ps i), u1, u2]) ?_)
  wtm_at "pv"
  refine ⟨bs, ls, .int x, .int y, rfl, ok.b, ok.l, rfl, rfl, fun b e he => ?_, fun z => ?_⟩
  rotate_left
  · rw [span_of h0 h1 h2] at z; cases z
  rw [span_of h0 h1 h2] at he
  cases he
  refine ⟨_, rfl, ?_⟩
  have hel : (enumD 0 (tabD (secF bs ls x y))).length = 10 := by rw [enumD_len, List.length_map, tab_len]
  refine ⟨⟨_, _, rfl⟩, ?_, ?_⟩
  rotate_left
  · rintro δn ⟨u1, u2, rfl⟩
    rw [hel]
    exact ls_retA c (by wtm_at "pv at") (by wtm_at "pv vis") (hP ps h hl)
  rintro i d δi hd ⟨u1, u2, rfl⟩
  have hi : i < 10 := by rw [← hel]; exact (List.getElem?_eq_some_iff.mp hd).1
  have hd2 : d = .tup [.int (i : Int), .int (secF bs ls x y i)] := by
    rw [enumD_get, tab_get hi] at hd
    simp only [Option.map_some, Option.some.injEq] at hd
    rw [← hd]
    simp
  subst hd2
  have hln : (linesN (secF bs ls x y) ps i).length ≤ i := by
    unfold linesN
    rw [List.length_map]
    exact Nat.le_trans (List.length_filter_le _ _) (by rw [List.length_range]; exact Nat.le_refl _)
  refine ⟨_, _, by wtm_at "pv dg", ?_⟩
  have hs2 := linesN_succ (secF bs ls x y) ps i
  have hat : L2.atI (ps.map D.int) (i : Int) = some (.int (ps.getD i 0)) := atI_nat (by rw [List.getElem?_map, List.getElem?_eq_getElem (by omega), List.getD_eq_getElem?_getD, List.getElem?_eq_getElem (by omega)]; rfl)
  have hpi : 0 ≤ ps.getD i 0 ∧ ps.getD i 0 ≤ 1000000000 := hb _ (by rw [List.getD_eq_getElem?_getD, List.getElem?_eq_getElem (by omega)]; exact List.getElem_mem _)
  have hline : lineD (secF bs ls x y) ps i = .tup [.int i, .int (secF bs ls x y i), .int (ps.getD i 0), .int (secF bs ls x y i * ps.getD i 0)] := rfl
  generalize secF bs ls x y i = fi at *
  wtm_at "pv"
  · rename_i hw
    refine o_ix_l hat ?_
    wtm_at "pv"
    refine o_ix_l hat ?_
    refine o_mul (by first | exact Or.inr (by omega) | exact Or.inl (by omega)) ?_
    wtm_at "pv"
    exact ⟨_, _, by rw [hs2, if_pos hw, hline]⟩
  · rename_i hw
    exact ⟨_, _, by rw [hs2, if_neg (by omega)]⟩
end K82
namespace K82
open PySem PySem.Spec PyProof.Rows L2 PV
/-! ### alike -/
local macro_rules | `(tactic| wtm_at "pv call") => `(tactic| ((with_reducible show DE _ _ (Expr.Call (Expr.Name (Str.ofString "isinstance") _) [_, Expr.Tuple [_, _] _ _] _ _) _ _ _); refine de_isi2 (by with_reducible assumption) (by wtm_at "pv gl") (by with_reducible assumption) (by wtm_at "pv gl") (by with_reducible assumption) (by wtm_at "pv bt") (by wtm_at "pv gl") (by with_reducible assumption) (by wtm_at "pv bt") ?_))
local macro_rules | `(tactic| wtm_at "pv ex") => `(tactic| ((with_reducible show ∃ _ _ _, D.tyN _ = _ ∧ kitB _ _ = _ ∧ kitB _ _ = _ ∧ _); refine ⟨_, _, _, rfl, (by wtm_at "pv kb"), (by wtm_at "pv kb"), ?_⟩))
def okS : Nat → D → Bool
  | _, .non => true
  | _, .bl _ => true
  | _, .int _ => true
  | _, .str s => PyData.strOk s
  | n + 1, .lst ds => decide (ds.length ≤ 1000) && ds.all (okS n)
  | n + 1, .tup ds => decide (ds.length ≤ 1000) && ds.all (okS n)
  | _, _ => false
def F_alike (n : Nat) : Phi := fun ds P _ => ∃ d, ds = [d, d] ∧ okS n d = true ∧ P (.bl true)
theorem leaf {M : Md} {X : Cx} {W : WX} {k : Nat} {P : D → Prop} {PX : Xd → Prop} (c : Ct M X W k N_alike (defScope s_alike)) (bi1 : Bi M "isinstance") (bi2 : Bi M "list") (bi3 : Bi M "tuple") (bi4 : Bi M "int") (bi5 : Bi M "bool") {d : D} (h : okS 0 d = true) (hP : P (.bl true)) : DSs X W (defBody s_alike) [.val d, .val d, .no, .no] (fun _ => P .non) (fun d _ => P d) (fun _ => False) (fun _ => False) (fun x _ => PX x) := by
  change DSs X W (_ :: _) _ _ _ _ _ _
  cases d with
  | lst _ => cases h
  | tup _ => cases h
  | dic _ => cases h
  | obj _ _ => cases h
  | exc _ _ _ => cases h
  | opq _ => cases h
  | non =>
    wtm_at "pv"
    exact to_bl hP (eqb_self 0 .non rfl).symm
  | bl b =>
    wtm_at "pv"
    exact to_bl hP (eqb_self 0 (.bl b) rfl).symm
  | int b =>
    wtm_at "pv"
    exact to_bl hP (eqb_self 0 (.int b) rfl).symm
  | str b =>
    wtm_at "pv"
    exact to_bl hP (by simp)
theorem ok_alike0 {M : Md} {f : Addr} {fd : FuncData} (G : Fun M.K "_law_alike" "_law_alike" s_alike f fd) (bi1 : Bi M "isinstance") (bi2 : Bi M "list") (bi3 : Bi M "tuple") (bi4 : Bi M "int") (bi5 : Bi M "bool") : FnOk M.P M.w M.K M.mg M.base (L2.CX M.P M.w) 1 f fd ["_law_one", "_law_other"] (spD M.K 2 (F_alike 0)) := by
  refine fn_ok G sc_alike rfl ?_
  rintro ds P PX - ⟨d, rfl, h, hP⟩ X W c
  exact leaf c bi1 bi2 bi3 bi4 bi5 h hP
theorem zip_self : ∀ xs : List D, zipD xs xs = xs.map fun x => .tup [x, x]
  | [] => rfl
  | x :: r => by
    show D.tup [x, x] :: zipD r r = _
    rw [zip_self r]; rfl
theorem ok_alikeS {n : Nat} {M : Md} {f : Addr} {fd : FuncData} (G : Fun M.K "_law_alike" "_law_alike" s_alike f fd) (bi1 : Bi M "isinstance") (bi2 : Bi M "list") (bi3 : Bi M "tuple") (bi4 : Bi M "int") (bi5 : Bi M "bool") (bi6 : Bi M "len") (bi7 : Bi M "all") (bi8 : Bi M "zip") (f1 : DefOk M (n + 1) "_law_alike" 2 (F_alike n)) : FnOk M.P M.w M.K M.mg M.base (L2.CX M.P M.w) (n + 2) f fd ["_law_one", "_law_other"] (spD M.K 2 (F_alike (n + 1))) := by
  refine fn_ok G sc_alike rfl ?_
  rintro ds P PX - ⟨d, rfl, h, hP⟩ X W c
  cases d with
  | dic _ => cases h
  | obj _ _ => cases h
  | exc _ _ _ => cases h
  | opq _ => cases h
  | non => exact leaf c bi1 bi2 bi3 bi4 bi5 h hP
  | bl b => exact leaf c bi1 bi2 bi3 bi4 bi5 h hP
  | int b => exact leaf c bi1 bi2 bi3 bi4 bi5 h hP
  | str b => exact leaf c bi1 bi2 bi3 bi4 bi5 h hP
  | lst xs =>
    change DSs X W (_ :: _) [_, _, _, _] _ _ _ _ _
    have h : (decide (xs.length ≤ 1000) && xs.all (okS n)) = true := h
    rw [Bool.and_eq_true, decide_eq_true_eq, List.all_eq_true] at h
    obtain ⟨hl, hx⟩ := h
    wtm_at "pv"
    · refine de_lcN D c (by wtm_at "pv own") (by decide +kernel) ?_
      refine di_zip c rfl bi8 ?_
      wtm_at "pv"
      rw [zip_self]
      refine lcb_map xs (fun x => .tup [x, x]) (fun _ => .bl true) rfl (by omega) (fun z hz => ?_) ?_
      · refine ⟨_, _, (by wtm_at "pv dg"), (by decide), fun X' c' => ?_⟩
        refine de_call c' f1 (Nat.le_refl _) rfl ?_
        wtm_at "pv"
        exact ⟨_, rfl, hx _ hz, rfl⟩
      · refine ⟨xs.map fun _ => true, by rw [List.map_map]; rfl, ?_⟩
        have : (xs.map fun _ => true).all id = true := by simp
        rw [this]
        exact hP
    all_goals (rename_i hw; rw [eqb_int2] at hw; simp at hw)
  | tup xs =>
    change DSs X W (_ :: _) [_, _, _, _] _ _ _ _ _
    have h : (decide (xs.length ≤ 1000) && xs.all (okS n)) = true := h
    rw [Bool.and_eq_true, decide_eq_true_eq, List.all_eq_true] at h
    obtain ⟨hl, hx⟩ := h
    wtm_at "pv"
    · refine de_lcN D c (by wtm_at "pv own") (by decide +kernel) ?_
      refine di_zipT c rfl bi8 ?_
      wtm_at "pv"
      rw [zip_self]
      refine lcb_map xs (fun x => .tup [x, x]) (fun _ => .bl true) rfl (by omega) (fun z hz => ?_) ?_
      · refine ⟨_, _, (by wtm_at "pv dg"), (by decide), fun X' c' => ?_⟩
        refine de_call c' f1 (Nat.le_refl _) rfl ?_
        wtm_at "pv"
        exact ⟨_, rfl, hx _ hz, rfl⟩
      · refine ⟨xs.map fun _ => true, by rw [List.map_map]; rfl, ?_⟩
        have : (xs.map fun _ => true).all id = true := by simp
        rw [this]
        exact hP
    all_goals (rename_i hw; rw [eqb_int2] at hw; simp at hw)
end K82
namespace K82
open PySem PySem.Spec PyProof.Rows L2 PV
local macro_rules | `(tactic| wtm_at "pv hs") => `(tactic| (with_reducible (first | exact Hs.z | (apply Hs.s; wtm_at "pv hs") | fail)))
local macro_rules | `(tactic| wtm_at "pv hput") => `(tactic| (with_reducible (first | exact Hput.z | (apply Hput.s; wtm_at "pv hput") | fail)))
/-! ### the lines by the law's own look -/
theorem sec_nn {rs : List (Int × Int)} {ls : List Int} (wf : WfRows rs) {x y : Int} (h0 : 0 ≤ x) (h1 : x ≤ y) (c : Nat) : 0 ≤ secF rs ls x y c := by
  obtain ⟨n, rfl⟩ : ∃ n : Nat, y = x + n := ⟨(y - x).toNat, by omega⟩
  have e := cnt_eq (ls := ls) wf h0 c n
  show 0 ≤ aheadP rs ls (x + n) c - aheadP rs ls x c
  rw [← e]
  unfold cntF
  have : ∀ l : List Nat, 0 ≤ (l.map fun i : Nat => if bandF rs ls (x + (i : Int)) = (c : Int) then (1 : Int) else 0).sum := by
    intro l
    induction l with
    | nil => exact Int.le_refl _
    | cons a r ih =>
      rw [List.map_cons, List.sum_cons]
      split <;> omega
  exact this _
def dueL (t : Tr) (a : Acc) : List D := match prD t.rs a.s with
  | .lst ps => linesN (secF t.bs t.ls a.b a.e) (ps.map intOf) 10
  | _ => []
theorem due_non {t : Tr} {a : Acc} (h : prD t.rs a.s = .non) : dueL t a = [] := by unfold dueL; rw [h]
theorem due_some {t : Tr} {a : Acc} {ps : List Int} (h : prD t.rs a.s = .lst (ps.map .int)) : dueL t a = linesN (secF t.bs t.ls a.b a.e) ps 10 := by
  unfold dueL
  rw [h]
  show linesN _ ((ps.map D.int).map intOf) 10 = _
  rw [List.map_map, show (intOf ∘ D.int) = id from rfl, List.map_id]
def F_due (CB tb : Addr) : PhiC := fun ds lk cs P _ => ∃ (t : Tr) (a : Acc), ds = [bandsD CB t.bs t.ls, .lst (t.rs.map plRow), accD a] ∧ t.Ok ∧ AccOk a ∧ lk = [] ∧ cs = [(tb, .tbl lamQ)] ∧ P (.lst (dueL t a)) [(tb, .tbl lamQ)]
theorem ok_due {M : Md} {f CB CT tb : Addr} {fd : FuncData} (G : Fun M.K "_law_due" "_law_due" s_due f fd) (T2 : BT M CB) (bi1 : Bi M "sum") (bi2 : Bi M "range") (f1 : CaOk M 3 "_law_prices_of" 2 (F_lpof tb)) (m1 : MethOk M CB 3 "seconds" 3 (F_seconds CB CT)) : FnOk M.P M.w M.K M.mg M.base (L2.CX M.P M.w) 5 f fd ["_law_bands", "_law_rows_here", "_law_account_here"] (spC M.K 3 (F_due CB tb)) := by
  refine fn_okC G sc_due rfl ?_
  rintro ds lk cs P PX - ⟨t, a, rfl, ok, oa, rfl, rfl, hP⟩ X W c fb
  change DSs X W (_ :: _) [_, _, _, _, _, _, _, _, _] _ _ _ _ _
  have cl2 := T2.cl
  obtain ⟨l1, l2⟩ := figs_len oa.s
  have b0 := oa.b0
  have be := oa.be
  have e1 := oa.e1
  refine dss_mid (fun δ => δ = [.val (bandsD CB t.bs t.ls), .val (.lst (t.rs.map plRow)), .val (accD a), .val (prD t.rs a.s), .no, .no, .no, .look [], .heap [(tb, .tbl lamQ)]]) ?_ ?_
  · refine ds_asgX c (dx_call c f1 (by decide) (by wtm_at "pv gl") ?_)
    wtm_at "pv"
    refine ⟨8, _, [], _, [], ⟨by wtm_at "pv hs", .l .nil, (fun z hz => nomatch hz), (fun z hz => nomatch hz)⟩, t.rs, a.s, rfl, ok.p, by omega, rfl, rfl, ?_⟩
    exact ⟨_, (show Hput _ [(tb, .tbl lamQ)] 8 _ by wtm_at "pv hput"), _, _, by wtm_at "pv dg", rfl⟩
  rintro _ rfl
  rcases prD_is ok.p ok.r a.s with h | ⟨ps, h, hl, hb⟩
  · rw [due_non h] at hP
    rw [h]
    wtm_at "pv"
    exact ⟨8, _, by wtm_at "pv hs", hP⟩
  rw [due_some h] at hP
  rw [h]
  have nn := fun c => sec_nn (ls := t.ls) ok.b b0 be c
  have ss := sec_sum (ls := t.ls) ok.b b0 (show 0 ≤ a.e by omega)
  generalize hf : secF t.bs t.ls a.b a.e = f at *
  refine dss_mid (fun δ => δ = [.val (bandsD CB t.bs t.ls), .val (.lst (t.rs.map plRow)), .val (accD a), .val (.lst (ps.map .int)), .no, .no, .no, .look [], .heap [(tb, .tbl lamQ)]]) ?_ ?_
  · wtm_at "pv"
  rintro _ rfl
  refine dss_set c (fun d => d = .lst (tabD f)) (by wtm_at "pv at") (by wtm_at "pv loc") ?_ ?_
  · wtm_at "pv"
    refine ⟨t.bs, t.ls, .int a.b, .int a.e, rfl, ok.b, ok.l, rfl, rfl, fun x y hs => ?_, fun hs => ?_⟩
    · rw [span_ints ⟨b0, be, e1⟩] at hs
      cases hs
      rw [← hf]
    · rw [span_ints ⟨b0, be, e1⟩] at hs
      cases hs
  rintro _ rfl
  refine ⟨_, by wtm_at "pv put", ?_⟩
  wtm_at "pv"
  · rename_i hw
    have hw2 : eqb (.int (tab f).sum) (.int (a.e - a.b)) = false := hw
    have e3 : (tab f).sum = a.e - a.b := by rw [← hf]; exact ss
    rw [eqb_int2, e3, beq_self_eq_true] at hw2
    cases hw2
  · have at_ : ∀ i : Nat, i < 10 → L2.atI (tabD f) (i : Int) = some (.int (f i)) := fun i hi => atI_nat (by rw [tab_get hi])
    refine ds_setLcN Nat c (by wtm_at "pv at") rfl (by wtm_at "pv own") (by decide +kernel) ?_
    wtm_at "pv"
    refine ⟨by decide, by decide, List.range 10, (fun i => .int (0 + (i : Int))), (fun i => decide (0 < f i)), (fun i => .int (i : Int)), rfl, by decide, fun z hz => ?_, ?_⟩
    · have hz := List.mem_range.mp hz
      refine ⟨_, _, (by wtm_at "pv dg"), (by decide), fun X' c' => ?_, fun _ X' c' => ?_⟩
      · refine dts_one ?_
        wtm_at "pv"
        refine o_ix_l (d := .int (f z)) (by show L2.atI (tabD f) (0 + (z : Int)) = _; rw [Int.zero_add]; exact at_ z hz) ?_
        have := nn z
        wtm_at "pv"
        show (!eqb (D.int (f z)) (D.int 0)) = decide (0 < f z)
        rw [eqb_int2]
        by_cases h : f z = 0
        · rw [h]; rfl
        · rw [beq_eq_false_iff_ne.mpr h, decide_eq_true (show 0 < f z by omega)]; rfl
      · wtm_at "pv"
        show D.int (0 + (z : Int)) = D.int (z : Int)
        rw [Int.zero_add]
    refine ⟨_, by wtm_at "pv put", ?_⟩
    generalize hbs : ((List.range 10).filter fun i => decide (0 < f i)) = bs
    have hm : ∀ z ∈ bs, z < 10 := fun z hz => by
      rw [← hbs] at hz
      exact List.mem_range.mp (List.mem_filter.mp hz).1
    have hbl : bs.length ≤ 10 := by
      rw [← hbs]
      exact Nat.le_trans (List.length_filter_le _ _) (by simp)
    wtm_at "pv stmt"
    wtm_at "pv stmt"
    refine de_lcN Nat c (by wtm_at "pv own") (by decide +kernel) (di_list ?_)
    wtm_at "pv"
    refine lcb_map bs (fun i : Nat => .int (i : Int)) (lineD f ps) rfl (by omega) (fun z hz => ?_) ?_
    · have hi := hm z hz
      have a1 := at_ z hi
      have hat : L2.atI (ps.map D.int) (z : Int) = some (.int (ps.getD z 0)) := atI_nat (by rw [List.getElem?_map, List.getElem?_eq_getElem (by omega), List.getD_eq_getElem?_getD, List.getElem?_eq_getElem (by omega)]; rfl)
      have hpi : 0 ≤ ps.getD z 0 ∧ ps.getD z 0 ≤ 1000000000 := hb _ (by rw [List.getD_eq_getElem?_getD, List.getElem?_eq_getElem (by omega)]; exact List.getElem_mem _)
      refine ⟨_, _, (by wtm_at "pv dg"), (by decide), fun X' c' => ?_⟩
      have hln : lineD f ps z = .tup [.int z, .int (f z), .int (ps.getD z 0), .int (f z * ps.getD z 0)] := rfl
      generalize f z = fz at *
      generalize ps.getD z 0 = pz at *
      wtm_at "pv"
      refine o_ix_l a1 ?_
      wtm_at "pv"
      refine o_ix_l hat ?_
      wtm_at "pv"
      refine o_ix_l a1 ?_
      wtm_at "pv"
      refine o_ix_l hat ?_
      refine o_mul (by first | exact Or.inr (by omega) | exact Or.inl (by omega)) ?_
      wtm_at "pv"
      exact hln.symm
    · have e : bs.map (lineD f ps) = linesN f ps 10 := by rw [← hbs]; rfl
      rw [e]
      exact ⟨8, _, by wtm_at "pv hs", hP⟩
end K82
namespace K82
open PySem PySem.Spec PyProof.Rows L2 PV
local macro_rules | `(tactic| wtm_at "pv hs") => `(tactic| (with_reducible (first | exact Hs.z | (apply Hs.s; wtm_at "pv hs") | fail)))
local macro_rules | `(tactic| wtm_at "pv hput") => `(tactic| (with_reducible (first | exact Hput.z | (apply Hput.s; wtm_at "pv hput") | fail)))
local macro_rules | `(tactic| wtm_at "pv cin") => `(tactic| (with_reducible (first | exact Cin.z | (apply Cin.s; wtm_at "pv cin") | fail)))
local macro_rules | `(tactic| wtm_at "pv ex") => `(tactic| ((with_reducible show F_mixed _ _ _); refine ⟨_, _, rfl, by omega, by omega, ?_⟩))
local macro_rules | `(tactic| wtm_at "pv ex") => `(tactic| ((with_reducible show F_rows _ _ _); refine ⟨_, rfl, ?_⟩))
local macro_rules | `(tactic| wtm_at "pv ex") => `(tactic| ((with_reducible show F_low _ _ _); refine ⟨_, rfl, ?_⟩))
local macro_rules | `(tactic| wtm_at "pv ex") => `(tactic| ((with_reducible show F_prRows _ _ _); refine ⟨_, rfl, ?_⟩))
local macro_rules | `(tactic| wtm_at "pv ex") => `(tactic| ((with_reducible show F_account _ _ _); refine ⟨_, rfl, ?_⟩))
theorem pr_is {ps : List Int} (h : ps.length = 10) (hb : ∀ p ∈ ps, 0 ≤ p ∧ p ≤ 1000000000) : isPrices (.lst (ps.map .int)) = true := by
  show (decide ((ps.map D.int).length = 10) && (ps.map D.int).all fun x => btw x 0 1000000000) = true
  rw [List.length_map, decide_eq_true h, List.all_map, Bool.true_and, List.all_eq_true]
  intro p hp
  have := hb p hp
  show btw (.int p) 0 1000000000 = true
  simp [btw]; omega
theorem PrRows.ok {rs : List (Str × D)} (h : PrRows rs) : (∀ r ∈ rs, PrOk r.2) ∧ ∀ r ∈ rs, isPrices r.2 = true := by
  refine ⟨fun r hr => ?_, fun r hr => ?_⟩
  · obtain ⟨ps, e, h1, h2⟩ := h r hr
    rw [e]
    exact ⟨rfl, fun xs e => by cases e; exact ⟨by rw [List.length_map]; omega, fun x hx => by obtain ⟨i, _, rfl⟩ := List.mem_map.mp hx; rfl⟩⟩
  · obtain ⟨ps, e, h1, h2⟩ := h r hr
    rw [e]; exact pr_is h1 h2
theorem cut_to {α : Type} (f : α → D) (xs : List α) (n : Nat) : PV.cutD (xs.map f) none (some (n : Int)) = (xs.take n).map f := by
  rw [cut_map, HT.sIx_nat]
  show ((xs.drop 0).take (min n xs.length - 0)).map f = _
  rw [List.drop_zero, Nat.sub_zero]
  by_cases h : n ≤ xs.length
  · rw [Nat.min_eq_left h]
  · rw [Nat.min_eq_right (by omega), List.take_length, List.take_of_length_le (by omega)]

theorem ok_lines_s (t : Tr) (a : Acc) : okN 64 (.lst (dueL t a)) = true ∧ okS 2 (.lst (dueL t a)) = true := by
  have one : ∀ d ∈ dueL t a, okN 63 d = true ∧ okS 1 d = true := by
    intro d hd
    unfold dueL at hd
    split at hd
    · obtain ⟨c, _, rfl⟩ := List.mem_map.mp hd
      exact ⟨by simp [lineD, okN], by simp [lineD, okS]⟩
    · cases hd
  have hl : (dueL t a).length ≤ 1000 := by
    unfold dueL
    split
    · unfold linesN
      rw [List.length_map]
      exact Nat.le_trans (List.length_filter_le _ _) (by simp)
    · exact Nat.zero_le _
  refine ⟨?_, ?_⟩
  · show (dueL t a).all (okN 63) = true
    rw [List.all_eq_true]
    exact fun d hd => (one d hd).1
  · show (decide ((dueL t a).length ≤ 1000) && (dueL t a).all (okS 1)) = true
    rw [decide_eq_true hl, Bool.true_and, List.all_eq_true]
    exact fun d hd => (one d hd).2
/-- what a line comes to -/
def amtD : D → Int
  | .tup [_, _, _, .int z] => z
  | _ => 0
theorem due_mem {t : Tr} {a : Acc} {d : D} (h : d ∈ dueL t a) : ∃ (n : Nat) (x y : Int), d = .tup [.int n, .int x, .int y, .int (x * y)] := by
  unfold dueL at h
  split at h
  · obtain ⟨c, _, rfl⟩ := List.mem_map.mp h
    exact ⟨c, _, _, rfl⟩
  · cases h
theorem due_len (t : Tr) (a : Acc) : (dueL t a).length ≤ 1000 := by
  unfold dueL
  split
  · unfold linesN
    rw [List.length_map]
    exact Nat.le_trans (List.length_filter_le _ _) (by simp)
  · exact Nat.zero_le _
theorem sum_lines (f : Nat → Int) (ps : List Int) (hf : ∀ c, 0 ≤ f c) : ∀ l : List Nat, (((l.filter fun c => decide (0 < f c)).map (lineD f ps)).map amtD).sum = (l.map fun c => f c * ps.getD c 0).sum
  | [] => rfl
  | c :: r => by
    have ih := sum_lines f ps hf r
    by_cases h : 0 < f c
    · rw [List.filter_cons_of_pos (by simpa using h), List.map_cons, List.map_cons, List.map_cons, List.sum_cons, List.sum_cons, ih]
      rfl
    · rw [List.filter_cons_of_neg (by simpa using h), ih, List.map_cons, List.sum_cons]
      have : f c = 0 := by have := hf c; omega
      rw [this, Int.zero_mul, Int.zero_add]
theorem cost_idx (f : Nat → Int) {ps : List Int} (h : ps.length = 10) : costF f ps = ((List.range 10).map fun c => f c * ps.getD c 0).sum := by
  match ps, h with
  | [p0, p1, p2, p3, p4, p5, p6, p7, p8, p9], _ => simp [costF, tab, List.range, List.range.loop]
theorem sum_due {t : Tr} {a : Acc} (ok : t.Ok) (oa : AccOk a) : ((dueL t a).map amtD).sum = prA t a := by
  unfold prA
  rcases prD_is ok.p ok.r a.s with h | ⟨ps, h, hl, hb⟩
  · rw [due_non h, price_none h]
    rfl
  · rw [due_some h, price_some h, cost_idx _ hl]
    exact sum_lines _ _ (fun c => sec_nn ok.b oa.b0 oa.be c) _
abbrev rowH (t : Tr) (a : Acc) : D := .tup [.lst (dueL t a), .lst (dueL t a)]
local macro_rules | `(tactic| wtm_at "pv de") => `(tactic| ((with_reducible show DE _ _ (Expr.Call (Expr.Attribute _ (Str.ofString "lines") _) _ _ _) _ _ _); refine (df_methL (by with_reducible assumption) (by with_reducible assumption) (by with_reducible assumption) (by decide) ?_).de))
theorem ok_law {M : Md} {f C CB CP CX tb : Addr} {fd : FuncData} (G : Fun M.K "law" "law" s_law f fd) (T : TT M C) (hC : M.mg "Tariff" = some (.ref C)) (hC2 : M.mg "Plan" = some (.ref CP)) (hCB : M.mg "Bands" = some (.ref CB)) (bi1 : Bi M "sum")
    (f00 : DefOk M 2 "_law_cell_at" 2 F_cellAt) (f1 : DefOk M 2 "_law_rows" 1 F_rows) (f2 : DefOk M 2 "_law_low" 1 F_low) (f3 : DefOk M 3 "_law_price_rows" 1 F_prRows) (f4 : DefOk M 3 "_law_account" 1 F_account)
    (mkB : MkOkN M CB 4 3 F_init []) (mk : MkOk M CP 2 2 F_pinit) (mk2 : MkOk M C 4 3 (F_tinit CP CX)) (f5 : CaOk M 5 "_law_due" 3 (F_due CB tb)) (f6 : DefOk M 3 "_law_alike" 2 (F_alike 2)) (m1 : MethOkL M C 5 "lines" 2 (F_lines C CB CP)) (m2 : MethOk M C 5 "price" 2 (F_price C CB CP)) : FnOk M.P M.w M.K M.mg M.base (L2.CX M.P M.w) 7 f fd ["_law_script"] (spC M.K 1 (F_lawT tb lamQ)) := by
  refine fn_okC G sc_law rfl ?_
  rintro ds lk cs P PX - ⟨⟨ns, hn, rfl⟩, rfl, rfl, hP⟩ X W c fb
  change DSs X W (_ :: _) [_, _, _, _, _, _, _, _, _, _, _, _, _] _ _ _ _ _
  have cl := T.cl
  refine dss_set c (fun d => ∃ z : Int, d = .int z) (by wtm_at "pv at") (by wtm_at "pv loc") ?_ ?_
  · wtm_at "pv"
    exact ⟨ns, 0, rfl, by decide, by decide, fun z => ⟨z, rfl⟩⟩
  rintro _ ⟨cell, rfl⟩
  refine ⟨_, by wtm_at "pv put", ?_⟩
  refine dss_set c (fun d => ∃ bs ls, WfRows bs ∧ WfLow ls ∧ d = bandsD CB bs ls) (by wtm_at "pv at") (by wtm_at "pv loc") ?_ ?_
  · refine de_makeW c hCB mkB (by decide) rfl ?_
    wtm_at "pv"
    intro bs wfb
    wtm_at "pv"
    intro d ls hd wl
    wtm_at "pv"
    exact ⟨bs, d, ls, rfl, hd, wfb, wl, bs, ls, wfb, wl, rfl⟩
  rintro _ ⟨bs, ls, wfb, wl, rfl⟩
  refine ⟨_, by wtm_at "pv put", ?_⟩
  refine dss_set c (fun d => ∃ rs, PlRows rs ∧ PrRows rs ∧ d = .lst (rs.map plRow)) (by wtm_at "pv at") (by wtm_at "pv loc") ?_ ?_
  · wtm_at "pv"
    intro rs wf _ _ pr
    exact ⟨rs, wf, pr, rfl⟩
  rintro _ ⟨rs, wf, pr, rfl⟩
  refine ⟨_, by wtm_at "pv put", ?_⟩
  refine dss_set c (fun d => ∃ t : Tr, t.Ok ∧ t.bs = bs ∧ t.ls = ls ∧ t.rs = rs ∧ d = t.d C CB CP) (by wtm_at "pv at") (by wtm_at "pv loc") ?_ ?_
  · refine de_makeX c hC mk2.d (by decide) rfl ?_
    wtm_at "pv"
    refine ⟨rs, rfl, wf, fun ws hw => ?_⟩
    wtm_at "pv"
    obtain ⟨p1, p2⟩ := pr.ok
    refine ⟨bandsD CB bs ls, rs, ws, rfl, wf, p1, fun _ ws' hw' => ⟨⟨bs, ls, rs, ws'⟩, ⟨wfb, wl, wf, pr⟩, rfl, rfl, rfl, rfl⟩, fun ⟨r, hr, hf⟩ => ?_⟩
    rw [p2 r hr] at hf
    cases hf
  rintro _ ⟨t, ok, rfl, rfl, rfl, rfl⟩
  refine ⟨_, by wtm_at "pv put", ?_⟩
  refine dss_mid (fun δ => δ = [.val (.lst (ns.map .int)), .val (.int cell), .val (bandsD CB t.bs t.ls), .val (.lst (t.rs.map plRow)), .val (t.d C CB CP), .acc [], .no, .no, .no, .no, .no, .look [], .heap [(tb, .tbl lamQ)]]) ?_ ?_
  · wtm_at "pv"
  rintro _ rfl
  refine dss_mid (fun δ => ∃ (as : List Acc) (s6 s7 s8 s9 s10 : PV.Slot), as.length ≤ 81 ∧ δ = [.val (.lst (ns.map .int)), .val (.int cell), .val (bandsD CB t.bs t.ls), .val (.lst (t.rs.map plRow)), .val (t.d C CB CP), .acc (as.map (rowH t)), s6, s7, s8, s9, s10, .look [], .heap [(tb, .tbl lamQ)]]) ?_ ?_
  · refine ds_for c (fun i δ => ∃ (as : List Acc) (s6 s7 s8 s9 s10 : PV.Slot), as.length = i ∧ δ = [.val (.lst (ns.map .int)), .val (.int cell), .val (bandsD CB t.bs t.ls), .val (.lst (t.rs.map plRow)), .val (t.d C CB CP), .acc (as.map (rowH t)), s6, s7, s8, s9, s10, .look [], .heap [(tb, .tbl lamQ)]]) (di_list ?_)
    wtm_at "pv"
    have e80 : PV.cutD (ns.map D.int) none (some 80) = (ns.take 80).map D.int := cut_to D.int ns 80
    refine ⟨⟨[], _, _, _, _, _, rfl, rfl⟩, fun i d δi hd => ?_, ?_⟩
    rotate_left
    · rintro _ ⟨as, s6, s7, s8, s9, s10, hl, rfl⟩
      rw [e80, List.length_append, List.length_map, List.length_take] at hl
      have hl : as.length = 1 + min 80 ns.length := hl
      exact ⟨as, s6, s7, s8, s9, s10, by omega, rfl⟩
    rintro ⟨as, s6, s7, s8, s9, s10, hl, rfl⟩
    have hi : i < 81 := by
      have := (List.getElem?_eq_some_iff.mp hd).1
      rw [e80, List.length_append, List.length_map, List.length_take] at this
      have this : i < 1 + min 80 ns.length := this
      omega
    obtain ⟨one, rfl⟩ : ∃ p : Int, d = .int p := by
      rw [e80] at hd
      rcases List.mem_append.mp (List.mem_of_getElem? hd) with h | h
      · rw [List.mem_singleton.mp h]
        exact ⟨_, rfl⟩
      · obtain ⟨p, _, rfl⟩ := List.mem_map.mp h
        exact ⟨p, rfl⟩
    clear hd
    refine ⟨_, _, by wtm_at "pv dg", ?_⟩
    refine dss_set c (fun d => ∃ a, AccOk a ∧ d = accD a) (by wtm_at "pv at") (by wtm_at "pv loc") ?_ ?_
    · wtm_at "pv"
      intro a ha
      exact ⟨a, ha, rfl⟩
    rintro _ ⟨a, oka, rfl⟩
    refine ⟨_, by wtm_at "pv put", ?_⟩
    refine dss_mid (fun δ => δ = [.val (.lst (ns.map .int)), .val (.int cell), .val (bandsD CB t.bs t.ls), .val (.lst (t.rs.map plRow)), .val (t.d C CB CP), .acc (as.map (rowH t)), .val (.int one), .val (accD a), .val (.lst (dueL t a)), s9, s10, .look [], .heap [(tb, .tbl lamQ)]]) ?_ ?_
    · refine ds_asgX c (dx_call c f5 (by decide) (by wtm_at "pv gl") ?_)
      wtm_at "pv"
      refine ⟨12, _, [], _, [], ⟨by wtm_at "pv hs", .l .nil, (fun z hz => nomatch hz), (fun z hz => nomatch hz)⟩, t, a, rfl, ok, oka, rfl, rfl, ?_⟩
      exact ⟨_, (show Hput _ [(tb, .tbl lamQ)] 12 _ by wtm_at "pv hput"), _, _, by wtm_at "pv dg", rfl⟩
    rintro _ rfl
    have mk : ∀ {P : List D → Prop} {PX : Xd → Prop}, P (dueL t a) → F_lines C CB CP [t.d C CB CP, accD a] P PX := fun {P PX} p => by
      obtain ⟨l1, l2⟩ := figs_len oka.s
      refine ⟨t.bs, t.ls, t.rs, t.ws, .int a.p, a.s, a.b, a.e, rfl, ok, by omega, oka.b0, oka.be, oka.e1, fun h => ?_, fun ps h hl => ?_⟩
      · rw [due_non h] at p; exact p
      · rw [due_some h] at p; exact p
    obtain ⟨k1, k2⟩ := ok_lines_s t a
    refine dss_set c (fun d => d = .lst (dueL t a)) (by wtm_at "pv at") (by wtm_at "pv loc") ?_ ?_
    · refine (df_methL c m1 cl (by decide) ?_).de
      wtm_at "pv"
      exact mk rfl
    rintro _ rfl
    refine ⟨_, by wtm_at "pv put", ?_⟩
    wtm_at "pv"
    refine ⟨_, rfl, k2, true, rfl, ?_⟩
    wtm_at "pv"
    refine de_lcN D c (by wtm_at "pv own") (by decide +kernel) (di_list ?_)
    wtm_at "pv"
    have hln : (dueL t a).length ≤ 1000 := due_len t a
    refine lcb_map (dueL t a) id (fun d => .int (amtD d)) (List.map_id _).symm (by omega) (fun z hz => ?_) ?_
    · obtain ⟨n, fn, pn, rfl⟩ := due_mem hz
      refine ⟨_, _, (by wtm_at "pv dg"), (by decide), fun X' c' => ?_⟩
      wtm_at "pv"
      exact o_ix_t (d := .int (fn * pn)) rfl rfl
    refine ⟨(dueL t a).map amtD, by rw [List.map_map]; rfl, ?_⟩
    rw [sum_due ok oka]
    have mp : ∀ {P : D → Prop} {PX : Xd → Prop}, P (.int (prA t a)) → F_price C CB CP [t.d C CB CP, accD a] P PX := fun {P PX} p => price_acc ok oka p
    wtm_at "pv"
    refine mp ?_
    wtm_at "pv"
    · rename_i hw
      simp [eqb_int2] at hw
    refine de_appF (df_methL c m1 cl (by decide) ?_)
    wtm_at "pv"
    refine mk ⟨by omega, ?_⟩
    wtm_at "pv"
    refine mk ?_
    wtm_at "pv"
    refine ⟨_, rfl, k2, true, rfl, ?_⟩
    wtm_at "pv"
    exact ⟨as ++ [a], _, _, _, _, _, by rw [List.length_append, hl]; rfl, by rw [List.map_append]; rfl⟩
  rintro _ ⟨as, s6, s7, s8, s9, s10, hl, rfl⟩
  refine dss_freeze (x := "_law_held") c (by wtm_at "pv at") ⟨_, by wtm_at "pv put", ?_⟩
  wtm_at "pv"
  refine de_lcN Acc c (by wtm_at "pv own") (by decide +kernel) (di_list ?_)
  wtm_at "pv"
  refine ⟨as, rowH t, (fun _ => false), (fun _ => .non), rfl, by omega, fun a ha => ?_, ?_⟩
  · obtain ⟨k1, k2⟩ := ok_lines_s t a
    refine ⟨_, _, by wtm_at "pv dg", by decide, fun X' c' => dts_one ?_, fun z => nomatch z⟩
    wtm_at "pv"
    refine o_ne k1 k1 ?_
    rw [eqb_self 64 _ k1]
    exact ⟨false, rfl, rfl⟩
  · have e : (as.filter fun _ => false) = [] := by simp
    rw [e, List.map_nil]
    wtm_at "pv"
    rw [eqb_self 64 (.lst []) rfl]
    exact ⟨12, _, by wtm_at "pv hs", hP _⟩
end K82
namespace K82
open PySem PySem.Spec PyProof.Rows L2 PV
theorem all_mk {l : PySem.W.OpenLaw} {w : World} {K : PySem.W.Frag} {h : Heap} {mg : Str → Option Value} {fa f1 f2 f3 f4 f5 f6 f7 f8 f9 f10 f11 f12 f13 f14 f15 f16 f17 f18 f19 f20 f21 f22 f23 f24 f25 f26 f27 f28 f29 f30 f31 f32 f33 f34 f35 f36 C_Bands C_Plan C_Tariff TT13 E_NoTime E_NoPrices cT pT : Addr} (X : K.In h) (G : h.Ns mainGlobals mg) (hfa : mg "law" = some (.ref fa))
    {od1 an1 od2 an2 od3 an3 od4 an4 od5 an5 od6 an6 od7 an7 od8 an8 od9 an9 od10 an10 od11 an11 od12 an12 od13 an13 od14 an14 od15 an15 od16 an16 od17 an17 od18 an18 od19 an19 od20 an20 od21 an21 od22 an22 od23 an23 od24 an24 od25 an25 od26 an26 od27 an27 od28 an28 od29 an29 od30 an30 od31 an31 od32 an32 od33 an33 od34 an34 od35 an35 od36 an36 : Option Addr} {sl1 sl2 sl3 sl4 sl5 sl6 sl7 sl8 sl9 sl10 sl11 sl12 sl13 sl14 sl15 sl16 sl17 sl18 sl19 sl20 sl21 sl22 sl23 sl24 sl25 sl26 sl27 sl28 sl29 sl30 sl31 sl32 sl33 sl34 sl35 sl36 : Array (Option Value)} {oc1 kV1 dc1 pm1 cd1 ct1 oc2 kV2 dc2 pm2 cd2 ct2 oc3 kV3 dc3 pm3 cd3 ct3 oc4 kV4 dc4 pm4 cd4 ct4 oc5 kV5 dc5 pm5 cd5 ct5 oc6 kV6 dc6 pm6 cd6 ct6 oc7 kV7 dc7 pm7 cd7 ct7 oc8 kV8 dc8 pm8 cd8 ct8 oc9 kV9 dc9 pm9 cd9 ct9 oc10 kV10 dc10 pm10 cd10 ct10 oc11 kV11 dc11 pm11 cd11 ct11 oc12 kV12 dc12 pm12 cd12 ct12 oc13 kV13 dc13 pm13 cd13 ct13 oc14 kV14 dc14 pm14 cd14 ct14 oc15 kV15 dc15 pm15 cd15 ct15 oc16 kV16 dc16 pm16 cd16 ct16 oc17 kV17 dc17 pm17 cd17 ct17 oc18 kV18 dc18 pm18 cd18 ct18 oc19 kV19 dc19 pm19 cd19 ct19 oc20 kV20 dc20 pm20 cd20 ct20 oc21 kV21 dc21 pm21 cd21 ct21 oc22 kV22 dc22 pm22 cd22 ct22 oc23 kV23 dc23 pm23 cd23 ct23 oc24 kV24 dc24 pm24 cd24 ct24 oc25 kV25 dc25 pm25 cd25 ct25 oc26 kV26 dc26 pm26 cd26 ct26 oc27 kV27 dc27 pm27 cd27 ct27 oc28 kV28 dc28 pm28 cd28 ct28 oc29 kV29 dc29 pm29 cd29 ct29 oc30 kV30 dc30 pm30 cd30 ct30 oc31 kV31 dc31 pm31 cd31 ct31 oc32 kV32 dc32 pm32 cd32 ct32 oc33 kV33 dc33 pm33 cd33 ct33 oc34 kV34 dc34 pm34 ct34 oc35 kV35 dc35 pm35 cd35 ct35 oc36 kV36 dc36 pm36 cd36 ct36 : Value}
    {ecT : Value} {dcT : Option Addr} {vsT : Array Value} {slT : Array (Option Value)}
    {oT13 : Obj}
    {tk_DAY tk_BANDS tk_WEEK tk_LAST_TIME tk_MOST_ROWS_bands tk_MOST_ROWS_plans tk_MOST_PRICE tk_MOST_FIGURES tk_FIGURES : Tok}
    (aC_Bands : PySem.W.nsIn K mainGlobals "Bands" = some (some (.ref C_Bands)))
    (pg_Bands : PySem.W.plainGet K C_Bands Str.empty = true)
    (hd_Bands : PySem.W.hasDictIn K C_Bands = true)
    (po_Bands : PySem.W.plainOver K C_Bands = true)
    (sa_Bands : PySem.W.findIn K (.ref C_Bands) "__setattr__" = some (some (.builtin "object.__setattr__")))
    (mk_Bands : PySem.W.makesIn K C_Bands = true)
    (kc_Bands : PySem.W.keepIn K (.ref C_Bands) = true)
    (na_begins_Bands : PySem.W.findIn K (.ref C_Bands) "begins" = some none)
    (na_ends_Bands : PySem.W.findIn K (.ref C_Bands) "ends" = some none)
    (na_kinds_Bands : PySem.W.findIn K (.ref C_Bands) "kinds" = some none)
    (na_low_Bands : PySem.W.findIn K (.ref C_Bands) "low" = some none)
    (aC_Plan : PySem.W.nsIn K mainGlobals "Plan" = some (some (.ref C_Plan)))
    (pg_Plan : PySem.W.plainGet K C_Plan Str.empty = true)
    (hd_Plan : PySem.W.hasDictIn K C_Plan = true)
    (po_Plan : PySem.W.plainOver K C_Plan = true)
    (sa_Plan : PySem.W.findIn K (.ref C_Plan) "__setattr__" = some (some (.builtin "object.__setattr__")))
    (mk_Plan : PySem.W.makesIn K C_Plan = true)
    (kc_Plan : PySem.W.keepIn K (.ref C_Plan) = true)
    (na_things_Plan : PySem.W.findIn K (.ref C_Plan) "things" = some none)
    (na_ways_Plan : PySem.W.findIn K (.ref C_Plan) "ways" = some none)
    (aC_Tariff : PySem.W.nsIn K mainGlobals "Tariff" = some (some (.ref C_Tariff)))
    (pg_Tariff : PySem.W.plainGet K C_Tariff Str.empty = true)
    (hd_Tariff : PySem.W.hasDictIn K C_Tariff = true)
    (po_Tariff : PySem.W.plainOver K C_Tariff = true)
    (sa_Tariff : PySem.W.findIn K (.ref C_Tariff) "__setattr__" = some (some (.builtin "object.__setattr__")))
    (mk_Tariff : PySem.W.makesIn K C_Tariff = true)
    (kc_Tariff : PySem.W.keepIn K (.ref C_Tariff) = true)
    (na_bands_Tariff : PySem.W.findIn K (.ref C_Tariff) "bands" = some none)
    (na_plan_Tariff : PySem.W.findIn K (.ref C_Tariff) "plan" = some none)
    (a1 : PySem.W.nsIn K mainGlobals "_law_alike" = some (some (.ref f1))) (l1 : K.lookup f1 = some ⟨oc1, od1, .func (PySem.W.fnOf "_law_alike" "_law_alike" (defArgs s_alike) (defBody s_alike) (defScope s_alike) .none kV1 dc1 pm1 an1 cd1 ct1), sl1⟩) (c1 : PySem.W.codeIn K cd1 "_law_alike" = true) (k1 : PySem.W.keepIn K (.ref f1) = true)
    (a2 : PySem.W.nsIn K mainGlobals "_law_alike" = some (some (.ref f2))) (l2 : K.lookup f2 = some ⟨oc2, od2, .func (PySem.W.fnOf "_law_alike" "_law_alike" (defArgs s_alike) (defBody s_alike) (defScope s_alike) .none kV2 dc2 pm2 an2 cd2 ct2), sl2⟩) (c2 : PySem.W.codeIn K cd2 "_law_alike" = true) (k2 : PySem.W.keepIn K (.ref f2) = true)
    (a3 : PySem.W.nsIn K mainGlobals "_law_alike" = some (some (.ref f3))) (l3 : K.lookup f3 = some ⟨oc3, od3, .func (PySem.W.fnOf "_law_alike" "_law_alike" (defArgs s_alike) (defBody s_alike) (defScope s_alike) .none kV3 dc3 pm3 an3 cd3 ct3), sl3⟩) (c3 : PySem.W.codeIn K cd3 "_law_alike" = true) (k3 : PySem.W.keepIn K (.ref f3) = true)
    (a4 : PySem.W.nsIn K mainGlobals "_law_mixed" = some (some (.ref f4))) (l4 : K.lookup f4 = some ⟨oc4, od4, .func (PySem.W.fnOf "_law_mixed" "_law_mixed" (defArgs s_mixed) (defBody s_mixed) (defScope s_mixed) .none kV4 dc4 pm4 an4 cd4 ct4), sl4⟩) (c4 : PySem.W.codeIn K cd4 "_law_mixed" = true) (k4 : PySem.W.keepIn K (.ref f4) = true)
    (a5 : PySem.W.nsIn K mainGlobals "is_between" = some (some (.ref f5))) (l5 : K.lookup f5 = some ⟨oc5, od5, .func (PySem.W.fnOf "is_between" "is_between" (defArgs s_is_between) (defBody s_is_between) (defScope s_is_between) .none kV5 dc5 pm5 an5 cd5 ct5), sl5⟩) (c5 : PySem.W.codeIn K cd5 "is_between" = true) (k5 : PySem.W.keepIn K (.ref f5) = true)
    (a6 : PySem.W.nsIn K mainGlobals "is_figures" = some (some (.ref f6))) (l6 : K.lookup f6 = some ⟨oc6, od6, .func (PySem.W.fnOf "is_figures" "is_figures" (defArgs s_is_figures) (defBody s_is_figures) (defScope s_is_figures) .none kV6 dc6 pm6 an6 cd6 ct6), sl6⟩) (c6 : PySem.W.codeIn K cd6 "is_figures" = true) (k6 : PySem.W.keepIn K (.ref f6) = true)
    (a7 : PySem.W.nsIn K mainGlobals "need_time" = some (some (.ref f7))) (l7 : K.lookup f7 = some ⟨oc7, od7, .func (PySem.W.fnOf "need_time" "need_time" (defArgs s_need_time) (defBody s_need_time) (defScope s_need_time) .none kV7 dc7 pm7 an7 cd7 ct7), sl7⟩) (c7 : PySem.W.codeIn K cd7 "need_time" = true) (k7 : PySem.W.keepIn K (.ref f7) = true)
    (a8 : PySem.W.nsIn K mainGlobals "is_row" = some (some (.ref f8))) (l8 : K.lookup f8 = some ⟨oc8, od8, .func (PySem.W.fnOf "is_row" "is_row" (defArgs s_is_row) (defBody s_is_row) (defScope s_is_row) .none kV8 dc8 pm8 an8 cd8 ct8), sl8⟩) (c8 : PySem.W.codeIn K cd8 "is_row" = true) (k8 : PySem.W.keepIn K (.ref f8) = true)
    (a9 : PySem.W.nsIn K mainGlobals "_law_rows" = some (some (.ref f9))) (l9 : K.lookup f9 = some ⟨oc9, od9, .func (PySem.W.fnOf "_law_rows" "_law_rows" (defArgs s_rows) (defBody s_rows) (defScope s_rows) .none kV9 dc9 pm9 an9 cd9 ct9), sl9⟩) (c9 : PySem.W.codeIn K cd9 "_law_rows" = true) (k9 : PySem.W.keepIn K (.ref f9) = true)
    (a10 : PySem.W.nsIn K mainGlobals "_law_low" = some (some (.ref f10))) (l10 : K.lookup f10 = some ⟨oc10, od10, .func (PySem.W.fnOf "_law_low" "_law_low" (defArgs s_low) (defBody s_low) (defScope s_low) .none kV10 dc10 pm10 an10 cd10 ct10), sl10⟩) (c10 : PySem.W.codeIn K cd10 "_law_low" = true) (k10 : PySem.W.keepIn K (.ref f10) = true)
    (a11 : PySem.W.nsIn K mainGlobals "are_rows" = some (some (.ref f11))) (l11 : K.lookup f11 = some ⟨oc11, od11, .func (PySem.W.fnOf "are_rows" "are_rows" (defArgs s_are_rows) (defBody s_are_rows) (defScope s_are_rows) .none kV11 dc11 pm11 an11 cd11 ct11), sl11⟩) (c11 : PySem.W.codeIn K cd11 "are_rows" = true) (k11 : PySem.W.keepIn K (.ref f11) = true)
    (a12 : PySem.W.nsIn K mainGlobals "are_days" = some (some (.ref f12))) (l12 : K.lookup f12 = some ⟨oc12, od12, .func (PySem.W.fnOf "are_days" "are_days" (defArgs s_are_days) (defBody s_are_days) (defScope s_are_days) .none kV12 dc12 pm12 an12 cd12 ct12), sl12⟩) (c12 : PySem.W.codeIn K cd12 "are_days" = true) (k12 : PySem.W.keepIn K (.ref f12) = true)
    (a13 : PySem.W.findIn K (.ref C_Bands) "__init__" = some (some (.ref f13))) (l13 : K.lookup f13 = some ⟨oc13, od13, .func (PySem.W.fnOf "__init__" "Bands.__init__" (defArgs s_Bands_init) (defBody s_Bands_init) (defScope s_Bands_init) (.ref TT13) kV13 dc13 pm13 an13 cd13 ct13), sl13⟩) (c13 : PySem.W.codeIn K cd13 "Bands.__init__" = true) (k13 : PySem.W.keepIn K (.ref f13) = true)
    (i13 : PySem.W.isFn K (.ref f13) = true)
    (lT13 : K.lookup TT13 = some oT13) (dT13 : ∃ n, oT13.data = .seq ([.none] : List Value).toArray n)
    (a14 : PySem.W.findIn K (.ref C_Bands) "of_day" = some (some (.ref f14))) (l14 : K.lookup f14 = some ⟨oc14, od14, .func (PySem.W.fnOf "of_day" "Bands.of_day" (defArgs s_Bands_of_day) (defBody s_Bands_of_day) (defScope s_Bands_of_day) .none kV14 dc14 pm14 an14 cd14 ct14), sl14⟩) (c14 : PySem.W.codeIn K cd14 "Bands.of_day" = true) (k14 : PySem.W.keepIn K (.ref f14) = true)
    (i14 : PySem.W.isFn K (.ref f14) = true)
    (a15 : PySem.W.findIn K (.ref C_Bands) "ahead_of" = some (some (.ref f15))) (l15 : K.lookup f15 = some ⟨oc15, od15, .func (PySem.W.fnOf "ahead_of" "Bands.ahead_of" (defArgs s_Bands_ahead_of) (defBody s_Bands_ahead_of) (defScope s_Bands_ahead_of) .none kV15 dc15 pm15 an15 cd15 ct15), sl15⟩) (c15 : PySem.W.codeIn K cd15 "Bands.ahead_of" = true) (k15 : PySem.W.keepIn K (.ref f15) = true)
    (i15 : PySem.W.isFn K (.ref f15) = true)
    (a16 : PySem.W.findIn K (.ref C_Bands) "seconds" = some (some (.ref f16))) (l16 : K.lookup f16 = some ⟨oc16, od16, .func (PySem.W.fnOf "seconds" "Bands.seconds" (defArgs s_Bands_seconds) (defBody s_Bands_seconds) (defScope s_Bands_seconds) .none kV16 dc16 pm16 an16 cd16 ct16), sl16⟩) (c16 : PySem.W.codeIn K cd16 "Bands.seconds" = true) (k16 : PySem.W.keepIn K (.ref f16) = true)
    (i16 : PySem.W.isFn K (.ref f16) = true)
    (a17 : PySem.W.nsIn K mainGlobals "are_prices" = some (some (.ref f17))) (l17 : K.lookup f17 = some ⟨oc17, od17, .func (PySem.W.fnOf "are_prices" "are_prices" (defArgs s_are_prices) (defBody s_are_prices) (defScope s_are_prices) .none kV17 dc17 pm17 an17 cd17 ct17), sl17⟩) (c17 : PySem.W.codeIn K cd17 "are_prices" = true) (k17 : PySem.W.keepIn K (.ref f17) = true)
    (a18 : PySem.W.nsIn K mainGlobals "need_prices" = some (some (.ref f18))) (l18 : K.lookup f18 = some ⟨oc18, od18, .func (PySem.W.fnOf "need_prices" "need_prices" (defArgs s_need_prices) (defBody s_need_prices) (defScope s_need_prices) .none kV18 dc18 pm18 an18 cd18 ct18), sl18⟩) (c18 : PySem.W.codeIn K cd18 "need_prices" = true) (k18 : PySem.W.keepIn K (.ref f18) = true)
    (a19 : PySem.W.findIn K (.ref C_Bands) "cost" = some (some (.ref f19))) (l19 : K.lookup f19 = some ⟨oc19, od19, .func (PySem.W.fnOf "cost" "Bands.cost" (defArgs s_Bands_cost) (defBody s_Bands_cost) (defScope s_Bands_cost) .none kV19 dc19 pm19 an19 cd19 ct19), sl19⟩) (c19 : PySem.W.codeIn K cd19 "Bands.cost" = true) (k19 : PySem.W.keepIn K (.ref f19) = true)
    (i19 : PySem.W.isFn K (.ref f19) = true)
    (a20 : PySem.W.nsIn K mainGlobals "_law_prices" = some (some (.ref f20))) (l20 : K.lookup f20 = some ⟨oc20, od20, .func (PySem.W.fnOf "_law_prices" "_law_prices" (defArgs s_prices) (defBody s_prices) (defScope s_prices) .none kV20 dc20 pm20 an20 cd20 ct20), sl20⟩) (c20 : PySem.W.codeIn K cd20 "_law_prices" = true) (k20 : PySem.W.keepIn K (.ref f20) = true)
    (a21 : PySem.W.findIn K (.ref C_Plan) "__init__" = some (some (.ref f21))) (l21 : K.lookup f21 = some ⟨oc21, od21, .func (PySem.W.fnOf "__init__" "Plan.__init__" (defArgs s_Plan_init) (defBody s_Plan_init) (defScope s_Plan_init) .none kV21 dc21 pm21 an21 cd21 ct21), sl21⟩) (c21 : PySem.W.codeIn K cd21 "Plan.__init__" = true) (k21 : PySem.W.keepIn K (.ref f21) = true)
    (i21 : PySem.W.isFn K (.ref f21) = true)
    (a22 : PySem.W.findIn K (.ref C_Plan) "longest" = some (some (.ref f22))) (l22 : K.lookup f22 = some ⟨oc22, od22, .func (PySem.W.fnOf "longest" "Plan.longest" (defArgs s_Plan_longest) (defBody s_Plan_longest) (defScope s_Plan_longest) .none kV22 dc22 pm22 an22 cd22 ct22), sl22⟩) (c22 : PySem.W.codeIn K cd22 "Plan.longest" = true) (k22 : PySem.W.keepIn K (.ref f22) = true)
    (i22 : PySem.W.isFn K (.ref f22) = true)
    (a23 : PySem.W.findIn K (.ref C_Plan) "rows" = some (some (.ref f23))) (l23 : K.lookup f23 = some ⟨oc23, od23, .func (PySem.W.fnOf "rows" "Plan.rows" (defArgs s_Plan_rows) (defBody s_Plan_rows) (defScope s_Plan_rows) .none kV23 dc23 pm23 an23 cd23 ct23), sl23⟩) (c23 : PySem.W.codeIn K cd23 "Plan.rows" = true) (k23 : PySem.W.keepIn K (.ref f23) = true)
    (i23 : PySem.W.isFn K (.ref f23) = true)
    (a24 : PySem.W.findIn K (.ref C_Tariff) "__init__" = some (some (.ref f24))) (l24 : K.lookup f24 = some ⟨oc24, od24, .func (PySem.W.fnOf "__init__" "Tariff.__init__" (defArgs s_Tariff_init) (defBody s_Tariff_init) (defScope s_Tariff_init) .none kV24 dc24 pm24 an24 cd24 ct24), sl24⟩) (c24 : PySem.W.codeIn K cd24 "Tariff.__init__" = true) (k24 : PySem.W.keepIn K (.ref f24) = true)
    (i24 : PySem.W.isFn K (.ref f24) = true)
    (a25 : PySem.W.findIn K (.ref C_Plan) "found" = some (some (.ref f25))) (l25 : K.lookup f25 = some ⟨oc25, od25, .func (PySem.W.fnOf "found" "Plan.found" (defArgs s_Plan_found) (defBody s_Plan_found) (defScope s_Plan_found) .none kV25 dc25 pm25 an25 cd25 ct25), sl25⟩) (c25 : PySem.W.codeIn K cd25 "Plan.found" = true) (k25 : PySem.W.keepIn K (.ref f25) = true)
    (i25 : PySem.W.isFn K (.ref f25) = true)
    (a26 : PySem.W.findIn K (.ref C_Tariff) "prices_of" = some (some (.ref f26))) (l26 : K.lookup f26 = some ⟨oc26, od26, .func (PySem.W.fnOf "prices_of" "Tariff.prices_of" (defArgs s_Tariff_prices_of) (defBody s_Tariff_prices_of) (defScope s_Tariff_prices_of) .none kV26 dc26 pm26 an26 cd26 ct26), sl26⟩) (c26 : PySem.W.codeIn K cd26 "Tariff.prices_of" = true) (k26 : PySem.W.keepIn K (.ref f26) = true)
    (i26 : PySem.W.isFn K (.ref f26) = true)
    (a27 : PySem.W.findIn K (.ref C_Tariff) "price" = some (some (.ref f27))) (l27 : K.lookup f27 = some ⟨oc27, od27, .func (PySem.W.fnOf "price" "Tariff.price" (defArgs s_Tariff_price) (defBody s_Tariff_price) (defScope s_Tariff_price) .none kV27 dc27 pm27 an27 cd27 ct27), sl27⟩) (c27 : PySem.W.codeIn K cd27 "Tariff.price" = true) (k27 : PySem.W.keepIn K (.ref f27) = true)
    (i27 : PySem.W.isFn K (.ref f27) = true)
    (a28 : PySem.W.nsIn K mainGlobals "_law_figures" = some (some (.ref f28))) (l28 : K.lookup f28 = some ⟨oc28, od28, .func (PySem.W.fnOf "_law_figures" "_law_figures" (defArgs s_figures) (defBody s_figures) (defScope s_figures) .none kV28 dc28 pm28 an28 cd28 ct28), sl28⟩) (c28 : PySem.W.codeIn K cd28 "_law_figures" = true) (k28 : PySem.W.keepIn K (.ref f28) = true)
    (a29 : PySem.W.nsIn K mainGlobals "_law_price_rows" = some (some (.ref f29))) (l29 : K.lookup f29 = some ⟨oc29, od29, .func (PySem.W.fnOf "_law_price_rows" "_law_price_rows" (defArgs s_price_rows) (defBody s_price_rows) (defScope s_price_rows) .none kV29 dc29 pm29 an29 cd29 ct29), sl29⟩) (c29 : PySem.W.codeIn K cd29 "_law_price_rows" = true) (k29 : PySem.W.keepIn K (.ref f29) = true)
    (a30 : PySem.W.nsIn K mainGlobals "_law_cell_at" = some (some (.ref f30))) (l30 : K.lookup f30 = some ⟨oc30, od30, .func (PySem.W.fnOf "_law_cell_at" "_law_cell_at" (defArgs s_cell_at) (defBody s_cell_at) (defScope s_cell_at) .none kV30 dc30 pm30 an30 cd30 ct30), sl30⟩) (c30 : PySem.W.codeIn K cd30 "_law_cell_at" = true) (k30 : PySem.W.keepIn K (.ref f30) = true)
    (a31 : PySem.W.nsIn K mainGlobals "_law_time" = some (some (.ref f31))) (l31 : K.lookup f31 = some ⟨oc31, od31, .func (PySem.W.fnOf "_law_time" "_law_time" (defArgs s_time) (defBody s_time) (defScope s_time) .none kV31 dc31 pm31 an31 cd31 ct31), sl31⟩) (c31 : PySem.W.codeIn K cd31 "_law_time" = true) (k31 : PySem.W.keepIn K (.ref f31) = true)
    (a32 : PySem.W.nsIn K mainGlobals "_law_account" = some (some (.ref f32))) (l32 : K.lookup f32 = some ⟨oc32, od32, .func (PySem.W.fnOf "_law_account" "_law_account" (defArgs s_account) (defBody s_account) (defScope s_account) .none kV32 dc32 pm32 an32 cd32 ct32), sl32⟩) (c32 : PySem.W.codeIn K cd32 "_law_account" = true) (k32 : PySem.W.keepIn K (.ref f32) = true)
    (a33 : PySem.W.findIn K (.ref C_Tariff) "lines" = some (some (.ref f33))) (l33 : K.lookup f33 = some ⟨oc33, od33, .func (PySem.W.fnOf "lines" "Tariff.lines" (defArgs s_Tariff_lines) (defBody s_Tariff_lines) (defScope s_Tariff_lines) .none kV33 dc33 pm33 an33 cd33 ct33), sl33⟩) (c33 : PySem.W.codeIn K cd33 "Tariff.lines" = true) (k33 : PySem.W.keepIn K (.ref f33) = true)
    (i33 : PySem.W.isFn K (.ref f33) = true)
    (a34 : PySem.W.nsIn K mainGlobals "_law_prices_of" = some (some (.ref f34))) (l34 : K.lookup f34 = some ⟨oc34, od34, .func (PySem.W.fnOf "_law_prices_of" "_law_prices_of" (defArgs s_prices_of) (defBody s_prices_of) (defScope s_prices_of) .none kV34 dc34 pm34 an34 (.ref cT) ct34), sl34⟩) (c34 : PySem.W.codeIn K (.ref cT) "_law_prices_of" = true) (k34 : PySem.W.keepIn K (.ref f34) = true)
    (a35 : PySem.W.nsIn K mainGlobals "_law_due" = some (some (.ref f35))) (l35 : K.lookup f35 = some ⟨oc35, od35, .func (PySem.W.fnOf "_law_due" "_law_due" (defArgs s_due) (defBody s_due) (defScope s_due) .none kV35 dc35 pm35 an35 cd35 ct35), sl35⟩) (c35 : PySem.W.codeIn K cd35 "_law_due" = true) (k35 : PySem.W.keepIn K (.ref f35) = true)
    (a36 : PySem.W.nsIn K mainGlobals "law" = some (some (.ref f36))) (l36 : K.lookup f36 = some ⟨oc36, od36, .func (PySem.W.fnOf "law" "law" (defArgs s_law) (defBody s_law) (defScope s_law) .none kV36 dc36 pm36 an36 cd36 ct36), sl36⟩) (c36 : PySem.W.codeIn K cd36 "law" = true) (k36 : PySem.W.keepIn K (.ref f36) = true)
    (z_isinstance : PySem.W.nsIn K mainGlobals "isinstance" = some none)
    (z_int : PySem.W.nsIn K mainGlobals "int" = some none)
    (z_bool : PySem.W.nsIn K mainGlobals "bool" = some none)
    (z_str : PySem.W.nsIn K mainGlobals "str" = some none)
    (z_len : PySem.W.nsIn K mainGlobals "len" = some none)
    (z_all : PySem.W.nsIn K mainGlobals "all" = some none)
    (z_range : PySem.W.nsIn K mainGlobals "range" = some none)
    (z_tuple : PySem.W.nsIn K mainGlobals "tuple" = some none)
    (z_list : PySem.W.nsIn K mainGlobals "list" = some none)
    (z_zip : PySem.W.nsIn K mainGlobals "zip" = some none)
    (z_set : PySem.W.nsIn K mainGlobals "set" = some none)
    (z_sorted : PySem.W.nsIn K mainGlobals "sorted" = some none)
    (z_min : PySem.W.nsIn K mainGlobals "min" = some none)
    (z_max : PySem.W.nsIn K mainGlobals "max" = some none)
    (z_sum : PySem.W.nsIn K mainGlobals "sum" = some none)
    (z_divmod : PySem.W.nsIn K mainGlobals "divmod" = some none)
    (z_enumerate : PySem.W.nsIn K mainGlobals "enumerate" = some none)
    (g_DAY : PySem.W.nsIn K mainGlobals "DAY" = some (some (.int 86400 tk_DAY)))
    (g_BANDS : PySem.W.nsIn K mainGlobals "BANDS" = some (some (.int 10 tk_BANDS)))
    (g_WEEK : PySem.W.nsIn K mainGlobals "WEEK" = some (some (.int 7 tk_WEEK)))
    (g_LAST_TIME : PySem.W.nsIn K mainGlobals "LAST_TIME" = some (some (.int 1000000000000000 tk_LAST_TIME)))
    (g_MOST_ROWS_bands : PySem.W.nsIn K mainGlobals "MOST_ROWS_bands" = some (some (.int 24 tk_MOST_ROWS_bands)))
    (g_MOST_ROWS_plans : PySem.W.nsIn K mainGlobals "MOST_ROWS_plans" = some (some (.int 200 tk_MOST_ROWS_plans)))
    (g_MOST_PRICE : PySem.W.nsIn K mainGlobals "MOST_PRICE" = some (some (.int 1000000000 tk_MOST_PRICE)))
    (g_MOST_FIGURES : PySem.W.nsIn K mainGlobals "MOST_FIGURES" = some (some (.int 15 tk_MOST_FIGURES)))
    (g_FIGURES : PySem.W.nsIn K mainGlobals "FIGURES" = some (some (.str "0123456789" tk_FIGURES)))
    (aX_NoTime : PySem.W.nsIn K mainGlobals "NoTime" = some (some (.ref E_NoTime)))
    (ex_NoTime : PySem.W.excIn K E_NoTime [.type "ValueError", .type "Exception", .type "BaseException", .type "object"] "ValueError.__new__" = true)
    (kp_NoTime : PySem.W.keepIn K (.ref E_NoTime) = true)
    (sb_NoTime : PySem.W.subIn K (.ref E_NoTime) (.type "BaseException") = some true)
    (ty_NoTime : PySem.W.typeIn K (.ref E_NoTime) = some (.type "type"))
    (aX_NoPrices : PySem.W.nsIn K mainGlobals "NoPrices" = some (some (.ref E_NoPrices)))
    (ex_NoPrices : PySem.W.excIn K E_NoPrices [.type "ValueError", .type "Exception", .type "BaseException", .type "object"] "ValueError.__new__" = true)
    (kp_NoPrices : PySem.W.keepIn K (.ref E_NoPrices) = true)
    (sb_NoPrices : PySem.W.subIn K (.ref E_NoPrices) (.type "BaseException") = some true)
    (ty_NoPrices : PySem.W.typeIn K (.ref E_NoPrices) = some (.type "type"))
    (tC : K.lookup cT = some ⟨ecT, dcT, .fields vsT, slT⟩) (tV : vsT[11]? = some (.ref pT)) (tN : K.lookup pT = none)
    : ∃ (fd : FuncData) (co tb : Addr), PySem.W.tabIn K "_law_prices_of" = some (co, tb) ∧ K.lookup tb = none ∧ (∀ (s : Shared) (u : Value), BindsTo s fd ⟨[u], []⟩ [("_law_script", u)]) ∧ ∀ base : Heap, K.In base → base.Ns mainGlobals mg → LamX.TabB base mg co tb → FnOk l.prog w K mg base (L2.CX l.prog w) 7 fa fd ["_law_script"] (spC K 1 (F_lawT tb lamQ)) := by
  have e := hfa.symm.trans (PySem.W.mg_of X G a36)
  cases e
  have F1 := fun_mk (st := s_alike) l1 c1 k1
  have b1 := F1.binds (ps := ["_law_one", "_law_other"]) fun _ _ _ _ _ _ us hl => match us, hl with | [_, _], _ => rfl
  have F2 := fun_mk (st := s_alike) l2 c2 k2
  have b2 := F2.binds (ps := ["_law_one", "_law_other"]) fun _ _ _ _ _ _ us hl => match us, hl with | [_, _], _ => rfl
  have F3 := fun_mk (st := s_alike) l3 c3 k3
  have b3 := F3.binds (ps := ["_law_one", "_law_other"]) fun _ _ _ _ _ _ us hl => match us, hl with | [_, _], _ => rfl
  have F4 := fun_mk (st := s_mixed) l4 c4 k4
  have b4 := F4.binds (ps := ["_law_cell", "_law_k"]) fun _ _ _ _ _ _ us hl => match us, hl with | [_, _], _ => rfl
  have F5 := fun_mk (st := s_is_between) l5 c5 k5
  have b5 := F5.binds (ps := ["thing", "least", "most"]) fun _ _ _ _ _ _ us hl => match us, hl with | [_, _, _], _ => rfl
  have F6 := fun_mk (st := s_is_figures) l6 c6 k6
  have b6 := F6.binds (ps := ["thing"]) fun _ _ _ _ _ _ us hl => match us, hl with | [_], _ => rfl
  have F7 := fun_mk (st := s_need_time) l7 c7 k7
  have b7 := F7.binds (ps := ["time"]) fun _ _ _ _ _ _ us hl => match us, hl with | [_], _ => rfl
  have F8 := fun_mk (st := s_is_row) l8 c8 k8
  have b8 := F8.binds (ps := ["row"]) fun _ _ _ _ _ _ us hl => match us, hl with | [_], _ => rfl
  have F9 := fun_mk (st := s_rows) l9 c9 k9
  have b9 := F9.binds (ps := ["_law_cell"]) fun _ _ _ _ _ _ us hl => match us, hl with | [_], _ => rfl
  have F10 := fun_mk (st := s_low) l10 c10 k10
  have b10 := F10.binds (ps := ["_law_cell"]) fun _ _ _ _ _ _ us hl => match us, hl with | [_], _ => rfl
  have F11 := fun_mk (st := s_are_rows) l11 c11 k11
  have b11 := F11.binds (ps := ["rows"]) fun _ _ _ _ _ _ us hl => match us, hl with | [_], _ => rfl
  have F12 := fun_mk (st := s_are_days) l12 c12 k12
  have b12 := F12.binds (ps := ["days"]) fun _ _ _ _ _ _ us hl => match us, hl with | [_], _ => rfl
  have F13 := fund_mk (st := s_Bands_init) (dvs := [V.non]) l13 c13 k13 lT13 dT13 (fun z => nomatch z) (.cons rfl .nil)
  obtain ⟨ds13, rd13, b13⟩ := F13.binds1 (ps := ["self", "rows", "low"]) 3 1 (fun z => nomatch z) rfl fun _ _ _ _ _ _ _ us its h1 h2 => match us, its, h1, h2 with | [_, _, _], [_], _, _ => ⟨_, rfl, rfl⟩
  cases rd13
  obtain ⟨ds13b, rd13b, b13b⟩ := F13.binds1 (ps := ["self", "rows", "low"]) 2 0 (fun z => nomatch z) rfl fun _ _ _ _ _ _ _ us its h1 h2 => match us, its, h1, h2 with | [_, _], [_], _, _ => ⟨_, rfl, rfl⟩
  have F14 := fun_mk (st := s_Bands_of_day) l14 c14 k14
  have b14 := F14.binds (ps := ["self", "weekday", "second"]) fun _ _ _ _ _ _ us hl => match us, hl with | [_, _, _], _ => rfl
  have F15 := fun_mk (st := s_Bands_ahead_of) l15 c15 k15
  have b15 := F15.binds (ps := ["self", "time"]) fun _ _ _ _ _ _ us hl => match us, hl with | [_, _], _ => rfl
  have F16 := fun_mk (st := s_Bands_seconds) l16 c16 k16
  have b16 := F16.binds (ps := ["self", "begin", "end"]) fun _ _ _ _ _ _ us hl => match us, hl with | [_, _, _], _ => rfl
  have F17 := fun_mk (st := s_are_prices) l17 c17 k17
  have b17 := F17.binds (ps := ["prices"]) fun _ _ _ _ _ _ us hl => match us, hl with | [_], _ => rfl
  have F18 := fun_mk (st := s_need_prices) l18 c18 k18
  have b18 := F18.binds (ps := ["prices"]) fun _ _ _ _ _ _ us hl => match us, hl with | [_], _ => rfl
  have F19 := fun_mk (st := s_Bands_cost) l19 c19 k19
  have b19 := F19.binds (ps := ["self", "begin", "end", "prices"]) fun _ _ _ _ _ _ us hl => match us, hl with | [_, _, _, _], _ => rfl
  have F20 := fun_mk (st := s_prices) l20 c20 k20
  have b20 := F20.binds (ps := ["_law_cell"]) fun _ _ _ _ _ _ us hl => match us, hl with | [_], _ => rfl
  have F21 := fun_mk (st := s_Plan_init) l21 c21 k21
  have b21 := F21.binds (ps := ["self", "rows"]) fun _ _ _ _ _ _ us hl => match us, hl with | [_, _], _ => rfl
  have F22 := fun_mk (st := s_Plan_longest) l22 c22 k22
  have b22 := F22.binds (ps := ["self", "number"]) fun _ _ _ _ _ _ us hl => match us, hl with | [_, _], _ => rfl
  have F23 := fun_mk (st := s_Plan_rows) l23 c23 k23
  have b23 := F23.binds (ps := ["self"]) fun _ _ _ _ _ _ us hl => match us, hl with | [_], _ => rfl
  have F24 := fun_mk (st := s_Tariff_init) l24 c24 k24
  have b24 := F24.binds (ps := ["self", "bands", "plan"]) fun _ _ _ _ _ _ us hl => match us, hl with | [_, _, _], _ => rfl
  have F25 := fun_mk (st := s_Plan_found) l25 c25 k25
  have b25 := F25.binds (ps := ["self", "number"]) fun _ _ _ _ _ _ us hl => match us, hl with | [_, _], _ => rfl
  have F26 := fun_mk (st := s_Tariff_prices_of) l26 c26 k26
  have b26 := F26.binds (ps := ["self", "number"]) fun _ _ _ _ _ _ us hl => match us, hl with | [_, _], _ => rfl
  have F27 := fun_mk (st := s_Tariff_price) l27 c27 k27
  have b27 := F27.binds (ps := ["self", "account"]) fun _ _ _ _ _ _ us hl => match us, hl with | [_, _], _ => rfl
  have F28 := fun_mk (st := s_figures) l28 c28 k28
  have b28 := F28.binds (ps := ["_law_cell", "_law_most"]) fun _ _ _ _ _ _ us hl => match us, hl with | [_, _], _ => rfl
  have F29 := fun_mk (st := s_price_rows) l29 c29 k29
  have b29 := F29.binds (ps := ["_law_cell"]) fun _ _ _ _ _ _ us hl => match us, hl with | [_], _ => rfl
  have F30 := fun_mk (st := s_cell_at) l30 c30 k30
  have b30 := F30.binds (ps := ["_law_script", "_law_k"]) fun _ _ _ _ _ _ us hl => match us, hl with | [_, _], _ => rfl
  have F31 := fun_mk (st := s_time) l31 c31 k31
  have b31 := F31.binds (ps := ["_law_cell"]) fun _ _ _ _ _ _ us hl => match us, hl with | [_], _ => rfl
  have F32 := fun_mk (st := s_account) l32 c32 k32
  have b32 := F32.binds (ps := ["_law_cell"]) fun _ _ _ _ _ _ us hl => match us, hl with | [_], _ => rfl
  have F33 := fun_mk (st := s_Tariff_lines) l33 c33 k33
  have b33 := F33.binds (ps := ["self", "account"]) fun _ _ _ _ _ _ us hl => match us, hl with | [_, _], _ => rfl
  have F34 := fun_mk (st := s_prices_of) l34 c34 k34
  have b34 := F34.binds (ps := ["_law_rows_here", "_law_number"]) fun _ _ _ _ _ _ us hl => match us, hl with | [_, _], _ => rfl
  have F35 := fun_mk (st := s_due) l35 c35 k35
  have b35 := F35.binds (ps := ["_law_bands", "_law_rows_here", "_law_account_here"]) fun _ _ _ _ _ _ us hl => match us, hl with | [_, _, _], _ => rfl
  have F36 := fun_mk (st := s_law) l36 c36 k36
  have tabT : PySem.W.tabIn K "_law_prices_of" = some (cT, pT) := by
    unfold PySem.W.tabIn
    rw [a34]
    simp only [l34, PySem.W.fnOf, tC, tV]
  refine ⟨PySem.W.fnOf "law" "law" (defArgs s_law) (defBody s_law) (defScope s_law) .none kV36 dc36 pm36 an36 cd36 ct36, cT, pT, tabT, tN, fun s v => .of_eq rfl, fun base _ _ TB => ?_⟩
  let M : Md := ⟨l.prog, w, K, mg, base⟩
  have B_isinstance : Bi M "isinstance" := PySem.W.mg_none_of X G z_isinstance
  have B_int : Bi M "int" := PySem.W.mg_none_of X G z_int
  have B_bool : Bi M "bool" := PySem.W.mg_none_of X G z_bool
  have B_str : Bi M "str" := PySem.W.mg_none_of X G z_str
  have B_len : Bi M "len" := PySem.W.mg_none_of X G z_len
  have B_all : Bi M "all" := PySem.W.mg_none_of X G z_all
  have B_range : Bi M "range" := PySem.W.mg_none_of X G z_range
  have B_tuple : Bi M "tuple" := PySem.W.mg_none_of X G z_tuple
  have B_list : Bi M "list" := PySem.W.mg_none_of X G z_list
  have B_zip : Bi M "zip" := PySem.W.mg_none_of X G z_zip
  have B_set : Bi M "set" := PySem.W.mg_none_of X G z_set
  have B_sorted : Bi M "sorted" := PySem.W.mg_none_of X G z_sorted
  have B_min : Bi M "min" := PySem.W.mg_none_of X G z_min
  have B_max : Bi M "max" := PySem.W.mg_none_of X G z_max
  have B_sum : Bi M "sum" := PySem.W.mg_none_of X G z_sum
  have B_divmod : Bi M "divmod" := PySem.W.mg_none_of X G z_divmod
  have B_enumerate : Bi M "enumerate" := PySem.W.mg_none_of X G z_enumerate
  have G_DAY : GlD M "DAY" (.int 86400) := ⟨.int 86400, _, PySem.W.mg_of X G g_DAY, by first | exact rfl | exact ⟨_, rfl⟩, fun _ => rfl⟩
  have G_BANDS : GlD M "BANDS" (.int 10) := ⟨.int 10, _, PySem.W.mg_of X G g_BANDS, by first | exact rfl | exact ⟨_, rfl⟩, fun _ => rfl⟩
  have G_WEEK : GlD M "WEEK" (.int 7) := ⟨.int 7, _, PySem.W.mg_of X G g_WEEK, by first | exact rfl | exact ⟨_, rfl⟩, fun _ => rfl⟩
  have G_LAST_TIME : GlD M "LAST_TIME" (.int 1000000000000000) := ⟨.int 1000000000000000, _, PySem.W.mg_of X G g_LAST_TIME, by first | exact rfl | exact ⟨_, rfl⟩, fun _ => rfl⟩
  have G_MOST_ROWS_bands : GlD M "MOST_ROWS_bands" (.int 24) := ⟨.int 24, _, PySem.W.mg_of X G g_MOST_ROWS_bands, by first | exact rfl | exact ⟨_, rfl⟩, fun _ => rfl⟩
  have G_MOST_ROWS_plans : GlD M "MOST_ROWS_plans" (.int 200) := ⟨.int 200, _, PySem.W.mg_of X G g_MOST_ROWS_plans, by first | exact rfl | exact ⟨_, rfl⟩, fun _ => rfl⟩
  have G_MOST_PRICE : GlD M "MOST_PRICE" (.int 1000000000) := ⟨.int 1000000000, _, PySem.W.mg_of X G g_MOST_PRICE, by first | exact rfl | exact ⟨_, rfl⟩, fun _ => rfl⟩
  have G_MOST_FIGURES : GlD M "MOST_FIGURES" (.int 15) := ⟨.int 15, _, PySem.W.mg_of X G g_MOST_FIGURES, by first | exact rfl | exact ⟨_, rfl⟩, fun _ => rfl⟩
  have G_FIGURES : GlD M "FIGURES" (.str "0123456789") := ⟨.str "0123456789", _, PySem.W.mg_of X G g_FIGURES, by first | exact rfl | exact ⟨_, rfl⟩, fun _ => rfl⟩
  have T_Bands : BT M C_Bands := ⟨⟨pg_Bands, hd_Bands, po_Bands, sa_Bands⟩, na_begins_Bands, na_ends_Bands, na_kinds_Bands, na_low_Bands⟩
  have H_Bands : M.mg "Bands" = some (.ref C_Bands) := PySem.W.mg_of X G aC_Bands
  have T_Plan : PT M C_Plan := ⟨⟨pg_Plan, hd_Plan, po_Plan, sa_Plan⟩, na_things_Plan, na_ways_Plan⟩
  have H_Plan : M.mg "Plan" = some (.ref C_Plan) := PySem.W.mg_of X G aC_Plan
  have T_Tariff : TT M C_Tariff := ⟨⟨pg_Tariff, hd_Tariff, po_Tariff, sa_Tariff⟩, na_bands_Tariff, na_plan_Tariff⟩
  have H_Tariff : M.mg "Tariff" = some (.ref C_Tariff) := PySem.W.mg_of X G aC_Tariff
  have EX_NoTime : EX M "NoTime" E_NoTime := ⟨PySem.W.mg_of X G aX_NoTime, ex_NoTime, kp_NoTime, sb_NoTime, ty_NoTime⟩
  have EX_NoPrices : EX M "NoPrices" E_NoPrices := ⟨PySem.W.mg_of X G aX_NoPrices, ex_NoPrices, kp_NoPrices, sb_NoPrices, ty_NoPrices⟩
  have D1 : DefOk M 1 "_law_alike" 2 (F_alike 0) := ⟨⟨_, _, _, ok_alike0 (M := M) F1 B_isinstance B_list B_tuple B_int B_bool, PySem.W.mg_of X G a1, k1, b1⟩⟩
  have D2 : DefOk M 2 "_law_alike" 2 (F_alike 1) := ⟨⟨_, _, _, ok_alikeS (M := M) F2 B_isinstance B_list B_tuple B_int B_bool B_len B_all B_zip D1, PySem.W.mg_of X G a2, k2, b2⟩⟩
  have D3 : DefOk M 3 "_law_alike" 2 (F_alike 2) := ⟨⟨_, _, _, ok_alikeS (M := M) F3 B_isinstance B_list B_tuple B_int B_bool B_len B_all B_zip D2, PySem.W.mg_of X G a3, k3, b3⟩⟩
  have D4 : DefOk M 1 "_law_mixed" 2 F_mixed := ⟨⟨_, _, _, ok_mixed (M := M) F4, PySem.W.mg_of X G a4, k4, b4⟩⟩
  have D5 : DefOk M 1 "is_between" 3 F_between := ⟨⟨_, _, _, ok_between (M := M) F5 B_isinstance B_int B_bool, PySem.W.mg_of X G a5, k5, b5⟩⟩
  have D6 : DefOk M 1 "is_figures" 1 F_figures := ⟨⟨_, _, _, ok_figures (M := M) F6 B_isinstance B_str B_len B_all G_MOST_FIGURES G_FIGURES, PySem.W.mg_of X G a6, k6, b6⟩⟩
  have D7 : DefOk M 2 "need_time" 1 (F_need E_NoTime) := ⟨⟨_, _, _, ok_need (M := M) F7 G_LAST_TIME EX_NoTime D5, PySem.W.mg_of X G a7, k7, b7⟩⟩
  have D8 : DefOk M 2 "is_row" 1 F_row := ⟨⟨_, _, _, ok_row (M := M) F8 B_isinstance B_tuple B_len G_DAY G_BANDS D5, PySem.W.mg_of X G a8, k8, b8⟩⟩
  have D9 : DefOk M 2 "_law_rows" 1 F_rows := ⟨⟨_, _, _, ok_rows (M := M) F9 B_range B_enumerate B_sorted D4, PySem.W.mg_of X G a9, k9, b9⟩⟩
  have D10 : DefOk M 2 "_law_low" 1 F_low := ⟨⟨_, _, _, ok_low (M := M) F10 B_range D4, PySem.W.mg_of X G a10, k10, b10⟩⟩
  have D11 : DefOk M 3 "are_rows" 1 F_areRows := ⟨⟨_, _, _, ok_areRows (M := M) F11 B_isinstance B_list B_len B_all B_zip G_MOST_ROWS_bands D8, PySem.W.mg_of X G a11, k11, b11⟩⟩
  have D12 : DefOk M 2 "are_days" 1 F_areDays := ⟨⟨_, _, _, ok_areDays (M := M) F12 B_isinstance B_list B_len B_all B_set G_WEEK D5, PySem.W.mg_of X G a12, k12, b12⟩⟩
  have Q13 := ok_init (M := M) F13 T_Bands B_list G_DAY D11 D12
  have D13 : MkOkN M C_Bands 4 3 F_init [] := ⟨⟨_, _, _, [], [], Q13, ⟨mk_Bands, a13, i13, kc_Bands⟩, b13, .nil, fun _ => rfl⟩⟩
  have D13d : MkOkN M C_Bands 4 3 F_init [.non] := ⟨⟨_, _, _, ds13b, [V.non], Q13, ⟨mk_Bands, a13, i13, kc_Bands⟩, b13b, rd13b, fun _ => ⟨.non, [], rfl, rfl, rfl⟩⟩⟩
  have D14 : MethOk M C_Bands 1 "of_day" 3 (F_ofDay C_Bands) := ⟨⟨_, _, _, ok_ofDay (M := M) F14 T_Bands B_enumerate B_max B_min G_BANDS, ⟨a14, i14, k14⟩, b14⟩⟩
  have D15 : MethOk M C_Bands 2 "ahead_of" 2 (F_ahead2 C_Bands) := ⟨⟨_, _, _, ok_ahead2 (M := M) F15 T_Bands B_divmod B_int B_range B_zip G_DAY G_WEEK D14, ⟨a15, i15, k15⟩, b15⟩⟩
  have D16 : MethOk M C_Bands 3 "seconds" 3 (F_seconds C_Bands E_NoTime) := ⟨⟨_, _, _, ok_seconds (M := M) F16 T_Bands B_zip EX_NoTime D7 D15, ⟨a16, i16, k16⟩, b16⟩⟩
  have D17 : DefOk M 2 "are_prices" 1 F_arePrices := ⟨⟨_, _, _, ok_arePrices (M := M) F17 B_isinstance B_list B_len B_all G_BANDS G_MOST_PRICE D5, PySem.W.mg_of X G a17, k17, b17⟩⟩
  have D18 : DefOk M 3 "need_prices" 1 (F_needP E_NoPrices) := ⟨⟨_, _, _, ok_needP (M := M) F18 EX_NoPrices D17, PySem.W.mg_of X G a18, k18, b18⟩⟩
  have D19 : MethOk M C_Bands 4 "cost" 4 (F_cost C_Bands E_NoTime E_NoPrices) := ⟨⟨_, _, _, ok_cost (M := M) F19 T_Bands B_sum B_zip D18 D16, ⟨a19, i19, k19⟩, b19⟩⟩
  have D20 : DefOk M 2 "_law_prices" 1 F_prices := ⟨⟨_, _, _, ok_prices (M := M) F20 B_min B_range D4, PySem.W.mg_of X G a20, k20, b20⟩⟩
  have D21 : MkOk M C_Plan 2 2 F_pinit := ⟨⟨_, _, _, ok_pinit (M := M) F21 T_Plan B_len B_range G_MOST_ROWS_plans D6, ⟨mk_Plan, a21, i21, kc_Plan⟩, b21⟩⟩
  have D22 : MethOk M C_Plan 1 "longest" 2 (F_longest C_Plan) := ⟨⟨_, _, _, ok_longest (M := M) F22 T_Plan B_len B_range, ⟨a22, i22, k22⟩, b22⟩⟩
  have D23 : MethOk M C_Plan 1 "rows" 1 (F_prows C_Plan) := ⟨⟨_, _, _, ok_prows (M := M) F23 T_Plan B_list, ⟨a23, i23, k23⟩, b23⟩⟩
  have D24 : MkOk M C_Tariff 4 3 (F_tinit C_Plan E_NoPrices) := ⟨⟨_, _, _, ok_tinit (M := M) F24 T_Tariff T_Plan H_Plan B_list D18 D23 D21, ⟨mk_Tariff, a24, i24, kc_Tariff⟩, b24⟩⟩
  have D25 : MethOk M C_Plan 2 "found" 2 (F_found C_Plan) := ⟨⟨_, _, _, ok_found (M := M) F25 T_Plan B_len D22, ⟨a25, i25, k25⟩, b25⟩⟩
  have D26 : MethOk M C_Tariff 3 "prices_of" 2 (F_pof C_Tariff C_Plan) := ⟨⟨_, _, _, ok_pof (M := M) F26 T_Tariff T_Plan D25, ⟨a26, i26, k26⟩, b26⟩⟩
  have D27 : MethOk M C_Tariff 5 "price" 2 (F_price C_Tariff C_Bands C_Plan) := ⟨⟨_, _, _, ok_price (M := M) F27 T_Tariff T_Bands D26 D19, ⟨a27, i27, k27⟩, b27⟩⟩
  have D28 : DefOk M 2 "_law_figures" 2 F_figs := ⟨⟨_, _, _, ok_figs (M := M) F28 B_range D4, PySem.W.mg_of X G a28, k28, b28⟩⟩
  have D29 : DefOk M 3 "_law_price_rows" 1 F_prRows := ⟨⟨_, _, _, ok_prRows (M := M) F29 B_range D4 D28 D20, PySem.W.mg_of X G a29, k29, b29⟩⟩
  have D30 : DefOk M 2 "_law_cell_at" 2 F_cellAt := ⟨⟨_, _, _, ok_cellAt (M := M) F30 B_len D4, PySem.W.mg_of X G a30, k30, b30⟩⟩
  have D31 : DefOk M 2 "_law_time" 1 F_time := ⟨⟨_, _, _, ok_time (M := M) F31 B_max D4, PySem.W.mg_of X G a31, k31, b31⟩⟩
  have D32 : DefOk M 3 "_law_account" 1 F_account := ⟨⟨_, _, _, ok_account (M := M) F32 B_sorted B_min D4 D28 D31, PySem.W.mg_of X G a32, k32, b32⟩⟩
  have D33 : MethOkL M C_Tariff 5 "lines" 2 (F_lines C_Tariff C_Bands C_Plan) := ⟨⟨_, _, _, ok_lines (M := M) F33 T_Tariff T_Bands B_enumerate D26 D16, ⟨a33, i33, k33⟩, b33⟩⟩
  have D34 : CaOk M 3 "_law_prices_of" 2 (F_lpof pT) := ⟨⟨_, _, _, ok_lpof (M := M) F34 rfl TB B_sorted B_len, PySem.W.mg_of X G a34, k34, b34⟩⟩
  have D35 : CaOk M 5 "_law_due" 3 (F_due C_Bands pT) := ⟨⟨_, _, _, ok_due (M := M) F35 T_Bands B_sum B_range D34 D16, PySem.W.mg_of X G a35, k35, b35⟩⟩
  exact ok_law (M := M) F36 T_Tariff H_Tariff H_Plan H_Bands B_sum D30 D9 D10 D29 D32 D13 D21 D24 D35 D3 D33 D27
end K82
open PySem PySem.W PyProof.Rows
set_option maxRecDepth 100000 in
set_option maxHeartbeats 0 in
theorem PySem.Challenge.cw_wirehall_k82_lines_of_accounts_holds : PySem.Challenge.rw_wirehall_k82_lines_of_accounts.Holds := by
  w_on; o_law; k_head; (case hw => w_witness2)
  k_fill
  refine PV.walk_lawT (l := PySem.Challenge.rw_wirehall_k82_lines_of_accounts) (k := 7) (x := "_law_script") (nm := "_law_prices_of") (qn := K82.lamQ) rfl rfl ⟨rfl, by decide, by decide⟩ (fun w h Y => PySem.W.km_in_of Y) rfl ?F
  case F =>
    intro w mg fa h KX G hmg
    refine' K82.all_mk KX G hmg ?aC_Bands ?pg_Bands ?hd_Bands ?po_Bands ?sa_Bands ?mk_Bands ?kc_Bands ?na_begins_Bands ?na_ends_Bands ?na_kinds_Bands ?na_low_Bands ?aC_Plan ?pg_Plan ?hd_Plan ?po_Plan ?sa_Plan ?mk_Plan ?kc_Plan ?na_things_Plan ?na_ways_Plan ?aC_Tariff ?pg_Tariff ?hd_Tariff ?po_Tariff ?sa_Tariff ?mk_Tariff ?kc_Tariff ?na_bands_Tariff ?na_plan_Tariff ?a1 ?l1 ?c1 ?k1 ?a2 ?l2 ?c2 ?k2 ?a3 ?l3 ?c3 ?k3 ?a4 ?l4 ?c4 ?k4 ?a5 ?l5 ?c5 ?k5 ?a6 ?l6 ?c6 ?k6 ?a7 ?l7 ?c7 ?k7 ?a8 ?l8 ?c8 ?k8 ?a9 ?l9 ?c9 ?k9 ?a10 ?l10 ?c10 ?k10 ?a11 ?l11 ?c11 ?k11 ?a12 ?l12 ?c12 ?k12 ?a13 ?l13 ?c13 ?k13 ?i13 ?lT13 ?dT13 ?a14 ?l14 ?c14 ?k14 ?i14 ?a15 ?l15 ?c15 ?k15 ?i15 ?a16 ?l16 ?c16 ?k16 ?i16 ?a17 ?l17 ?c17 ?k17 ?a18 ?l18 ?c18 ?k18 ?a19 ?l19 ?c19 ?k19 ?i19 ?a20 ?l20 ?c20 ?k20 ?a21 ?l21 ?c21 ?k21 ?i21 ?a22 ?l22 ?c22 ?k22 ?i22 ?a23 ?l23 ?c23 ?k23 ?i23 ?a24 ?l24 ?c24 ?k24 ?i24 ?a25 ?l25 ?c25 ?k25 ?i25 ?a26 ?l26 ?c26 ?k26 ?i26 ?a27 ?l27 ?c27 ?k27 ?i27 ?a28 ?l28 ?c28 ?k28 ?a29 ?l29 ?c29 ?k29 ?a30 ?l30 ?c30 ?k30 ?a31 ?l31 ?c31 ?k31 ?a32 ?l32 ?c32 ?k32 ?a33 ?l33 ?c33 ?k33 ?i33 ?a34 ?l34 ?c34 ?k34 ?a35 ?l35 ?c35 ?k35 ?a36 ?l36 ?c36 ?k36 ?z_isinstance ?z_int ?z_bool ?z_str ?z_len ?z_all ?z_range ?z_tuple ?z_list ?z_zip ?z_set ?z_sorted ?z_min ?z_max ?z_sum ?z_divmod ?z_enumerate ?g_DAY ?g_BANDS ?g_WEEK ?g_LAST_TIME ?g_MOST_ROWS_bands ?g_MOST_ROWS_plans ?g_MOST_PRICE ?g_MOST_FIGURES ?g_FIGURES ?aX_NoTime ?ex_NoTime ?kp_NoTime ?sb_NoTime ?ty_NoTime ?aX_NoPrices ?ex_NoPrices ?kp_NoPrices ?sb_NoPrices ?ty_NoPrices ?tC ?tV ?tN
    (case aX_NoTime => k_is)
    (case aX_NoPrices => k_is)
    (case aC_Bands => k_is)
    (case pg_Bands => k_is)
    (case hd_Bands => k_is)
    (case po_Bands => k_is)
    (case sa_Bands => k_is)
    (case mk_Bands => k_is)
    (case kc_Bands => k_is)
    (case na_begins_Bands => k_is)
    (case na_ends_Bands => k_is)
    (case na_kinds_Bands => k_is)
    (case na_low_Bands => k_is)
    (case aC_Plan => k_is)
    (case pg_Plan => k_is)
    (case hd_Plan => k_is)
    (case po_Plan => k_is)
    (case sa_Plan => k_is)
    (case mk_Plan => k_is)
    (case kc_Plan => k_is)
    (case na_things_Plan => k_is)
    (case na_ways_Plan => k_is)
    (case aC_Tariff => k_is)
    (case pg_Tariff => k_is)
    (case hd_Tariff => k_is)
    (case po_Tariff => k_is)
    (case sa_Tariff => k_is)
    (case mk_Tariff => k_is)
    (case kc_Tariff => k_is)
    (case na_bands_Tariff => k_is)
    (case na_plan_Tariff => k_is)
    (case a1 => k_is)
    (case l1 => k_is)
    (case c1 => k_is)
    (case k1 => k_is)
    (case a2 => k_is)
    (case l2 => k_is)
    (case c2 => k_is)
    (case k2 => k_is)
    (case a3 => k_is)
    (case l3 => k_is)
    (case c3 => k_is)
    (case k3 => k_is)
    (case a4 => k_is)
    (case l4 => k_is)
    (case c4 => k_is)
    (case k4 => k_is)
    (case a5 => k_is)
    (case l5 => k_is)
    (case c5 => k_is)
    (case k5 => k_is)
    (case a6 => k_is)
    (case l6 => k_is)
    (case c6 => k_is)
    (case k6 => k_is)
    (case a7 => k_is)
    (case l7 => k_is)
    (case c7 => k_is)
    (case k7 => k_is)
    (case a8 => k_is)
    (case l8 => k_is)
    (case c8 => k_is)
    (case k8 => k_is)
    (case a9 => k_is)
    (case l9 => k_is)
    (case c9 => k_is)
    (case k9 => k_is)
    (case a10 => k_is)
    (case l10 => k_is)
    (case c10 => k_is)
    (case k10 => k_is)
    (case a11 => k_is)
    (case l11 => k_is)
    (case c11 => k_is)
    (case k11 => k_is)
    (case a12 => k_is)
    (case l12 => k_is)
    (case c12 => k_is)
    (case k12 => k_is)
    (case a13 => k_is)
    (case l13 => k_is)
    (case c13 => k_is)
    (case k13 => k_is)
    (case i13 => k_is)
    (case lT13 => k_is)
    (case dT13 => exact ⟨_, rfl⟩)
    (case a14 => k_is)
    (case l14 => k_is)
    (case c14 => k_is)
    (case k14 => k_is)
    (case i14 => k_is)
    (case a15 => k_is)
    (case l15 => k_is)
    (case c15 => k_is)
    (case k15 => k_is)
    (case i15 => k_is)
    (case a16 => k_is)
    (case l16 => k_is)
    (case c16 => k_is)
    (case k16 => k_is)
    (case i16 => k_is)
    (case a17 => k_is)
    (case l17 => k_is)
    (case c17 => k_is)
    (case k17 => k_is)
    (case a18 => k_is)
    (case l18 => k_is)
    (case c18 => k_is)
    (case k18 => k_is)
    (case a19 => k_is)
    (case l19 => k_is)
    (case c19 => k_is)
    (case k19 => k_is)
    (case i19 => k_is)
    (case a20 => k_is)
    (case l20 => k_is)
    (case c20 => k_is)
    (case k20 => k_is)
    (case a21 => k_is)
    (case l21 => k_is)
    (case c21 => k_is)
    (case k21 => k_is)
    (case i21 => k_is)
    (case a22 => k_is)
    (case l22 => k_is)
    (case c22 => k_is)
    (case k22 => k_is)
    (case i22 => k_is)
    (case a23 => k_is)
    (case l23 => k_is)
    (case c23 => k_is)
    (case k23 => k_is)
    (case i23 => k_is)
    (case a24 => k_is)
    (case l24 => k_is)
    (case c24 => k_is)
    (case k24 => k_is)
    (case i24 => k_is)
    (case a25 => k_is)
    (case l25 => k_is)
    (case c25 => k_is)
    (case k25 => k_is)
    (case i25 => k_is)
    (case a26 => k_is)
    (case l26 => k_is)
    (case c26 => k_is)
    (case k26 => k_is)
    (case i26 => k_is)
    (case a27 => k_is)
    (case l27 => k_is)
    (case c27 => k_is)
    (case k27 => k_is)
    (case i27 => k_is)
    (case a28 => k_is)
    (case l28 => k_is)
    (case c28 => k_is)
    (case k28 => k_is)
    (case a29 => k_is)
    (case l29 => k_is)
    (case c29 => k_is)
    (case k29 => k_is)
    (case a30 => k_is)
    (case l30 => k_is)
    (case c30 => k_is)
    (case k30 => k_is)
    (case a31 => k_is)
    (case l31 => k_is)
    (case c31 => k_is)
    (case k31 => k_is)
    (case a32 => k_is)
    (case l32 => k_is)
    (case c32 => k_is)
    (case k32 => k_is)
    (case a33 => k_is)
    (case l33 => k_is)
    (case c33 => k_is)
    (case k33 => k_is)
    (case i33 => k_is)
    (case a34 => k_is)
    (case l34 => k_is)
    (case c34 => k_is)
    (case k34 => k_is)
    (case a35 => k_is)
    (case l35 => k_is)
    (case c35 => k_is)
    (case k35 => k_is)
    (case a36 => k_is)
    (case l36 => k_is)
    (case c36 => k_is)
    (case k36 => k_is)
    (case z_isinstance => k_is)
    (case z_int => k_is)
    (case z_bool => k_is)
    (case z_str => k_is)
    (case z_len => k_is)
    (case z_all => k_is)
    (case z_range => k_is)
    (case z_tuple => k_is)
    (case z_list => k_is)
    (case z_zip => k_is)
    (case z_set => k_is)
    (case z_sorted => k_is)
    (case z_min => k_is)
    (case z_max => k_is)
    (case z_sum => k_is)
    (case z_divmod => k_is)
    (case z_enumerate => k_is)
    (case g_DAY => k_is)
    (case g_BANDS => k_is)
    (case g_WEEK => k_is)
    (case g_LAST_TIME => k_is)
    (case g_MOST_ROWS_bands => k_is)
    (case g_MOST_ROWS_plans => k_is)
    (case g_MOST_PRICE => k_is)
    (case g_MOST_FIGURES => k_is)
    (case g_FIGURES => k_is)
    (case ex_NoTime => k_exc)
    (case kp_NoTime => k_is)
    (case sb_NoTime => k_is)
    (case ty_NoTime => k_is)
    (case ex_NoPrices => k_exc)
    (case kp_NoPrices => k_is)
    (case sb_NoPrices => k_is)
    (case ty_NoPrices => k_is)
    (case tC => k_is)
    (case tV => exact rfl)
    (case tN => kernel_rfl)
