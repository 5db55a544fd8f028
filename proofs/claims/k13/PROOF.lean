import PyProof.Rows.All
import Wide.All
import OpenK.AllK
import Wide.FinOn
import HandS.ForMost
import HandS.Walk
import HandS.Wide
import HandS.WideBits
import HandS.IsInst
import HandS.Exc
import HandS.ExcOwn
import HandS.ExcInit
import HandS.Replace
import HandS.Style
import HandS.SetFor
import HandS.EndBits
import HandS.Zip
import HandS.TupSets
import HandS.HeadHook3
import HandS.NoneIn
import HandS.Conv
import KE.KExcIs
import HandS.ExcField
import HandS.ExcIs
import PyProof.Rows.CountFlat
import PyProof.LongRange
import HandS.Iter
import HandS.Dict
import KE.KDictZip
import HandS.SortInts
import HandS.MapObj
import KE.DataMinMax
import KE.KExcStr
import HandS.ExcValue
import HandS.More
import HandS.Remove
import HandS.SortRule
import HandS.FStr
import HandS.RaiseMore
import HandS.Deep
import PySem.Challenge.RW_laidround_k13_sums_of_far_boxes
set_option Elab.async false
set_option linter.all false
set_option maxRecDepth 100000
set_option maxHeartbeats 4000000
/-! L3: values without a heap, over the hand layer. -/
namespace L3
open PySem PySem.Spec L2

/-- a value of plain data; obj k: the k-th object of the abstract store -/
inductive PV where
  | non
  | bl (b : Bool)
  | int (i : Int)
  | str (x : Str)
  | tup (xs : List PV)
  | lst (xs : List PV)
  | scr (xs : List PV)
  | wtp (xs : List PV)
  | dct (ks : List Key) (vs : List PV)
  | obj (k : Nat)
  | exc (C : Addr) (fs : List Str) (vs : List PV)
  | exm (C : Addr) (m : Str)

/-- an object that may change -/
inductive MO where
  | lst (xs : List PV)
  | dK (ks : List Key) (vs : List PV)
  | dT (ks : List (List Key)) (vs : List PV)
  | ins (C : Addr) (fs : List Str) (vs : List PV)
  | dead
  | lk (o : Obj) (kvs : List (Key × V)) (xs : List PV)

abbrev Env := List (Option PV)
abbrev Mem := List MO

/-- a tuple of the written part -/
def WrT (K : PySem.W.Frag) (a : Addr) (xs : List V) : Prop := False
/-- a tuple of the written part, as a value of its own kind -/
def WtT (K : PySem.W.Frag) (a : Addr) (xs : List V) : Prop :=
  ∃ (o : Obj) (its : Array Value) (n : Nat), K.lookup a = some o ∧ o.cls = .type "tuple" ∧ o.data = .seq its n ∧ its.size ≤ sizeLine ∧ Vals xs its.toList
theorem WtT.sq {K : PySem.W.Frag} {H : Hp} {a : Addr} {xs : List V} (h : WtT K a xs) : SqT K H a xs := .inr h
/-- a list of the written part -/
def WrL (K : PySem.W.Frag) (a : Addr) (xs : List V) : Prop :=
  ∃ (o : Obj) (its : Array Value) (n : Nat), K.lookup a = some o ∧ o.cls = .type "list" ∧ o.dict = none ∧ o.data = .seq its n ∧ its.size ≤ sizeLine ∧ Vals xs its.toList
theorem WrT.sq {K : PySem.W.Frag} {H : Hp} {a : Addr} {xs : List V} (h : WrT K a xs) : SqT K H a xs := h.elim

/-- the addresses that are no data: n that are set aside, then those of the store's objects -/
structure AD where
  n : Nat
  l : List Addr
instance : HAppend AD (List Addr) AD := ⟨fun a b => ⟨a.n, a.l ++ b⟩⟩
instance : Membership Addr AD := ⟨fun a x => x ∈ a.l⟩
def AD.at (a : AD) (k : Nat) : Option Addr := a.l[a.n + k]?
theorem AD.append_nil (a : AD) : a ++ ([] : List Addr) = a := by
  show AD.mk a.n (a.l ++ []) = a
  rw [List.append_nil]
theorem AD.append_assoc (a : AD) (b c : List Addr) : a ++ b ++ c = a ++ (b ++ c) := by
  show AD.mk a.n (a.l ++ b ++ c) = AD.mk a.n (a.l ++ (b ++ c))
  rw [List.append_assoc]
theorem AD.mem_append {a : AD} {b : List Addr} {x : Addr} : x ∈ a ++ b ↔ x ∈ a ∨ x ∈ b := List.mem_append
theorem AD.at_mem {a : AD} {k : Nat} {x : Addr} (h : a.at k = some x) : x ∈ a := List.mem_of_getElem? h
theorem AD.at_lt {a : AD} {k : Nat} {x : Addr} (h : a.at k = some x) : a.n + k < a.l.length := (List.getElem?_eq_some_iff.mp h).1
theorem AD.at_append {a : AD} {b : List Addr} {k : Nat} (h : a.n + k < a.l.length) : (a ++ b).at k = a.at k := List.getElem?_append_left h
theorem AD.at_snoc {a : AD} {x : Addr} {k : Nat} (h : a.l.length = a.n + k) : (a ++ [x]).at k = some x := by
  show (a.l ++ [x])[a.n + k]? = some x
  rw [← h]
  simp
/-- an exception's object -/
def exH (a : Addr) (cls : Value) (d : Option Addr) : HO := .ext fun h => ∃ oe : Obj, h.get? a = some oe ∧ Zc cls d oe ∧ ∃ vs, oe.data = .fields vs
/-- an exception's object made by hand with one argument -/
def exT (a C t : Addr) : HO := .ext fun h => ∃ oe : Obj, h.get? a = some oe ∧ Zc (.ref C) none oe ∧ ∃ vs, oe.data = .fields vs ∧ vs[0]? = some (.ref t)
/-- an exception's own fields -/
def XdAt (ad : AD) (H : Hp) : Option Addr → List (Str × V) → Prop
  | none, kvs => kvs = []
  | some dd, kvs => H dd = some (.xd kvs) ∧ dd ∉ ad
mutual
/-- the value v is, in the heap H, the data p -/
def Rp (ad : AD) (K : PySem.W.Frag) (H : Hp) : PV → V → Prop
  | .non, v => v = .non
  | .bl b, v => v = .bl b
  | .int i, v => v = .int i
  | .str x, v => v = .str x
  | .tup xs, v => ∃ a vs, v = .ref a ∧ ((H a = some (.tup vs) ∧ a ∉ ad) ∨ WrT K a vs) ∧ RpL ad K H xs vs
  | .lst xs, v => ∃ a vs, v = .ref a ∧ (H a = some (.lst vs) ∧ a ∉ ad) ∧ RpL ad K H xs vs
  | .scr xs, v => ∃ a vs, v = .ref a ∧ (((∃ o, H a = some (.frz o (.lst vs))) ∧ a ∉ ad) ∨ WrL K a vs) ∧ RpL ad K H xs vs
  | .wtp xs, v => ∃ a vs, v = .ref a ∧ WtT K a vs ∧ RpL ad K H xs vs
  | .dct ks xs, v => ∃ a vs, v = .ref a ∧ (H a = some (.dK (ks.zip vs)) ∧ a ∉ ad) ∧ ks.length = vs.length ∧ RpL ad K H xs vs
  | .obj k, v => ∃ a, v = .ref a ∧ ad.at k = some a
  | .exc C fs xs, v => ∃ a d vs, v = .ref a ∧ (H a = some (exH a (.ref C) d) ∧ a ∉ ad) ∧ XdAt ad H d (fs.zip vs) ∧ fs.length = vs.length ∧ RpL ad K H xs vs
  | .exm C m, v => ∃ a t, v = .ref a ∧ (H a = some (exT a C t) ∧ a ∉ ad) ∧ (H t = some (.tup [.str m]) ∧ t ∉ ad)
def RpL (ad : AD) (K : PySem.W.Frag) (H : Hp) : List PV → List V → Prop
  | [], vs => vs = []
  | p :: ps, vs => ∃ v r, vs = v :: r ∧ Rp ad K H p v ∧ RpL ad K H ps r
end

def RpM (ad : AD) (K : PySem.W.Frag) (H : Hp) (a : Addr) : MO → Prop
  | .lst xs => ∃ vs, H a = some (.lst vs) ∧ RpL ad K H xs vs
  | .dK ks xs => ∃ vs, H a = some (.dK (ks.zip vs)) ∧ ks.length = vs.length ∧ RpL ad K H xs vs
  | .dT ks xs => ∃ vs, H a = some (.dT (ks.zip vs)) ∧ ks.length = vs.length ∧ RpL ad K H xs vs
  | .ins C fs xs => ∃ dx vs, H a = some (.ins C dx (fs.zip vs)) ∧ fs.length = vs.length ∧ RpL ad K H xs vs
  | .dead => ∃ o, H a = some o ∧ ∀ xs, o ≠ .tup xs
  | .lk o kvs xs => H a = some (.frz o (.dK kvs)) ∧ RpL ad K H xs (kvs.map (·.2))

/-- the store's objects -/
def AD.os (a : AD) : List Addr := a.l.drop a.n
theorem AD.not_os {a : AD} {x : Addr} (h : x ∉ a) : x ∉ a.os := fun z => h (List.mem_of_mem_drop z)
theorem AD.os_append {a : AD} {b : List Addr} {x : Addr} (h : x ∈ (a ++ b).os) : x ∈ a.os ∨ x ∈ b := by
  have h' : x ∈ (a.l ++ b).drop a.n := h
  rw [List.drop_append] at h'
  rcases List.mem_append.mp h' with z | z
  · exact .inl z
  · exact .inr (List.mem_of_mem_drop z)
theorem AD.at_os {a : AD} {k : Nat} {x : Addr} (h : a.at k = some x) : x ∈ a.os := by
  have h' : a.l[a.n + k]? = some x := h
  have : (a.l.drop a.n)[k]? = some x := by rw [List.getElem?_drop]; exact h'
  exact List.mem_of_getElem? this
/-- data stay, ad2 is new -/
structure StpW (ad : AD) (ad2 : List Addr) (H H' : Hp) : Prop where
  keep : ∀ b o, H b = some o → b ∉ ad → H' b = some o
  new : ∀ b ∈ ad2, H b = none
/-- from H to H': all that is tracked but the objects stays; ad2 is new -/
structure Stp (ad : AD) (ad2 : List Addr) (H H' : Hp) : Prop where
  keep : ∀ b o, H b = some o → b ∉ ad.os → H' b = some o
  there : ∀ b o, H b = some o → ∃ o', H' b = some o'
  new : ∀ b ∈ ad2, H b = none
theorem Stp.w {ad : AD} {ad2 : List Addr} {H H' : Hp} (s : Stp ad ad2 H H') : StpW ad ad2 H H' := ⟨fun b o h n => s.keep b o h (AD.not_os n), s.new⟩

structure Mst (ad : AD) (K : PySem.W.Frag) (H : Hp) (μ : Mem) : Prop where
  nd : ad.l.Nodup
  len : ad.l.length = ad.n + μ.length
  mem : ∀ (k : Nat) a m, ad.at k = some a → μ[k]? = some m → RpM ad K H a m
  rsv : ∀ i a, i < ad.n → ad.l[i]? = some a → ∃ o, H a = some o
  nt : ∀ a, a ∈ ad → ∀ xs, H a ≠ some (.tup xs)

structure RpE (ad : AD) (K : PySem.W.Frag) (H : Hp) (ρ : Env) (σ : St) : Prop where
  len : ρ.length = σ.length
  get : ∀ (i : Nat) p, ρ[i]? = some (some p) → ∃ v, σ[i]? = some (some v) ∧ Rp ad K H p v

structure Rst (ad : AD) (K : PySem.W.Frag) (H : Hp) (σ : St) (ρ : Env) (μ : Mem) : Prop where
  m : Mst ad K H μ
  e : RpE ad K H ρ σ

section
variable {ad : AD} {ad2 ad3 : List Addr} {K : PySem.W.Frag} {H H' H1 H2 : Hp} {σ : St} {ρ : Env} {μ μ' : Mem}
theorem Stp.refl : Stp ad [] H H := ⟨fun _ _ h _ => h, fun _ o h => ⟨o, h⟩, fun _ h => nomatch h⟩
theorem Stp.trans (a : Stp ad ad2 H H1) (b : Stp (ad ++ ad2) ad3 H1 H2) : Stp ad (ad2 ++ ad3) H H2 := by
  refine ⟨fun c o h hn => b.keep c o (a.keep c o h hn) fun hm => ?_, fun c o h => ?_, fun c hc => ?_⟩
  · rcases AD.os_append hm with z | z
    · exact hn z
    · rw [a.new c z] at h; cases h
  · obtain ⟨o1, h1⟩ := a.there c o h
    exact b.there c o1 h1
  · rcases List.mem_append.mp hc with z | z
    · exact a.new c z
    · cases q : H c with
      | none => rfl
      | some o =>
        obtain ⟨o1, h1⟩ := a.there c o q
        rw [b.new c z] at h1; cases h1
theorem Stp.one (a : Stp ad [] H H1) (b : Stp ad [] H1 H2) : Stp ad [] H H2 := by
  have b' : Stp (ad ++ ([] : List Addr)) [] H1 H2 := by rw [AD.append_nil]; exact b
  exact a.trans b'
theorem StpW.notIn (s : StpW ad ad2 H H') {a : Addr} {o : HO} (h : H a = some o) (hn : a ∉ ad) : a ∉ ad ++ ad2 := fun hm => by
  rcases AD.mem_append.mp hm with z | z
  · exact hn z
  · rw [s.new a z] at h; cases h

mutual
theorem Rp.monoW (s : StpW ad ad2 H H') : ∀ (p : PV) (v : V), Rp ad K H p v → Rp (ad ++ ad2) K H' p v
  | .non, v, h => by unfold Rp at h ⊢; exact h
  | .bl b, v, h => by unfold Rp at h ⊢; exact h
  | .int i, v, h => by unfold Rp at h ⊢; exact h
  | .str x, v, h => by unfold Rp at h ⊢; exact h
  | .tup xs, v, h => by
    unfold Rp at h ⊢
    obtain ⟨a, vs, e, h1, h2⟩ := h
    refine ⟨a, vs, e, ?_, RpL.monoW s xs vs h2⟩
    rcases h1 with ⟨x, y⟩ | x
    · exact .inl ⟨s.keep a _ x y, s.notIn x y⟩
    · exact .inr x
  | .lst xs, v, h => by
    unfold Rp at h ⊢
    obtain ⟨a, vs, e, ⟨x, y⟩, h2⟩ := h
    exact ⟨a, vs, e, ⟨s.keep a _ x y, s.notIn x y⟩, RpL.monoW s xs vs h2⟩
  | .scr xs, v, h => by
    unfold Rp at h ⊢
    obtain ⟨a, vs, e, h1, h2⟩ := h
    refine ⟨a, vs, e, ?_, RpL.monoW s xs vs h2⟩
    rcases h1 with ⟨⟨o, x⟩, y⟩ | x
    · exact .inl ⟨⟨o, s.keep a _ x y⟩, s.notIn x y⟩
    · exact .inr x
  | .wtp xs, v, h => by
    unfold Rp at h ⊢
    obtain ⟨a, vs, e, h1, h2⟩ := h
    exact ⟨a, vs, e, h1, RpL.monoW s xs vs h2⟩
  | .dct ks xs, v, h => by
    unfold Rp at h ⊢
    obtain ⟨a, vs, e, ⟨x, y⟩, hl, h2⟩ := h
    exact ⟨a, vs, e, ⟨s.keep a _ x y, s.notIn x y⟩, hl, RpL.monoW s xs vs h2⟩
  | .obj k, v, h => by
    unfold Rp at h ⊢
    obtain ⟨a, e, h1⟩ := h
    refine ⟨a, e, ?_⟩
    rw [AD.at_append (AD.at_lt h1)]; exact h1
  | .exc C fs xs, v, h => by
    unfold Rp at h ⊢
    obtain ⟨a, d, vs, e, ⟨x, y⟩, hd, hl, h2⟩ := h
    refine ⟨a, d, vs, e, ⟨s.keep a _ x y, s.notIn x y⟩, ?_, hl, RpL.monoW s xs vs h2⟩
    cases d with
    | none => exact hd
    | some dd => exact ⟨s.keep dd _ hd.1 hd.2, s.notIn hd.1 hd.2⟩
  | .exm C m, v, h => by
    unfold Rp at h ⊢
    obtain ⟨a, t, e, ⟨x, y⟩, x2, y2⟩ := h
    exact ⟨a, t, e, ⟨s.keep a _ x y, s.notIn x y⟩, s.keep t _ x2 y2, s.notIn x2 y2⟩
theorem RpL.monoW (s : StpW ad ad2 H H') : ∀ (ps : List PV) (vs : List V), RpL ad K H ps vs → RpL (ad ++ ad2) K H' ps vs
  | [], vs, h => by unfold RpL at h ⊢; exact h
  | p :: ps, vs, h => by
    unfold RpL at h ⊢
    obtain ⟨v, r, e, h1, h2⟩ := h
    exact ⟨v, r, e, Rp.monoW s p v h1, RpL.monoW s ps r h2⟩
end
theorem Stp.notIn (s : Stp ad ad2 H H') {a : Addr} {o : HO} (h : H a = some o) (hn : a ∉ ad) : a ∉ ad ++ ad2 := s.w.notIn h hn
theorem Rp.mono (s : Stp ad ad2 H H') (p : PV) (v : V) (h : Rp ad K H p v) : Rp (ad ++ ad2) K H' p v := Rp.monoW s.w p v h
theorem RpL.mono (s : Stp ad ad2 H H') (ps : List PV) (vs : List V) (h : RpL ad K H ps vs) : RpL (ad ++ ad2) K H' ps vs := RpL.monoW s.w ps vs h
theorem RpE.mono (s : Stp ad ad2 H H') (h : RpE ad K H ρ σ) : RpE (ad ++ ad2) K H' ρ σ :=
  ⟨h.len, fun i p e => let ⟨v, e1, r⟩ := h.get i p e; ⟨v, e1, r.mono s⟩⟩
theorem Rst.mono (s : Stp ad ad2 H H') (h : Rst ad K H σ ρ μ) (m : Mst (ad ++ ad2) K H' μ') : Rst (ad ++ ad2) K H' σ ρ μ' := ⟨m, h.e.mono s⟩
theorem RpL.length : ∀ {ps : List PV} {vs : List V}, RpL ad K H ps vs → ps.length = vs.length
  | [], _, h => by unfold RpL at h; subst h; rfl
  | p :: ps, _, h => by
    unfold RpL at h
    obtain ⟨v, r, e, _, h2⟩ := h
    subst e
    simp [RpL.length h2]
theorem RpL.get : ∀ {ps : List PV} {vs : List V} {i : Nat} {p : PV}, RpL ad K H ps vs → ps[i]? = some p → ∃ v, vs[i]? = some v ∧ Rp ad K H p v
  | [], _, i, p, h, e => by simp at e
  | p :: ps, vs, 0, q, h, e => by
    unfold RpL at h
    obtain ⟨v, r, e1, h1, h2⟩ := h
    subst e1
    simp at e
    subst e
    exact ⟨v, rfl, h1⟩
  | p :: ps, vs, i + 1, q, h, e => by
    unfold RpL at h
    obtain ⟨v, r, e1, h1, h2⟩ := h
    subst e1
    obtain ⟨w, e2, h3⟩ := RpL.get (i := i) h2 (by simpa using e)
    exact ⟨w, by simpa using e2, h3⟩
theorem RpL.append : ∀ {ps qs : List PV} {vs ws : List V}, RpL ad K H ps vs → RpL ad K H qs ws → RpL ad K H (ps ++ qs) (vs ++ ws)
  | [], qs, vs, ws, h, h' => by unfold RpL at h; subst h; exact h'
  | p :: ps, qs, vs, ws, h, h' => by
    unfold RpL at h
    obtain ⟨v, r, e1, h1, h2⟩ := h
    subst e1
    show RpL ad K H (p :: (ps ++ qs)) (v :: (r ++ ws))
    unfold RpL
    exact ⟨v, r ++ ws, rfl, h1, RpL.append h2 h'⟩
theorem RpL.take : ∀ {ps : List PV} {vs : List V} (n : Nat), RpL ad K H ps vs → RpL ad K H (ps.take n) (vs.take n)
  | _, _, 0, _ => by simp [RpL]
  | [], vs, n + 1, h => by unfold RpL at h; subst h; simp [RpL]
  | p :: ps, vs, n + 1, h => by
    unfold RpL at h
    obtain ⟨v, r, e1, h1, h2⟩ := h
    subst e1
    show RpL ad K H (p :: ps.take n) (v :: r.take n)
    unfold RpL
    exact ⟨v, _, rfl, h1, RpL.take n h2⟩
theorem RpL.drop : ∀ {ps : List PV} {vs : List V} (n : Nat), RpL ad K H ps vs → RpL ad K H (ps.drop n) (vs.drop n)
  | _, _, 0, h => h
  | [], vs, n + 1, h => by unfold RpL at h; subst h; simp [RpL]
  | p :: ps, vs, n + 1, h => by
    unfold RpL at h
    obtain ⟨v, r, e1, h1, h2⟩ := h
    subst e1
    exact RpL.drop n h2
theorem RpL.set : ∀ {ps : List PV} {vs : List V} {p : PV} {v : V} (i : Nat), RpL ad K H ps vs → Rp ad K H p v → RpL ad K H (ps.set i p) (vs.set i v)
  | [], vs, _, _, i, h, _ => by unfold RpL at h; subst h; simp [RpL]
  | q :: ps, vs, p, v, 0, h, hv => by
    unfold RpL at h
    obtain ⟨v', r, e1, h1, h2⟩ := h
    subst e1
    show RpL ad K H (p :: ps) (v :: r)
    unfold RpL
    exact ⟨v, r, rfl, hv, h2⟩
  | q :: ps, vs, p, v, i + 1, h, hv => by
    unfold RpL at h
    obtain ⟨v', r, e1, h1, h2⟩ := h
    subst e1
    show RpL ad K H (q :: ps.set i p) (v' :: r.set i v)
    unfold RpL
    exact ⟨v', _, rfl, h1, RpL.set i h2 hv⟩
theorem RpL.cons {p : PV} {v : V} {ps : List PV} {vs : List V} (h : Rp ad K H p v) (t : RpL ad K H ps vs) : RpL ad K H (p :: ps) (v :: vs) := by
  unfold RpL; exact ⟨v, vs, rfl, h, t⟩
theorem RpL.nil : RpL ad K H [] [] := by unfold RpL; rfl
theorem RpL.cut {ps : List PV} {vs : List V} (lo hi : Option Int) (h : RpL ad K H ps vs) : RpL ad K H ((ps.drop (HT.sIx ps.length 0 lo)).take (HT.sIx ps.length ps.length hi - HT.sIx ps.length 0 lo)) (cutV vs lo hi) := by
  unfold cutV
  rw [← h.length]
  exact (h.drop _).take _
theorem RpL.reverse : ∀ {ps : List PV} {vs : List V}, RpL ad K H ps vs → RpL ad K H ps.reverse vs.reverse
  | [], vs, h => by unfold RpL at h; subst h; simp [RpL]
  | p :: ps, vs, h => by
    unfold RpL at h
    obtain ⟨v, r, e1, h1, h2⟩ := h
    subst e1
    rw [List.reverse_cons, List.reverse_cons]
    exact (RpL.reverse h2).append (RpL.cons h1 RpL.nil)
theorem RpE.set {p : PV} {v : V} (i : Nat) (h : RpE ad K H ρ σ) (r : Rp ad K H p v) : RpE ad K H (ρ.set i (some p)) (σ.set i (some v)) := by
  refine ⟨by simp [h.len], fun j q e => ?_⟩
  rw [List.getElem?_set] at e ⊢
  by_cases hij : i = j
  · subst hij
    have hl := h.len
    by_cases hi : i < ρ.length
    · rw [if_pos rfl, if_pos hi] at e
      rw [if_pos rfl, if_pos (by omega)]
      cases e
      exact ⟨v, rfl, r⟩
    · rw [if_pos rfl, if_neg hi] at e
      cases e
  · rw [if_neg hij] at e ⊢
    exact h.get j q e
/-- forgetting slots -/
theorem RpE.weak {ρ' : Env} (h : RpE ad K H ρ σ) (hl : ρ'.length = ρ.length) (w : ∀ (i : Nat) p, ρ'[i]? = some (some p) → ρ[i]? = some (some p)) : RpE ad K H ρ' σ :=
  ⟨hl.trans h.len, fun i p e => h.get i p (w i p e)⟩
theorem RpL.nil0 {ps : List PV} {vs : List V} (r : RpL (ad ++ ([] : List Addr)) K H ps vs) : RpL ad K H ps vs := by rwa [AD.append_nil] at r
theorem Rp.nil0 {p : PV} {v : V} (r : Rp (ad ++ ([] : List Addr)) K H p v) : Rp ad K H p v := by rwa [AD.append_nil] at r
theorem Mst.nil0 (r : Mst (ad ++ ([] : List Addr)) K H μ) : Mst ad K H μ := by rwa [AD.append_nil] at r
/-- an object's description elsewhere: its place and its items tell it -/
theorem RpM.of {ad' : AD} {a : Addr} {m : MO} (hH : H' a = H a) (mo : ∀ ps vs, RpL ad K H ps vs → RpL ad' K H' ps vs) (q : RpM ad K H a m) : RpM ad' K H' a m := by
  cases m with
  | lst xs => obtain ⟨vs, e, r⟩ := q; exact ⟨vs, hH.trans e, mo _ _ r⟩
  | dK ks xs => obtain ⟨vs, e, l, r⟩ := q; exact ⟨vs, hH.trans e, l, mo _ _ r⟩
  | dT ks xs => obtain ⟨vs, e, l, r⟩ := q; exact ⟨vs, hH.trans e, l, mo _ _ r⟩
  | ins C fs xs => obtain ⟨dx, vs, e, l, r⟩ := q; exact ⟨dx, vs, hH.trans e, l, mo _ _ r⟩
  | dead => obtain ⟨u, e, n⟩ := q; exact ⟨u, hH.trans e, n⟩
  | lk o kvs xs => obtain ⟨e, r⟩ := q; exact ⟨hH.trans e, mo _ _ r⟩
theorem RpM.tracked {a : Addr} {m : MO} (q : RpM ad K H a m) : ∃ o, H a = some o := by
  cases m with
  | lst xs => obtain ⟨vs, e, r⟩ := q; exact ⟨_, e⟩
  | dK ks xs => obtain ⟨vs, e, l, r⟩ := q; exact ⟨_, e⟩
  | dT ks xs => obtain ⟨vs, e, l, r⟩ := q; exact ⟨_, e⟩
  | ins C fs xs => obtain ⟨dx, vs, e, l, r⟩ := q; exact ⟨_, e⟩
  | dead => obtain ⟨u, e, n⟩ := q; exact ⟨u, e⟩
  | lk o kvs xs => obtain ⟨e, r⟩ := q; exact ⟨_, e⟩
theorem RpM.nt {a : Addr} {m : MO} (q : RpM ad K H a m) (xs : List V) : H a ≠ some (.tup xs) := fun z => by
  cases m with
  | lst ys => obtain ⟨vs, e, r⟩ := q; rw [e] at z; cases z
  | dK ks ys => obtain ⟨vs, e, l, r⟩ := q; rw [e] at z; cases z
  | dT ks ys => obtain ⟨vs, e, l, r⟩ := q; rw [e] at z; cases z
  | ins C fs ys => obtain ⟨dx, vs, e, l, r⟩ := q; rw [e] at z; cases z
  | dead =>
    obtain ⟨u, e, n⟩ := q
    rw [e] at z
    exact n xs (Option.some.inj z)
  | lk o kvs ys => obtain ⟨e, r⟩ := q; rw [e] at z; cases z
theorem Mst.mono0 (s : Stp ad [] H H') (h : ∀ a ∈ ad, H' a = H a) (m : Mst ad K H μ) : Mst ad K H' μ :=
  ⟨m.nd, m.len, fun k a o e1 e2 => (m.mem k a o e1 e2).of (h a (AD.at_mem e1)) fun ps vs r => (RpL.mono (K := K) s ps vs r).nil0,
    fun i a hi e => by
      obtain ⟨o, ho⟩ := m.rsv i a hi e
      exact ⟨o, (h a (List.mem_of_getElem? e)).trans ho⟩,
    fun a ha xs => by rw [h a ha]; exact m.nt a ha xs⟩
theorem Mst.tracked (m : Mst ad K H μ) {a : Addr} (h : a ∈ ad) : ∃ o, H a = some o := by
  obtain ⟨i, hi, e⟩ := List.mem_iff_getElem.mp h
  have e1 : ad.l[i]? = some a := by rw [← e]; simp [hi]
  by_cases hn : i < ad.n
  · exact m.rsv i a hn e1
  · obtain ⟨k, rfl⟩ : ∃ k, i = ad.n + k := ⟨i - ad.n, by omega⟩
    have hm : k < μ.length := by have := m.len; omega
    have e2 : μ[k]? = some μ[k] := by simp [hm]
    exact (m.mem k a _ e1 e2).tracked
/-- a new object of plain data -/
theorem Stp.data {p : Addr} {o : HO} (hp : H p = none) : Stp ad [] H (upd H p o) := by
  refine ⟨fun b u h _ => ?_, fun b u h => ?_, fun _ h => nomatch h⟩
  · rw [upd_ne (ne_of_none h hp)]; exact h
  · exact ⟨u, by rw [upd_ne (ne_of_none h hp)]; exact h⟩
theorem Stp.fresh {p : Addr} {o : HO} (hp : H p = none) : Stp ad [p] H (upd H p o) := by
  refine ⟨fun b u h _ => ?_, fun b u h => ?_, fun b h => ?_⟩
  · rw [upd_ne (ne_of_none h hp)]; exact h
  · exact ⟨u, by rw [upd_ne (ne_of_none h hp)]; exact h⟩
  · rw [List.mem_singleton.mp h]; exact hp
theorem Mst.data {p : Addr} {o : HO} (hp : H p = none) (m : Mst ad K H μ) : Mst ad K (upd H p o) μ := by
  refine m.mono0 (Stp.data hp) fun a ha => ?_
  obtain ⟨u, hu⟩ := m.tracked ha
  exact upd_ne (ne_of_none hu hp)
theorem Mst.notIn {p : Addr} (hp : H p = none) (m : Mst ad K H μ) : p ∉ ad := fun h => by
  obtain ⟨u, hu⟩ := m.tracked h
  rw [hp] at hu; cases hu
/-- an object, or what is set aside, is written -/
theorem StpW.write {a : Addr} {o : HO} (ha : a ∈ ad) : StpW ad [] H (upd H a o) := by
  refine ⟨fun b u h hn => ?_, fun _ h => nomatch h⟩
  have hb : b ≠ a := fun e => hn (e ▸ ha)
  rw [upd_ne hb]; exact h
theorem Stp.write {k : Nat} {a : Addr} {o : HO} (hk : ad.at k = some a) : Stp ad [] H (upd H a o) := by
  refine ⟨fun b u h hn => ?_, fun b u h => ?_, fun _ h => nomatch h⟩
  · have hb : b ≠ a := fun e => hn (e ▸ AD.at_os hk)
    rw [upd_ne hb]; exact h
  · by_cases hb : b = a
    · subst hb; exact ⟨o, upd_same⟩
    · exact ⟨u, by rw [upd_ne hb]; exact h⟩
theorem RpL.wr' {a : Addr} {o : HO} (ha : a ∈ ad) {ps : List PV} {vs : List V} (r : RpL ad K H ps vs) : RpL ad K (upd H a o) ps vs := (RpL.monoW (K := K) (StpW.write (H := H) (o := o) ha) ps vs r).nil0
theorem RpL.wr {a : Addr} {o : HO} {k : Nat} (hk : ad.at k = some a) {ps : List PV} {vs : List V} (r : RpL ad K H ps vs) : RpL ad K (upd H a o) ps vs := r.wr' (AD.at_mem hk)
theorem Rp.wr' {a : Addr} {o : HO} (ha : a ∈ ad) {p : PV} {v : V} (r : Rp ad K H p v) : Rp ad K (upd H a o) p v := (Rp.monoW (K := K) (StpW.write (H := H) (o := o) ha) p v r).nil0
theorem Rp.wr {a : Addr} {o : HO} {k : Nat} (hk : ad.at k = some a) {p : PV} {v : V} (r : Rp ad K H p v) : Rp ad K (upd H a o) p v := r.wr' (AD.at_mem hk)
theorem Mst.ne (M : Mst ad K H μ) {i j : Nat} {a b : Addr} (hi : ad.l[i]? = some a) (hj : ad.l[j]? = some b) (h : i ≠ j) : b ≠ a := fun e => by
  subst e
  obtain ⟨h1, e1⟩ := List.getElem?_eq_some_iff.mp hi
  obtain ⟨h2, e2⟩ := List.getElem?_eq_some_iff.mp hj
  exact h ((List.getElem_inj M.nd).mp (e1.trans e2.symm))
theorem Mst.write {k : Nat} {a : Addr} {o : HO} {m : MO} (M : Mst ad K H μ) (hk : ad.at k = some a) (new : RpM ad K (upd H a o) a m) : Mst ad K (upd H a o) (μ.set k m) := by
  refine ⟨M.nd, by simp [M.len], fun j b u e1 e2 => ?_, fun i b hi e => ?_, fun b hb xs => ?_⟩
  · rw [List.getElem?_set] at e2
    by_cases hj : k = j
    · subst hj
      rw [hk] at e1
      cases e1
      have hl : k < μ.length := by have h1 := M.len; have h2 := AD.at_lt hk; omega
      rw [if_pos rfl, if_pos hl] at e2
      cases e2
      exact new
    · rw [if_neg hj] at e2
      have hb : b ≠ a := M.ne hk e1 (by omega)
      exact (M.mem j b u e1 e2).of (upd_ne hb) fun ps vs r => r.wr hk
  · obtain ⟨u, hu⟩ := M.rsv i b hi e
    have hb : b ≠ a := M.ne hk e (by omega)
    exact ⟨u, by rw [upd_ne hb]; exact hu⟩
  · by_cases e : b = a
    · rw [e]; exact new.nt xs
    · rw [upd_ne e]; exact M.nt b hb xs
/-- what is set aside is written -/
theorem Mst.writeR {i : Nat} {a : Addr} {o : HO} (M : Mst ad K H μ) (hi : i < ad.n) (hk : ad.l[i]? = some a) (ho : ∀ xs, o ≠ .tup xs) : Mst ad K (upd H a o) μ := by
  have ha : a ∈ ad := List.mem_of_getElem? hk
  refine ⟨M.nd, M.len, fun j b u e1 e2 => ?_, fun j b hj e => ?_, fun b hb xs => ?_⟩
  · have hb : b ≠ a := M.ne hk e1 (by omega)
    exact (M.mem j b u e1 e2).of (upd_ne hb) fun ps vs r => r.wr' ha
  · by_cases hb : b = a
    · subst hb; exact ⟨o, upd_same⟩
    · obtain ⟨u, hu⟩ := M.rsv j b hj e
      exact ⟨u, by rw [upd_ne hb]; exact hu⟩
  · by_cases e : b = a
    · rw [e, upd_same]; exact fun z => ho xs (Option.some.inj z)
    · rw [upd_ne e]; exact M.nt b hb xs
/-- a new object of the store -/
theorem Mst.push {p : Addr} {o : HO} {m : MO} (M : Mst ad K H μ) (hp : H p = none) (new : RpM (ad ++ [p]) K (upd H p o) p m) : Mst (ad ++ [p]) K (upd H p o) (μ ++ [m]) := by
  have hn := M.notIn hp
  have hl := M.len
  refine ⟨?_, ?_, fun j b u e1 e2 => ?_, fun i b hi e => ?_, fun b hb xs => ?_⟩
  · show (ad.l ++ [p]).Nodup
    rw [List.nodup_append]
    exact ⟨M.nd, by simp, fun x hx y hy e => by rw [List.mem_singleton] at hy; subst hy; subst e; exact hn hx⟩
  · show (ad.l ++ [p]).length = ad.n + (μ ++ [m]).length
    simp
    omega
  · by_cases hj : ad.n + j < ad.l.length
    · rw [AD.at_append hj] at e1
      rw [List.getElem?_append_left (by omega)] at e2
      have hb : b ≠ p := fun e => hn (e ▸ AD.at_mem e1)
      exact (M.mem j b u e1 e2).of (upd_ne hb) fun ps vs r => RpL.mono (K := K) (Stp.fresh hp) ps vs r
    · have hj2 : j = μ.length := by
        have : ad.n + j < (ad.l ++ [p]).length := AD.at_lt e1
        simp at this
        omega
      subst hj2
      rw [AD.at_snoc hl] at e1
      simp at e2
      cases e1
      subst e2
      exact new
  · have e' : ad.l[i]? = some b := by
      have h1 : i < ad.l.length := by
        have : i < ad.n := hi
        omega
      have e2 : (ad.l ++ [p])[i]? = some b := e
      rwa [List.getElem?_append_left h1] at e2
    obtain ⟨u, hu⟩ := M.rsv i b hi e'
    exact ⟨u, by rw [upd_ne (ne_of_none hu hp)]; exact hu⟩
  · by_cases e : b = p
    · rw [e]; exact new.nt xs
    · rw [upd_ne e]
      rcases AD.mem_append.mp hb with z | z
      · exact M.nt b z xs
      · exact absurd (List.mem_singleton.mp z) e

/-! ### an address set aside -/
def AD.aside (a : AD) (x : Addr) : AD := ⟨a.n + 1, x :: a.l⟩
theorem AD.aside_at {a : AD} {x : Addr} {k : Nat} : (a.aside x).at k = a.at k := by
  show (x :: a.l)[a.n + 1 + k]? = a.l[a.n + k]?
  rw [show a.n + 1 + k = (a.n + k) + 1 by omega]
  rfl
theorem AD.aside_app {a : AD} {x : Addr} {b : List Addr} : a.aside x ++ b = (a ++ b).aside x := rfl
theorem AD.aside_mem {a : AD} {x y : Addr} : y ∈ a.aside x ↔ y = x ∨ y ∈ a := List.mem_cons
mutual
/-- data avoid what is set aside -/
theorem Rp.aside {l : Addr} {o : HO} (hl : H l = none) : ∀ (p : PV) (v : V), Rp ad K H p v → Rp (ad.aside l) K (upd H l o) p v
  | .non, v, h => by unfold Rp at h ⊢; exact h
  | .bl b, v, h => by unfold Rp at h ⊢; exact h
  | .int i, v, h => by unfold Rp at h ⊢; exact h
  | .str x, v, h => by unfold Rp at h ⊢; exact h
  | .tup xs, v, h => by
    unfold Rp at h ⊢
    obtain ⟨a, vs, e, h1, h2⟩ := h
    refine ⟨a, vs, e, ?_, RpL.aside hl xs vs h2⟩
    rcases h1 with ⟨x, y⟩ | x
    · have ne := ne_of_none x hl
      exact .inl ⟨by rw [upd_ne ne]; exact x, fun z => (AD.aside_mem.mp z).elim ne y⟩
    · exact .inr x
  | .lst xs, v, h => by
    unfold Rp at h ⊢
    obtain ⟨a, vs, e, ⟨x, y⟩, h2⟩ := h
    have ne := ne_of_none x hl
    exact ⟨a, vs, e, ⟨by rw [upd_ne ne]; exact x, fun z => (AD.aside_mem.mp z).elim ne y⟩, RpL.aside hl xs vs h2⟩
  | .scr xs, v, h => by
    unfold Rp at h ⊢
    obtain ⟨a, vs, e, h1, h2⟩ := h
    refine ⟨a, vs, e, ?_, RpL.aside hl xs vs h2⟩
    rcases h1 with ⟨⟨o, x⟩, y⟩ | x
    · have ne := ne_of_none x hl
      exact .inl ⟨⟨o, by rw [upd_ne ne]; exact x⟩, fun z => (AD.aside_mem.mp z).elim ne y⟩
    · exact .inr x
  | .wtp xs, v, h => by
    unfold Rp at h ⊢
    obtain ⟨a, vs, e, h1, h2⟩ := h
    exact ⟨a, vs, e, h1, RpL.aside hl xs vs h2⟩
  | .dct ks xs, v, h => by
    unfold Rp at h ⊢
    obtain ⟨a, vs, e, ⟨x, y⟩, hln, h2⟩ := h
    have ne := ne_of_none x hl
    exact ⟨a, vs, e, ⟨by rw [upd_ne ne]; exact x, fun z => (AD.aside_mem.mp z).elim ne y⟩, hln, RpL.aside hl xs vs h2⟩
  | .obj k, v, h => by
    unfold Rp at h ⊢
    obtain ⟨a, e, h1⟩ := h
    exact ⟨a, e, AD.aside_at.trans h1⟩
  | .exc C fs xs, v, h => by
    unfold Rp at h ⊢
    obtain ⟨a, d, vs, e, ⟨x, y⟩, hd, hln, h2⟩ := h
    have ne := ne_of_none x hl
    refine ⟨a, d, vs, e, ⟨by rw [upd_ne ne]; exact x, fun z => (AD.aside_mem.mp z).elim ne y⟩, ?_, hln, RpL.aside hl xs vs h2⟩
    cases d with
    | none => exact hd
    | some dd =>
      have ne2 := ne_of_none hd.1 hl
      exact ⟨by rw [upd_ne ne2]; exact hd.1, fun z => (AD.aside_mem.mp z).elim ne2 hd.2⟩
  | .exm C m, v, h => by
    unfold Rp at h ⊢
    obtain ⟨a, t, e, ⟨x, y⟩, x2, y2⟩ := h
    have ne := ne_of_none x hl
    have ne2 := ne_of_none x2 hl
    exact ⟨a, t, e, ⟨by rw [upd_ne ne]; exact x, fun z => (AD.aside_mem.mp z).elim ne y⟩, by rw [upd_ne ne2]; exact x2, fun z => (AD.aside_mem.mp z).elim ne2 y2⟩
theorem RpL.aside {l : Addr} {o : HO} (hl : H l = none) : ∀ (ps : List PV) (vs : List V), RpL ad K H ps vs → RpL (ad.aside l) K (upd H l o) ps vs
  | [], vs, h => by unfold RpL at h ⊢; exact h
  | p :: ps, vs, h => by
    unfold RpL at h ⊢
    obtain ⟨v, r, e, h1, h2⟩ := h
    exact ⟨v, r, e, Rp.aside hl p v h1, RpL.aside hl ps r h2⟩
end
mutual
theorem Rp.back {l : Addr} : ∀ (p : PV) (v : V), Rp (ad.aside l) K H p v → Rp ad K H p v
  | .non, v, h => by unfold Rp at h ⊢; exact h
  | .bl b, v, h => by unfold Rp at h ⊢; exact h
  | .int i, v, h => by unfold Rp at h ⊢; exact h
  | .str x, v, h => by unfold Rp at h ⊢; exact h
  | .tup xs, v, h => by
    unfold Rp at h ⊢
    obtain ⟨a, vs, e, h1, h2⟩ := h
    refine ⟨a, vs, e, ?_, RpL.back xs vs h2⟩
    rcases h1 with ⟨x, y⟩ | x
    · exact .inl ⟨x, fun z => y (AD.aside_mem.mpr (.inr z))⟩
    · exact .inr x
  | .lst xs, v, h => by
    unfold Rp at h ⊢
    obtain ⟨a, vs, e, ⟨x, y⟩, h2⟩ := h
    exact ⟨a, vs, e, ⟨x, fun z => y (AD.aside_mem.mpr (.inr z))⟩, RpL.back xs vs h2⟩
  | .scr xs, v, h => by
    unfold Rp at h ⊢
    obtain ⟨a, vs, e, h1, h2⟩ := h
    refine ⟨a, vs, e, ?_, RpL.back xs vs h2⟩
    rcases h1 with ⟨x, y⟩ | x
    · exact .inl ⟨x, fun z => y (AD.aside_mem.mpr (.inr z))⟩
    · exact .inr x
  | .wtp xs, v, h => by
    unfold Rp at h ⊢
    obtain ⟨a, vs, e, h1, h2⟩ := h
    exact ⟨a, vs, e, h1, RpL.back xs vs h2⟩
  | .dct ks xs, v, h => by
    unfold Rp at h ⊢
    obtain ⟨a, vs, e, ⟨x, y⟩, hln, h2⟩ := h
    exact ⟨a, vs, e, ⟨x, fun z => y (AD.aside_mem.mpr (.inr z))⟩, hln, RpL.back xs vs h2⟩
  | .obj k, v, h => by
    unfold Rp at h ⊢
    obtain ⟨a, e, h1⟩ := h
    exact ⟨a, e, AD.aside_at.symm.trans h1⟩
  | .exc C fs xs, v, h => by
    unfold Rp at h ⊢
    obtain ⟨a, d, vs, e, ⟨x, y⟩, hd, hln, h2⟩ := h
    refine ⟨a, d, vs, e, ⟨x, fun z => y (AD.aside_mem.mpr (.inr z))⟩, ?_, hln, RpL.back xs vs h2⟩
    cases d with
    | none => exact hd
    | some dd => exact ⟨hd.1, fun z => hd.2 (AD.aside_mem.mpr (.inr z))⟩
  | .exm C m, v, h => by
    unfold Rp at h ⊢
    obtain ⟨a, t, e, ⟨x, y⟩, x2, y2⟩ := h
    exact ⟨a, t, e, ⟨x, fun z => y (AD.aside_mem.mpr (.inr z))⟩, x2, fun z => y2 (AD.aside_mem.mpr (.inr z))⟩
theorem RpL.back {l : Addr} : ∀ (ps : List PV) (vs : List V), RpL (ad.aside l) K H ps vs → RpL ad K H ps vs
  | [], vs, h => by unfold RpL at h ⊢; exact h
  | p :: ps, vs, h => by
    unfold RpL at h ⊢
    obtain ⟨v, r, e, h1, h2⟩ := h
    exact ⟨v, r, e, Rp.back p v h1, RpL.back ps r h2⟩
end
theorem Mst.aside {l : Addr} {o : HO} (M : Mst ad K H μ) (hl : H l = none) (ho : ∀ xs, o ≠ .tup xs := by intro _ z; cases z) : Mst (ad.aside l) K (upd H l o) μ := by
  have hn := M.notIn hl
  refine ⟨?_, ?_, fun j b u e1 e2 => ?_, fun i b hi e => ?_, fun b hb xs => ?_⟩
  · show (l :: ad.l).Nodup
    exact List.nodup_cons.mpr ⟨hn, M.nd⟩
  · show (l :: ad.l).length = ad.n + 1 + μ.length
    have := M.len
    simp
    omega
  · rw [AD.aside_at] at e1
    have hb : b ≠ l := fun e => hn (e ▸ AD.at_mem e1)
    exact (M.mem j b u e1 e2).of (upd_ne hb) fun ps vs r => r.aside hl
  · match i, e with
    | 0, e =>
      have e' : l = b := by simpa [AD.aside] using e
      subst e'
      exact ⟨o, upd_same⟩
    | i + 1, e =>
      have e' : ad.l[i]? = some b := by simpa [AD.aside] using e
      have hi' : i + 1 < ad.n + 1 := hi
      obtain ⟨u, hu⟩ := M.rsv i b (by omega) e'
      exact ⟨u, by rw [upd_ne (ne_of_none hu hl)]; exact hu⟩
  · by_cases e : b = l
    · rw [e, upd_same]; exact fun z => ho xs (Option.some.inj z)
    · rw [upd_ne e]
      rcases AD.aside_mem.mp hb with z | z
      · exact absurd z e
      · exact M.nt b z xs
theorem Mst.back {l : Addr} (M : Mst (ad.aside l) K H μ) : Mst ad K H μ := by
  refine ⟨(List.nodup_cons.mp M.nd).2, ?_, fun j b u e1 e2 => ?_, fun i b hi e => ?_, fun b hb xs => M.nt b (AD.aside_mem.mpr (.inr hb)) xs⟩
  · have h : (l :: ad.l).length = ad.n + 1 + μ.length := M.len
    simp at h
    omega
  · exact (M.mem j b u (AD.aside_at.trans e1) e2).of rfl fun ps vs r => r.back
  · exact M.rsv (i + 1) b (show i + 1 < ad.n + 1 by omega) (by simpa [AD.aside] using e)
theorem Mst.asideW {l : Addr} {o : HO} (M : Mst (ad.aside l) K H μ) (ho : ∀ xs, o ≠ .tup xs := by intro _ z; cases z) : Mst (ad.aside l) K (upd H l o) μ := M.writeR (i := 0) (show 0 < ad.n + 1 by omega) rfl ho
theorem RpL.asideW {l : Addr} {o : HO} {ps : List PV} {vs : List V} (r : RpL (ad.aside l) K H ps vs) : RpL (ad.aside l) K (upd H l o) ps vs := r.wr' (AD.aside_mem.mpr (.inl rfl))
theorem RpE.aside {l : Addr} {o : HO} (hl : H l = none) (h : RpE ad K H ρ σ) : RpE (ad.aside l) K (upd H l o) ρ σ :=
  ⟨h.len, fun i p e => let ⟨v, e1, r⟩ := h.get i p e; ⟨v, e1, r.aside hl⟩⟩
theorem Rst.aside {l : Addr} {o : HO} (hl : H l = none) (h : Rst ad K H σ ρ μ) (ho : ∀ xs, o ≠ .tup xs := by intro _ z; cases z) : Rst (ad.aside l) K (upd H l o) σ ρ μ := ⟨h.m.aside hl ho, h.e.aside hl⟩
/-- from H on, where l was new, and stands at the end as o' -/
theorem Stp.aside {l : Addr} {o o' : HO} (hl : H l = none) (s : Stp (ad.aside l) ad2 (upd H l o) H2) : Stp ad ad2 H (upd H2 l o') := by
  refine ⟨fun c u hc hn => ?_, fun c u hc => ?_, fun c hc => ?_⟩
  · have ne : c ≠ l := ne_of_none hc hl
    rw [upd_ne ne]
    exact s.keep c u (by rw [upd_ne ne]; exact hc) hn
  · have ne : c ≠ l := ne_of_none hc hl
    obtain ⟨u', hu'⟩ := s.there c u (by rw [upd_ne ne]; exact hc)
    exact ⟨u', by rw [upd_ne ne]; exact hu'⟩
  · have := s.new c hc
    by_cases hcl : c = l
    · subst hcl; exact hl
    · rwa [upd_ne hcl] at this
/-- what is set aside is not touched -/
theorem Stp.asideK {l : Addr} {o : HO} (s : Stp (ad.aside l) ad2 H H') (M : Mst (ad.aside l) K H μ) (h : H l = some o) : H' l = some o :=
  s.keep l o h fun z => (List.nodup_cons.mp M.nd).1 (List.mem_of_mem_drop (show l ∈ ad.l.drop ad.n from z))
theorem RpE.asideW {l : Addr} {o : HO} (h : RpE (ad.aside l) K H ρ σ) : RpE (ad.aside l) K (upd H l o) ρ σ :=
  ⟨h.len, fun i p e => let ⟨v, e1, r⟩ := h.get i p e; ⟨v, e1, r.wr' (AD.aside_mem.mpr (.inl rfl))⟩⟩
/-- data stay data -/
def Keep (K : PySem.W.Frag) (ad : AD) (H : Hp) (ad' : AD) (H' : Hp) : Prop := ∀ p v, Rp ad K H p v → Rp ad' K H' p v
theorem Keep.all {ad' : AD} (h : Keep K ad H ad' H') : ∀ (ps : List PV) (vs : List V), RpL ad K H ps vs → RpL ad' K H' ps vs
  | [], vs, r => by unfold RpL at r ⊢; exact r
  | p :: ps, vs, r => by
    unfold RpL at r ⊢
    obtain ⟨v, w, e, r1, r2⟩ := r
    exact ⟨v, w, e, h p v r1, Keep.all h ps w r2⟩
theorem Stp.kept (s : Stp ad ad2 H H') : Keep K ad H (ad ++ ad2) H' := fun p v r => r.mono s
theorem Keep.aside {ad' : AD} {l : Addr} {o : HO} (h : Keep K ad H ad' H') (hl : H' l = none) : Keep K ad H (ad'.aside l) (upd H' l o) := fun p v r => (h p v r).aside hl
theorem Keep.trans {ad' ad'' : AD} (h : Keep K ad H ad' H1) (h' : Keep K ad' H1 ad'' H2) : Keep K ad H ad'' H2 := fun p v r => h' p v (h p v r)
theorem Keep.asideW {ad' : AD} {l : Addr} {o : HO} (h : Keep K ad H (ad'.aside l) H') : Keep K ad H (ad'.aside l) (upd H' l o) := fun p v r => (h p v r).wr' (AD.aside_mem.mpr (.inl rfl))
end
end L3

namespace L3
open PySem PySem.Spec L2

/-! ### the weakest readings -/
structure SwE (X : Cx) (e : Expr) (σ : St) (H : Hp) (Q : VK) : Prop where
  go : ∀ pins s, Inv X pins σ H s → wpAny (model X.prog X.w) X.A (eval e X.env) (EP X pins σ Q) X.xe s
def wE (X : Cx) (e : Expr) : TE := fun σ H Q => SwE X e σ H Q
structure SwT (X : Cx) (e : Expr) (σ : St) (H : Hp) (Q : Bool → Hp → Prop) : Prop where
  go : ∀ pins s, Inv X pins σ H s → wpAny (model X.prog X.w) X.A (isTrue e X.env (eval e X.env)) (TP X pins σ Q) X.xe s
def wT (X : Cx) (e : Expr) : TT := fun σ H Q => SwT X e σ H Q
structure SwW (X : Cx) (e : Expr) (σ : St) (H : Hp) (Q : Bool → Hp → Prop) : Prop where
  go : ∀ whole pins s, Inv X pins σ H s → wpAny (model X.prog X.w) X.A (isTrue e X.env whole) (TP X pins σ Q) X.xe s
def wW (X : Cx) (e : Expr) : TT := fun σ H Q => SwW X e σ H Q
structure SwA (X : Cx) (es : List Expr) (σ : St) (H : Hp) (Q : List V → Hp → Prop) : Prop where
  go : ∀ pos pins s, Inv X pins σ H s → wpAny (model X.prog X.w) X.A (spliced (backTo pos (starEach es X.env))) (AP X pins σ Q) X.xe s
def wA (X : Cx) (es : List Expr) : TA := fun σ H Q => SwA X es σ H Q
structure SwS (X : Cx) (st : Stmt) (D : Ends) (σ : St) (H : Hp) : Prop where
  go : ∀ pins s, Inv X pins σ H s → wpAny (model X.prog X.w) X.A (exec st X.env) (SP X pins D) X.xe s
def wS (X : Cx) (st : Stmt) : TS := fun D σ H => SwS X st D σ H
structure SwSs (X : Cx) (st : List Stmt) (D : Ends) (σ : St) (H : Hp) : Prop where
  go : ∀ pins s, Inv X pins σ H s → wpAny (model X.prog X.w) X.A (execs st X.env) (SP X pins D) X.xe s
def wSs (X : Cx) (st : List Stmt) : TS := fun D σ H => SwSs X st D σ H
structure SwG (X : Cx) (tg : Expr) (v : V) (σ : St) (H : Hp) (Q : St → Hp → Prop) : Prop where
  go : ∀ pins s u, Inv X pins σ H s → RelV v u → wpAny (model X.prog X.w) X.A (assign tg X.env u) (fun _ s' => ∃ σ' H', Inv X pins σ' H' s' ∧ Q σ' H') X.xe s
def wG (X : Cx) (tg : Expr) : TG := fun v σ H Q => SwG X tg v σ H Q
section
variable {X : Cx}
theorem pe_w (e : Expr) : PE X e (wE X e) := ⟨fun pins s _ _ _ I h => h.go pins s I⟩
theorem pt_w (e : Expr) : PT X e (wT X e) := ⟨fun pins s _ _ _ I h => h.go pins s I⟩
theorem pw_w (e : Expr) : PW X e (wW X e) := ⟨fun whole pins s _ _ _ I h => h.go whole pins s I⟩
theorem pa_w (es : List Expr) : PA X es (wA X es) := ⟨fun pos pins s _ _ _ I h => h.go pos pins s I⟩
theorem ps_w (st : Stmt) : PS X st (wS X st) := ⟨fun pins s _ _ _ I h => h.go pins s I⟩
theorem pss_w (st : List Stmt) : PSs X st (wSs X st) := ⟨fun pins s _ _ _ I h => h.go pins s I⟩
theorem pg_w (tg : Expr) : PG X tg (wG X tg) := ⟨fun pins s _ _ _ u _ I r h => h.go pins s u I r⟩
theorem wE.of {e : Expr} {t : TE} {σ : St} {H : Hp} {Q : VK} (h : PE X e t) (q : t σ H Q) : wE X e σ H Q := ⟨fun pins s I => h.run pins s σ H Q I q⟩
theorem wT.of {e : Expr} {t : TT} {σ : St} {H : Hp} {Q : Bool → Hp → Prop} (h : PT X e t) (q : t σ H Q) : wT X e σ H Q := ⟨fun pins s I => h.run pins s σ H Q I q⟩
theorem wW.of {e : Expr} {t : TT} {σ : St} {H : Hp} {Q : Bool → Hp → Prop} (h : PW X e t) (q : t σ H Q) : wW X e σ H Q := ⟨fun whole pins s I => h.run whole pins s σ H Q I q⟩
theorem wA.of {es : List Expr} {t : TA} {σ : St} {H : Hp} {Q : List V → Hp → Prop} (h : PA X es t) (q : t σ H Q) : wA X es σ H Q := ⟨fun pos pins s I => h.run pos pins s σ H Q I q⟩
theorem wS.of {st : Stmt} {t : TS} {σ : St} {H : Hp} {D : Ends} (h : PS X st t) (q : t D σ H) : wS X st D σ H := ⟨fun pins s I => h.run pins s σ H D I q⟩
theorem wSs.of {st : List Stmt} {t : TS} {σ : St} {H : Hp} {D : Ends} (h : PSs X st t) (q : t D σ H) : wSs X st D σ H := ⟨fun pins s I => h.run pins s σ H D I q⟩
theorem wG.of {tg : Expr} {t : TG} {v : V} {σ : St} {H : Hp} {Q : St → Hp → Prop} (h : PG X tg t) (q : t v σ H Q) : wG X tg v σ H Q := ⟨fun pins s u I r => h.run pins s σ H v u Q I r q⟩
end

/-! ### the judgements over data -/
/-- what a reading of a value ends in -/
abbrev Fin1 (X : Cx) (ad : AD) (H : Hp) (μ' : Mem) (p : PV) (Q : VK) : Prop :=
  ∀ ad2 v H', Stp ad ad2 H H' → Mst (ad ++ ad2) X.K H' μ' → Rp (ad ++ ad2) X.K H' p v → Q v H'
abbrev FinB (X : Cx) (ad : AD) (H : Hp) (μ' : Mem) (b : Bool) (Q : Bool → Hp → Prop) : Prop :=
  ∀ ad2 H', Stp ad ad2 H H' → Mst (ad ++ ad2) X.K H' μ' → Q b H'
abbrev FinL (X : Cx) (ad : AD) (H : Hp) (μ' : Mem) (ps : List PV) (Q : List V → Hp → Prop) : Prop :=
  ∀ ad2 vs H', Stp ad ad2 H H' → Mst (ad ++ ad2) X.K H' μ' → RpL (ad ++ ad2) X.K H' ps vs → Q vs H'
def DE (X : Cx) (e : Expr) (ρ : Env) (μ : Mem) (p : PV) (μ' : Mem) : Prop :=
  ∀ ad σ H Q, Rst ad X.K H σ ρ μ → Fin1 X ad H μ' p Q → wE X e σ H Q
def DT (X : Cx) (e : Expr) (ρ : Env) (μ : Mem) (b : Bool) (μ' : Mem) : Prop :=
  ∀ ad σ H Q, Rst ad X.K H σ ρ μ → FinB X ad H μ' b Q → wT X e σ H Q
def DW (X : Cx) (e : Expr) (ρ : Env) (μ : Mem) (b : Bool) (μ' : Mem) : Prop :=
  ∀ ad σ H Q, Rst ad X.K H σ ρ μ → FinB X ad H μ' b Q → wW X e σ H Q
def DA (X : Cx) (es : List Expr) (ρ : Env) (μ : Mem) (ps : List PV) (μ' : Mem) : Prop :=
  ∀ ad σ H Q, Rst ad X.K H σ ρ μ → FinL X ad H μ' ps Q → wA X es σ H Q
/-- an exception: its class, its own fields -/
structure EX where
  C : Addr
  fs : List Str
  vs : List PV
def RpX (ad : AD) (K : PySem.W.Frag) (H : Hp) (x : EX) (cls : Value) (d : Option Addr) : Prop :=
  ∃ ws, cls = .ref x.C ∧ XdAt ad H d (x.fs.zip ws) ∧ x.fs.length = ws.length ∧ RpL ad K H x.vs ws
/-- the wish about exceptions that X itself has -/
def X0 (X : Cx) : WX := fun cls d σ H => ∀ u s', XE X (fun c d' σ' H' => c = cls ∧ d' = d ∧ σ' = σ ∧ H' = H) u s' → X.xe u s'
theorem takesX0 {X : Cx} : Takes X (X0 X) := fun u s' ⟨a, B, sI, pins, σ, H, cls, d, e, I, nb, up, sky, na, os, ag, w⟩ =>
  w u s' ⟨a, B, sI, pins, σ, H, cls, d, e, I, nb, up, sky, na, os, ag, rfl, rfl, rfl, rfl⟩
theorem X0.of {X : Cx} {W : WX} (t : Takes X W) {cls : Value} {d : Option Addr} {σ : L2.St} {H : Hp} (w : W cls d σ H) : X0 X cls d σ H := fun u s' ⟨a, B, sI, pins, σ', H', cls', d', e, I, nb, up, sky, na, os, ag, e1, e2, e3, e4⟩ => by
  subst e1 e2 e3 e4
  exact t u s' ⟨a, B, sI, pins, _, _, _, _, e, I, nb, up, sky, na, os, ag, w⟩
structure AEnds where
  nx : Env → Mem → Prop
  rt : PV → Mem → Prop
  bk : Env → Mem → Prop := fun _ _ => False
  ct : Env → Mem → Prop := fun _ _ => False
  xx : EX → Env → Mem → Prop := fun _ _ _ => False
/-- the ends D are served by Dc, seen from ad, H -/
structure Cov (X : Cx) (ad : AD) (H : Hp) (D : AEnds) (Dc : Ends) : Prop where
  nx : ∀ ad2 σ' H' ρ' μ', Stp ad ad2 H H' → Rst (ad ++ ad2) X.K H' σ' ρ' μ' → D.nx ρ' μ' → Dc.nx σ' H'
  bk : ∀ ad2 σ' H' ρ' μ', Stp ad ad2 H H' → Rst (ad ++ ad2) X.K H' σ' ρ' μ' → D.bk ρ' μ' → Dc.bk σ' H'
  ct : ∀ ad2 σ' H' ρ' μ', Stp ad ad2 H H' → Rst (ad ++ ad2) X.K H' σ' ρ' μ' → D.ct ρ' μ' → Dc.ct σ' H'
  rt : ∀ ad2 v H' p μ', Stp ad ad2 H H' → Mst (ad ++ ad2) X.K H' μ' → Rp (ad ++ ad2) X.K H' p v → D.rt p μ' → Dc.rt v H'
  xx : ∀ ad2 σ' H' ρ' μ' x cls d, Stp ad ad2 H H' → Rst (ad ++ ad2) X.K H' σ' ρ' μ' → RpX (ad ++ ad2) X.K H' x cls d → D.xx x ρ' μ' → X0 X cls d σ' H'
def DS (X : Cx) (st : Stmt) (ρ : Env) (μ : Mem) (D : AEnds) : Prop :=
  ∀ ad σ H Dc, Rst ad X.K H σ ρ μ → Cov X ad H D Dc → wS X st Dc σ H
def DSs (X : Cx) (st : List Stmt) (ρ : Env) (μ : Mem) (D : AEnds) : Prop :=
  ∀ ad σ H Dc, Rst ad X.K H σ ρ μ → Cov X ad H D Dc → wSs X st Dc σ H
def DG (X : Cx) (tg : Expr) (p : PV) (ρ : Env) (μ : Mem) (ρ' : Env) : Prop :=
  ∀ ad σ H v (Q : L2.St → Hp → Prop), Rst ad X.K H σ ρ μ → Rp ad X.K H p v → (∀ σ', Rst ad X.K H σ' ρ' μ → Q σ' H) → wG X tg v σ H Q

section
variable {X : Cx} {ad : AD} {ad2 : List Addr} {σ : L2.St} {H H' : Hp} {ρ ρ' : Env} {μ μ1 μ2 μ' : Mem} {p q r : PV} {e a b c : Expr} {es : List Expr} {pos : Pos} {k : Bool} {D : AEnds} {Dc : Ends}
theorem Stp.nil (s : Stp ad [] H H') (h : Rp (ad ++ ([] : List Addr)) X.K H' p v) : Rp ad X.K H' p v := by rwa [AD.append_nil] at h
theorem Rst.nil (h : Rst ad X.K H σ ρ μ) : Mst (ad ++ ([] : List Addr)) X.K H μ := by rw [AD.append_nil]; exact h.m
theorem Rp.nil {v : V} (h : Rp ad X.K H p v) : Rp (ad ++ ([] : List Addr)) X.K H p v := by rw [AD.append_nil]; exact h
theorem Fin1.step {Q : VK} (s : Stp ad ad2 H H') (f : Fin1 X ad H μ' p Q) : Fin1 X (ad ++ ad2) H' μ' p Q := fun ad3 v H2 s2 m r => f (ad2 ++ ad3) v H2 (s.trans s2) (by rwa [← AD.append_assoc]) (by rwa [← AD.append_assoc])
theorem FinB.step {Q : Bool → Hp → Prop} (s : Stp ad ad2 H H') (f : FinB X ad H μ' k Q) : FinB X (ad ++ ad2) H' μ' k Q := fun ad3 H2 s2 m => f (ad2 ++ ad3) H2 (s.trans s2) (by rwa [← AD.append_assoc])
theorem FinL.step {ps : List PV} {Q : List V → Hp → Prop} (s : Stp ad ad2 H H') (f : FinL X ad H μ' ps Q) : FinL X (ad ++ ad2) H' μ' ps Q := fun ad3 v H2 s2 m r => f (ad2 ++ ad3) v H2 (s.trans s2) (by rwa [← AD.append_assoc]) (by rwa [← AD.append_assoc])
theorem Cov.step (s : Stp ad ad2 H H') (c : Cov X ad H D Dc) : Cov X (ad ++ ad2) H' D Dc :=
  ⟨fun ad3 σ' H2 ρ' μ' s2 R d => c.nx (ad2 ++ ad3) σ' H2 ρ' μ' (s.trans s2) (by rwa [← AD.append_assoc]) d,
   fun ad3 σ' H2 ρ' μ' s2 R d => c.bk (ad2 ++ ad3) σ' H2 ρ' μ' (s.trans s2) (by rwa [← AD.append_assoc]) d,
   fun ad3 σ' H2 ρ' μ' s2 R d => c.ct (ad2 ++ ad3) σ' H2 ρ' μ' (s.trans s2) (by rwa [← AD.append_assoc]) d,
   fun ad3 v H2 p μ' s2 m r d => c.rt (ad2 ++ ad3) v H2 p μ' (s.trans s2) (by rwa [← AD.append_assoc]) (by rwa [← AD.append_assoc]) d,
   fun ad3 σ' H2 ρ' μ' x cls dd s2 R r d => c.xx (ad2 ++ ad3) σ' H2 ρ' μ' x cls dd (s.trans s2) (by rwa [← AD.append_assoc]) (by rwa [← AD.append_assoc]) d⟩

/-! ### names and constants -/
theorem DE.pe {i : Nat} (hp : PE X e (tVar i)) (h : ρ[i]? = some (some p)) : DE X e ρ μ p μ := fun ad σ H Q R f => by
  obtain ⟨v, e1, r⟩ := R.e.get i p h
  exact wE.of hp ⟨v, e1, f [] v H Stp.refl R.nil r.nil⟩
theorem Rp.int' {ad : AD} {K : PySem.W.Frag} {H : Hp} (i : Int) : Rp ad K H (.int i) (.int i) := by unfold Rp; rfl
theorem Rp.bl' {ad : AD} {K : PySem.W.Frag} {H : Hp} (i : Bool) : Rp ad K H (.bl i) (.bl i) := by unfold Rp; rfl
theorem Rp.str' {ad : AD} {K : PySem.W.Frag} {H : Hp} (i : Str) : Rp ad K H (.str i) (.str i) := by unfold Rp; rfl
theorem Rp.non' {ad : AD} {K : PySem.W.Frag} {H : Hp} : Rp ad K H .non .non := by unfold Rp; rfl
theorem Rp.int_inv {ad : AD} {K : PySem.W.Frag} {H : Hp} {i : Int} {v : V} (h : Rp ad K H (.int i) v) : v = .int i := by unfold Rp at h; exact h
theorem Rp.bl_inv {ad : AD} {K : PySem.W.Frag} {H : Hp} {i : Bool} {v : V} (h : Rp ad K H (.bl i) v) : v = .bl i := by unfold Rp at h; exact h
theorem Rp.str_inv {ad : AD} {K : PySem.W.Frag} {H : Hp} {i : Str} {v : V} (h : Rp ad K H (.str i) v) : v = .str i := by unfold Rp at h; exact h
theorem Rp.non_inv {ad : AD} {K : PySem.W.Frag} {H : Hp} {v : V} (h : Rp ad K H .non v) : v = .non := by unfold Rp at h; exact h
theorem Rp.tup_inv {ad : AD} {K : PySem.W.Frag} {H : Hp} {xs : List PV} {v : V} (h : Rp ad K H (.tup xs) v) : ∃ a vs, v = .ref a ∧ SqT K H a vs ∧ RpL ad K H xs vs := by
  unfold Rp at h
  obtain ⟨a, vs, e, h1, h2⟩ := h
  rcases h1 with ⟨x, _⟩ | x
  · exact ⟨a, vs, e, SqT.of x, h2⟩
  · exact ⟨a, vs, e, x.sq, h2⟩
theorem Rp.lst_inv {ad : AD} {K : PySem.W.Frag} {H : Hp} {xs : List PV} {v : V} (h : Rp ad K H (.lst xs) v) : ∃ a vs, v = .ref a ∧ H a = some (.lst vs) ∧ a ∉ ad ∧ RpL ad K H xs vs := by
  unfold Rp at h
  obtain ⟨a, vs, e, ⟨h1, h3⟩, h2⟩ := h
  exact ⟨a, vs, e, h1, h3, h2⟩
theorem Rp.obj_inv {ad : AD} {K : PySem.W.Frag} {H : Hp} {k : Nat} {v : V} (h : Rp ad K H (.obj k) v) : ∃ a, v = .ref a ∧ ad.at k = some a := by unfold Rp at h; exact h
def isNon : PV → Bool
  | .non => true
  | _ => false
/-- the items of a list: of data, the script, an object -/
def asL (μ : Mem) : PV → Option (List PV)
  | .lst xs => some xs
  | .scr xs => some xs
  | .obj k => match μ[k]? with
    | some (.lst xs) => some xs
    | _ => none
  | _ => none
/-- .. that is tracked as it is -/
def asK (μ : Mem) : PV → Option (List PV)
  | .lst xs => some xs
  | .obj k => match μ[k]? with
    | some (.lst xs) => some xs
    | _ => none
  | _ => none
theorem Rp.asK_inv {ad : AD} {K : PySem.W.Frag} {H : Hp} {μ : Mem} {xs : List PV} {p : PV} {v : V} (e : asK μ p = some xs) (m : Mst ad K H μ) (h : Rp ad K H p v) : ∃ a vs, v = .ref a ∧ H a = some (.lst vs) ∧ RpL ad K H xs vs := by
  cases p with
  | lst ys =>
    cases e
    obtain ⟨a, vs, e, h1, h3, h2⟩ := h.lst_inv
    exact ⟨a, vs, e, h1, h2⟩
  | obj k =>
    obtain ⟨a, e1, h1⟩ := h.obj_inv
    unfold asK at e
    dsimp only at e
    cases q : μ[k]? with
    | none => rw [q] at e; cases e
    | some o =>
      rw [q] at e
      cases o with
      | lst ys =>
        cases e
        obtain ⟨vs, hv, r⟩ := m.mem k a _ h1 q
        exact ⟨a, vs, e1, hv, r⟩
      | _ => cases e
  | _ => cases e
theorem Rp.asL_inv {ad : AD} {K : PySem.W.Frag} {H : Hp} {μ : Mem} {xs : List PV} {p : PV} {v : V} (e : asL μ p = some xs) (m : Mst ad K H μ) (h : Rp ad K H p v) : ∃ a vs, v = .ref a ∧ SqL K H a vs ∧ RpL ad K H xs vs := by
  cases p with
  | scr ys =>
    cases e
    unfold Rp at h
    obtain ⟨a, vs, e, h1, h2⟩ := h
    rcases h1 with ⟨⟨o, h1⟩, _⟩ | h1
    · exact ⟨a, vs, e, .inl (.inr ⟨o, h1⟩), h2⟩
    · exact ⟨a, vs, e, .inr h1, h2⟩
  | lst ys =>
    obtain ⟨a, vs, e1, h1, r⟩ := Rp.asK_inv (μ := μ) (xs := xs) (by cases e; rfl) m h
    exact ⟨a, vs, e1, SqL.of h1, r⟩
  | obj k =>
    obtain ⟨a, vs, e1, h1, r⟩ := Rp.asK_inv (μ := μ) (xs := xs) (by unfold asL at e; unfold asK; exact e) m h
    exact ⟨a, vs, e1, SqL.of h1, r⟩
  | _ => cases e
theorem DE.int {i : Int} {j : Nat} : DE X (.Constant (.int i) j pos) ρ μ (.int i) μ := fun ad σ H Q R f => wE.of pe_int (f [] _ H Stp.refl R.nil (Rp.int' i))
theorem DE.bl {i : Bool} {j : Nat} : DE X (.Constant (.bool i) j pos) ρ μ (.bl i) μ := fun ad σ H Q R f => wE.of pe_bl (f [] _ H Stp.refl R.nil (Rp.bl' i))
theorem DE.str {i : Str} {j : Nat} : DE X (.Constant (.str i) j pos) ρ μ (.str i) μ := fun ad σ H Q R f => wE.of pe_str (f [] _ H Stp.refl R.nil (Rp.str' i))
theorem DE.non {j : Nat} : DE X (.Constant .none j pos) ρ μ .non μ := fun ad σ H Q R f => wE.of pe_non (f [] _ H Stp.refl R.nil Rp.non')

/-! ### arguments, displays -/
theorem DA.nil : DA X [] ρ μ [] μ := fun ad σ H Q R f => wA.of pa_nil (f [] _ H Stp.refl R.nil RpL.nil)
theorem DA.cons {ps : List PV} (h : DE X e ρ μ p μ1) (t : DA X es ρ μ1 ps μ2) (hs : starEach (e :: es) X.env = (false, eval e X.env) :: starEach es X.env := by rfl) : DA X (e :: es) ρ μ (p :: ps) μ2 := fun ad σ H Q R f =>
  wA.of (pa_cons (pe_w e) (pa_w es) hs) (h ad σ H _ R fun ad1 v H1 s1 m1 r1 =>
    t (ad ++ ad1) σ H1 _ (R.mono s1 m1) fun ad2 vs H2 s2 m2 r2 => f (ad1 ++ ad2) _ H2 (s1.trans s2) (by rwa [← AD.append_assoc]) (by rw [← AD.append_assoc]; exact RpL.cons (r1.mono s2) r2))
theorem le_line {n : Nat} (h : n ≤ 1000) : n ≤ sizeLine := Nat.le_of_lt (small1000 h)
theorem DE.tup {ps : List PV} {x1 : Nat} (h : DA X es ρ μ ps μ') (hl : ps.length ≤ sizeLine := by exact le_line (Nat.le_of_ble_eq_true rfl)) : DE X (.Tuple es x1 pos) ρ μ (.tup ps) μ' := fun ad σ H Q R f =>
  wE.of (pe_tup (pa_w es)) (h ad σ H _ R fun ad1 vs H1 s1 m1 r1 => ⟨by rw [← r1.length]; exact hl, fun a ha => by
    have s2 : Stp (ad ++ ad1) [] H1 (upd H1 a (.tup vs)) := Stp.data ha
    refine f (ad1 ++ []) _ _ (s1.trans s2) (by rw [List.append_nil]; exact m1.data ha) ?_
    rw [List.append_nil]
    unfold Rp
    refine ⟨a, vs, rfl, .inl ⟨upd_same, m1.notIn ha⟩, ?_⟩
    have := RpL.mono (K := X.K) s2 ps vs r1
    rwa [AD.append_nil] at this⟩)
/-- a list that is never changed -/
theorem DE.lst {ps : List PV} (h : DA X es ρ μ ps μ') (hl : ps.length ≤ sizeLine := by exact le_line (Nat.le_of_ble_eq_true rfl)) : DE X (.List es pos) ρ μ (.lst ps) μ' := fun ad σ H Q R f =>
  wE.of (pe_lst (pa_w es)) (h ad σ H _ R fun ad1 vs H1 s1 m1 r1 => ⟨by rw [← r1.length]; exact hl, fun a ha => by
    have s2 : Stp (ad ++ ad1) [] H1 (upd H1 a (.lst vs)) := Stp.data ha
    refine f (ad1 ++ []) _ _ (s1.trans s2) (by rw [List.append_nil]; exact m1.data ha) ?_
    rw [List.append_nil]
    unfold Rp
    refine ⟨a, vs, rfl, ⟨upd_same, m1.notIn ha⟩, ?_⟩
    have := RpL.mono (K := X.K) s2 ps vs r1
    rwa [AD.append_nil] at this⟩)
/-- a list that may be changed: a new object -/
theorem DE.lstO {ps : List PV} (h : DA X es ρ μ ps μ') (hl : ps.length ≤ sizeLine := by exact le_line (Nat.le_of_ble_eq_true rfl)) : DE X (.List es pos) ρ μ (.obj μ'.length) (μ' ++ [.lst ps]) := fun ad σ H Q R f =>
  wE.of (pe_lst (pa_w es)) (h ad σ H _ R fun ad1 vs H1 s1 m1 r1 => ⟨by rw [← r1.length]; exact hl, fun a ha => by
    have s2 : Stp (ad ++ ad1) [a] H1 (upd H1 a (.lst vs)) := Stp.fresh ha
    refine f (ad1 ++ [a]) _ _ (s1.trans s2) ?_ ?_
    · rw [← AD.append_assoc]
      exact m1.push ha ⟨vs, upd_same, RpL.mono (K := X.K) s2 ps vs r1⟩
    · rw [← AD.append_assoc]
      unfold Rp
      exact ⟨a, rfl, AD.at_snoc m1.len⟩⟩)

/-! ### operators by values -/
def OpA (X : Cx) (f : Value → Value → Sem Value) (x y : PV) (μ : Mem) (p : PV) : Prop :=
  ∃ r : R2, OpR X f r ∧ ∀ ad H vx vy Q, Mst ad X.K H μ → Rp ad X.K H x vx → Rp ad X.K H y vy → Fin1 X ad H μ p Q → r vx vy H Q
theorem DE.bin {op : Operator} (ha : DE X a ρ μ p μ1) (hb : DE X b ρ μ1 q μ2) (o : OpA X (binaryOp op) p q μ2 r) : DE X (.BinOp a op b pos) ρ μ r μ2 := fun ad σ H Q R f => by
  obtain ⟨rr, ho, hr⟩ := o
  refine wE.of (pe_op ho (pe_w a) (pe_w b)) (ha ad σ H _ R fun ad1 v H1 s1 m1 r1 => hb (ad ++ ad1) σ H1 _ (R.mono s1 m1) fun ad2 u H2 s2 m2 r2 => ?_)
  exact hr (ad ++ ad1 ++ ad2) H2 v u Q m2 (r1.mono s2) r2 ((f.step s1).step s2)
theorem DE.cmp {op : CmpOp} (ha : DE X a ρ μ p μ1) (hb : DE X b ρ μ1 q μ2) (o : OpA X (compareOp op) p q μ2 r) (hm : behindInMarks op b = false := by first | rfl | exact nomark _) : DE X (.Compare a [op] [b] pos) ρ μ r μ2 := fun ad σ H Q R f => by
  obtain ⟨rr, ho, hr⟩ := o
  refine wE.of (pe_cmpR ho (pe_w a) (pe_w b) hm) (ha ad σ H _ R fun ad1 v H1 s1 m1 r1 => hb (ad ++ ad1) σ H1 _ (R.mono s1 m1) fun ad2 u H2 s2 m2 r2 => ?_)
  exact hr (ad ++ ad1 ++ ad2) H2 v u Q m2 (r1.mono s2) r2 ((f.step s1).step s2)
theorem DT.cmp {op : CmpOp} (ha : DE X a ρ μ p μ1) (hb : DE X b ρ μ1 q μ2) (o : OpA X (compareOp op) p q μ2 (.bl k)) (hm : behindInMarks op b = false := by first | rfl | exact nomark _) : DT X (.Compare a [op] [b] pos) ρ μ k μ2 := fun ad σ H Q R f => by
  obtain ⟨rr, ho, hr⟩ := o
  refine wT.of (pt_cmpR ho (pe_w a) (pe_w b) hm) (ha ad σ H _ R fun ad1 v H1 s1 m1 r1 => hb (ad ++ ad1) σ H1 _ (R.mono s1 m1) fun ad2 u H2 s2 m2 r2 => ?_)
  exact hr (ad ++ ad1 ++ ad2) H2 v u _ m2 (r1.mono s2) r2 fun ad3 w H3 s3 m3 r3 => ⟨k, r3.bl_inv, ((f.step s1).step s2) ad3 H3 s3 m3⟩
/-- a op b op' c, the second comparison pure -/
theorem DE.chain {op op' : CmpOp} {k1 k2 : Bool} (ha : DE X a ρ μ p μ1) (hb : DE X b ρ μ1 q μ2) (o : OpA X (compareOp op) p q μ2 (.bl k1)) (hc : DE X c ρ μ2 r μ2) (o' : OpA X (compareOp op') q r μ2 (.bl k2))
    (hm : lastMarks [op, op'] [b, c] = false := by with_unfolding_all rfl) : DE X (.Compare a [op, op'] [b, c] pos) ρ μ (.bl (k1 && k2)) μ2 := fun ad σ H Q R f => by
  obtain ⟨rr, ho, hr⟩ := o
  obtain ⟨rr', ho', hr'⟩ := o'
  refine wE.of (pe_chain ho ho' (pe_w a) (pe_w b) (pe_w c) hm) (ha ad σ H _ R fun ad1 v H1 s1 m1 r1 => hb (ad ++ ad1) σ H1 _ (R.mono s1 m1) fun ad2 u H2 s2 m2 r2 => ?_)
  refine hr (ad ++ ad1 ++ ad2) H2 v u _ m2 (r1.mono s2) r2 fun ad3 w H3 s3 m3 r3 => ⟨k1, r3.bl_inv, ?_⟩
  have R3 : Rst (ad ++ ad1 ++ ad2 ++ ad3) X.K H3 σ ρ μ2 := ((R.mono s1 m1).mono s2 m2).mono s3 m3
  cases k1 with
  | false => exact ((f.step s1).step s2) ad3 _ H3 s3 m3 (Rp.bl' _)
  | true =>
    refine hc _ σ H3 _ R3 fun ad4 z H4 s4 m4 r4 => ?_
    refine hr' _ H4 u z Q m4 ((r2.mono s3).mono s4) r4 ?_
    exact (((f.step s1).step s2).step s3).step s4
theorem DT.chain {op op' : CmpOp} {k1 k2 : Bool} (ha : DE X a ρ μ p μ1) (hb : DE X b ρ μ1 q μ2) (o : OpA X (compareOp op) p q μ2 (.bl k1)) (hc : DE X c ρ μ2 r μ2) (o' : OpA X (compareOp op') q r μ2 (.bl k2))
    (hm : lastMarks [op, op'] [b, c] = false := by with_unfolding_all rfl) : DT X (.Compare a [op, op'] [b, c] pos) ρ μ (k1 && k2) μ2 := fun ad σ H Q R f => by
  obtain ⟨rr, ho, hr⟩ := o
  obtain ⟨rr', ho', hr'⟩ := o'
  refine wT.of (pt_chain ho ho' (pe_w a) (pe_w b) (pe_w c) hm) (ha ad σ H _ R fun ad1 v H1 s1 m1 r1 => hb (ad ++ ad1) σ H1 _ (R.mono s1 m1) fun ad2 u H2 s2 m2 r2 => ?_)
  refine hr (ad ++ ad1 ++ ad2) H2 v u _ m2 (r1.mono s2) r2 fun ad3 w H3 s3 m3 r3 => ⟨k1, r3.bl_inv, ?_⟩
  have R3 : Rst (ad ++ ad1 ++ ad2 ++ ad3) X.K H3 σ ρ μ2 := ((R.mono s1 m1).mono s2 m2).mono s3 m3
  cases k1 with
  | false => exact ⟨false, rfl, ((f.step s1).step s2) ad3 H3 s3 m3⟩
  | true =>
    refine hc _ σ H3 _ R3 fun ad4 z H4 s4 m4 r4 => ?_
    refine hr' _ H4 u z _ m4 ((r2.mono s3).mono s4) r4 fun ad5 w' H5 s5 m5 r5 => ⟨k2, r5.bl_inv, ?_⟩
    exact ((((f.step s1).step s2).step s3).step s4) ad5 H5 s5 m5
theorem OpA.int0 {f : Value → Value → Sem Value} {g : Int → Int → V} {i j : Int} {p : PV} (ho : OpR X f (rI0 g)) (hg : ∀ ad H, Rp ad X.K H p (g i j)) : OpA X f (.int i) (.int j) μ p :=
  ⟨_, ho, fun ad H vx vy Q m rx ry f => ⟨i, j, rx.int_inv, ry.int_inv, f [] _ H Stp.refl (by rwa [AD.append_nil]) (hg _ _)⟩⟩
theorem OpA.int1 {f : Value → Value → Sem Value} {C : Int → Int → Prop} {g : Int → Int → V} {i j : Int} {p : PV} (ho : OpR X f (rI C g)) (hc : C i j) (hg : ∀ ad H, Rp ad X.K H p (g i j)) : OpA X f (.int i) (.int j) μ p :=
  ⟨_, ho, fun ad H vx vy Q m rx ry f => ⟨i, j, rx.int_inv, ry.int_inv, hc, f [] _ H Stp.refl (by rwa [AD.append_nil]) (hg _ _)⟩⟩
variable {i j : Int}
theorem oa_add : OpA X (binaryOp .Add) (.int i) (.int j) μ (.int (i + j)) := .int0 op_add fun _ _ => Rp.int' _
theorem oa_sub : OpA X (binaryOp .Sub) (.int i) (.int j) μ (.int (i - j)) := .int0 op_sub fun _ _ => Rp.int' _
theorem oa_mul (h : CMulW i j) : OpA X (binaryOp .Mult) (.int i) (.int j) μ (.int (i * j)) := .int1 op_mulW h fun _ _ => Rp.int' _
theorem oa_div (h : CDivW i j) : OpA X (binaryOp .FloorDiv) (.int i) (.int j) μ (.int (i / j)) := .int1 op_fdivW h fun _ _ => Rp.int' _
theorem oa_mod (h : 0 < j) : OpA X (binaryOp .Mod) (.int i) (.int j) μ (.int (i % j)) := .int1 op_mod h fun _ _ => Rp.int' _
theorem oa_pow (h : CPow i j) : OpA X (binaryOp .Pow) (.int i) (.int j) μ (.int (i ^ j.toNat)) := .int1 op_pow h fun _ _ => Rp.int' _
theorem oa_lt : OpA X (compareOp .Lt) (.int i) (.int j) μ (.bl (decide (i < j))) := .int0 op_lt fun _ _ => Rp.bl' _
theorem oa_le : OpA X (compareOp .LtE) (.int i) (.int j) μ (.bl (decide (i ≤ j))) := .int0 op_le fun _ _ => Rp.bl' _
theorem oa_gt : OpA X (compareOp .Gt) (.int i) (.int j) μ (.bl (decide (j < i))) := .int0 op_gt fun _ _ => Rp.bl' _
theorem oa_ge : OpA X (compareOp .GtE) (.int i) (.int j) μ (.bl (decide (j ≤ i))) := .int0 op_ge fun _ _ => Rp.bl' _
theorem oa_eq : OpA X (compareOp .Eq) (.int i) (.int j) μ (.bl (decide (i = j))) :=
  ⟨_, op_eq, fun ad H vx vy Q m rx ry f => by
    rw [rx.int_inv, ry.int_inv]
    refine ⟨rfl, ?_⟩
    rw [show decide (V.int i = V.int j) = decide (i = j) from by by_cases h : i = j <;> simp [h]]
    exact f [] _ H Stp.refl (by rwa [AD.append_nil]) (Rp.bl' _)⟩
theorem oa_ne : OpA X (compareOp .NotEq) (.int i) (.int j) μ (.bl (!decide (i = j))) :=
  ⟨_, op_ne, fun ad H vx vy Q m rx ry f => by
    rw [rx.int_inv, ry.int_inv]
    refine ⟨rfl, ?_⟩
    rw [show decide (V.int i = V.int j) = decide (i = j) from by by_cases h : i = j <;> simp [h]]
    exact f [] _ H Stp.refl (by rwa [AD.append_nil]) (Rp.bl' _)⟩
theorem oa_eqS {x y : Str} : OpA X (compareOp .Eq) (.str x) (.str y) μ (.bl (decide (x = y))) :=
  ⟨_, op_eq, fun ad H vx vy Q m rx ry f => by
    rw [rx.str_inv, ry.str_inv]
    refine ⟨rfl, ?_⟩
    rw [show decide (V.str x = V.str y) = decide (x = y) from by by_cases h : x = y <;> simp [h]]
    exact f [] _ H Stp.refl (by rwa [AD.append_nil]) (Rp.bl' _)⟩
theorem oa_addS {x y : Str} (h : x.length + y.length ≤ sizeLine) : OpA X (binaryOp .Add) (.str x) (.str y) μ (.str (x ++ y)) :=
  ⟨_, op_add_str, fun ad H vx vy Q m rx ry f => ⟨x, y, rx.str_inv, ry.str_inv, h, f [] _ H Stp.refl (by rwa [AD.append_nil]) (Rp.str' _)⟩⟩
/-- list + list -/
theorem oa_cat {xs ys : List PV} (h1 : asK μ p = some xs) (h2 : asK μ q = some ys) (h : xs.length + ys.length ≤ sizeLine) : OpA X (binaryOp .Add) p q μ (.lst (xs ++ ys)) :=
  ⟨_, op_cat, fun ad H vx vy Q m rx ry f => by
    obtain ⟨a, vs, e1, h1, r1⟩ := rx.asK_inv h1 m
    obtain ⟨b, ws, e2, h2, r2⟩ := ry.asK_inv h2 m
    refine ⟨a, b, vs, ws, e1, e2, h1, h2, by rw [← r1.length, ← r2.length]; exact h, fun l hl => ?_⟩
    have s2 : Stp ad [] H (upd H l (.lst (vs ++ ws))) := Stp.data hl
    refine f [] _ _ s2 (by rw [AD.append_nil]; exact m.data hl) ?_
    rw [AD.append_nil]
    unfold Rp
    refine ⟨l, _, rfl, ⟨upd_same, m.notIn hl⟩, ?_⟩
    have := RpL.mono (K := X.K) s2 _ _ (r1.append r2)
    rwa [AD.append_nil] at this⟩
theorem oa_isN : OpA X (compareOp .Is) p .non μ (.bl (isNon p)) :=
  ⟨_, op_isN, fun ad H vx vy Q m rx ry f => by
    refine ⟨ry.non_inv, ?_⟩
    have e : decide (vx = V.non) = (isNon p) := by
      cases p <;> unfold Rp at rx
      case non => subst rx; rfl
      case bl => subst rx; rfl
      case int => subst rx; rfl
      case str => subst rx; rfl
      all_goals (obtain ⟨a, rx⟩ := rx)
      case obj => obtain ⟨e, _⟩ := rx; subst e; rfl
      case tup => obtain ⟨_, e, _⟩ := rx; subst e; rfl
      case lst => obtain ⟨_, e, _⟩ := rx; subst e; rfl
      case scr => obtain ⟨_, e, _⟩ := rx; subst e; rfl
      case wtp => obtain ⟨_, e, _⟩ := rx; subst e; rfl
      case dct => obtain ⟨_, e, _⟩ := rx; subst e; rfl
      case exc => obtain ⟨_, _, e, _⟩ := rx; subst e; rfl
      case exm => obtain ⟨_, e, _⟩ := rx; subst e; rfl
    rw [e]
    exact f [] _ H Stp.refl (by rwa [AD.append_nil]) (Rp.bl' _)⟩
theorem DE.neg (ha : DE X a ρ μ (.int i) μ1) : DE X (.UnaryOp .USub a pos) ρ μ (.int (-i)) μ1 := fun ad σ H Q R f =>
  wE.of (pe_un un_neg (pe_w a)) (ha ad σ H _ R fun ad1 v H1 s1 m1 r1 => ⟨i, r1.int_inv, f ad1 _ H1 s1 m1 (Rp.int' _)⟩)

/-! ### tests -/
theorem DT.val (ha : DE X a ρ μ (.bl k) μ1) (he : ∀ whole, isTrue a X.env whole = (do let v ← whole; standAt a.pos; holding [v] (truthy v)) := by intro _; rfl) : DT X a ρ μ k μ1 := fun ad σ H Q R f =>
  wT.of (pt_val (pe_w a) he) (ha ad σ H _ R fun ad1 v H1 s1 m1 r1 => ⟨k, r1.bl_inv, f ad1 H1 s1 m1⟩)
theorem DT.not (ha : DT X a ρ μ k μ1) : DT X (.UnaryOp .Not a pos) ρ μ (!k) μ1 := fun ad σ H Q R f =>
  wT.of (pt_not (pt_w a)) (ha ad σ H _ R fun ad1 H1 s1 m1 => f ad1 H1 s1 m1)
theorem DE.not (ha : DE X a ρ μ (.bl k) μ1) : DE X (.UnaryOp .Not a pos) ρ μ (.bl (!k)) μ1 := fun ad σ H Q R f =>
  wE.of (pe_not (pe_w a)) (ha ad σ H _ R fun ad1 v H1 s1 m1 r1 => ⟨k, r1.bl_inv, f ad1 _ H1 s1 m1 (Rp.bl' _)⟩)
theorem DW.t (h : DW X a ρ μ k μ1) : DT X a ρ μ k μ1 := fun ad σ H Q R f => wT.of (pw_w a).pt (h ad σ H Q R f)
theorem DW.and1 (ha : DT X a ρ μ k μ1) : DW X (.BoolOp .And [a] pos) ρ μ k μ1 := fun ad σ H Q R f => wW.of (pw_and1 (pt_w a)) (ha ad σ H Q R f)
theorem DW.or1 (ha : DT X a ρ μ k μ1) : DW X (.BoolOp .Or [a] pos) ρ μ k μ1 := fun ad σ H Q R f => wW.of (pw_or1 (pt_w a)) (ha ad σ H Q R f)
/-- a and .., the rest pure -/
theorem DW.and {k1 k2 : Bool} (ha : DT X a ρ μ k1 μ1) (hb : k1 = true → DW X (.BoolOp .And (b :: es) pos) ρ μ1 k2 μ1) : DW X (.BoolOp .And (a :: b :: es) pos) ρ μ (k1 && k2) μ1 := fun ad σ H Q R f =>
  wW.of (pw_and (pt_w a) (pw_w _)) (ha ad σ H _ R fun ad1 H1 s1 m1 => by
    cases k1 with
    | false => exact iteF (f ad1 H1 s1 m1)
    | true => exact iteT (hb rfl _ σ H1 Q (R.mono s1 m1) (f.step s1)))
theorem DW.or {k1 k2 : Bool} (ha : DT X a ρ μ k1 μ1) (hb : k1 = false → DW X (.BoolOp .Or (b :: es) pos) ρ μ1 k2 μ1) : DW X (.BoolOp .Or (a :: b :: es) pos) ρ μ (k1 || k2) μ1 := fun ad σ H Q R f =>
  wW.of (pw_or (pt_w a) (pw_w _)) (ha ad σ H _ R fun ad1 H1 s1 m1 => by
    cases k1 with
    | true => exact iteT (f ad1 H1 s1 m1)
    | false => exact iteF (hb rfl _ σ H1 Q (R.mono s1 m1) (f.step s1)))
theorem DE.one {op : PySem.BoolOp} (ha : DE X a ρ μ p μ1) : DE X (.BoolOp op [a] pos) ρ μ p μ1 := fun ad σ H Q R f => wE.of (pe_one (pe_w a)) (ha ad σ H Q R f)
theorem DE.and {k1 k2 : Bool} (ha : DE X a ρ μ (.bl k1) μ1) (hb : k1 = true → DE X (.BoolOp .And (b :: es) pos) ρ μ1 (.bl k2) μ1) : DE X (.BoolOp .And (a :: b :: es) pos) ρ μ (.bl (k1 && k2)) μ1 := fun ad σ H Q R f =>
  wE.of (pe_and (pe_w a) (pe_w _)) (ha ad σ H _ R fun ad1 v H1 s1 m1 r1 => ⟨k1, r1.bl_inv, by
    cases k1 with
    | false => exact iteF (f ad1 _ H1 s1 m1 (Rp.bl' _))
    | true => exact iteT (hb rfl _ σ H1 Q (R.mono s1 m1) (Fin1.step s1 f))⟩)
theorem DE.or {k1 k2 : Bool} (ha : DE X a ρ μ (.bl k1) μ1) (hb : k1 = false → DE X (.BoolOp .Or (b :: es) pos) ρ μ1 (.bl k2) μ1) : DE X (.BoolOp .Or (a :: b :: es) pos) ρ μ (.bl (k1 || k2)) μ1 := fun ad σ H Q R f =>
  wE.of (pe_or (pe_w a) (pe_w _)) (ha ad σ H _ R fun ad1 v H1 s1 m1 r1 => ⟨k1, r1.bl_inv, by
    cases k1 with
    | true => exact iteT (f ad1 _ H1 s1 m1 (Rp.bl' _))
    | false => exact iteF (hb rfl _ σ H1 Q (R.mono s1 m1) (Fin1.step s1 f))⟩)
theorem DE.ifT (hc : DT X c ρ μ true μ1) (ha : DE X a ρ μ1 p μ2) : DE X (.IfExp c a b pos) ρ μ p μ2 := fun ad σ H Q R f =>
  wE.of (pe_ifExp (pt_w c) (pe_w a) (pe_w b)) (hc ad σ H _ R fun ad1 H1 s1 m1 => iteT (ha _ σ H1 Q (R.mono s1 m1) (Fin1.step s1 f)))
theorem DE.ifF (hc : DT X c ρ μ false μ1) (hb : DE X b ρ μ1 p μ2) : DE X (.IfExp c a b pos) ρ μ p μ2 := fun ad σ H Q R f =>
  wE.of (pe_ifExp (pt_w c) (pe_w a) (pe_w b)) (hc ad σ H _ R fun ad1 H1 s1 m1 => iteF (hb _ σ H1 Q (R.mono s1 m1) (Fin1.step s1 f)))
theorem DE.ifInt {i j : Int} (hc : DT X c ρ μ k μ1) (ha : k = true → DE X a ρ μ1 (.int i) μ1) (hb : k = false → DE X b ρ μ1 (.int j) μ1) : DE X (.IfExp c a b pos) ρ μ (.int (if k then i else j)) μ1 := by
  cases k with
  | true => exact DE.ifT hc (ha rfl)
  | false => exact DE.ifF hc (hb rfl)

/-! ### subscripts -/
theorem DE.ixR {rr : R2} (hr : IxR X rr) (ha : DE X a ρ μ p μ1) (hb : DE X b ρ μ1 q μ2) (h : ∀ ad H vx vy Q, Mst ad X.K H μ2 → Rp ad X.K H p vx → Rp ad X.K H q vy → Fin1 X ad H μ2 r Q → rr vx vy H Q)
    (hs : PlainIx b := by exact fun _ _ => rfl) : DE X (.Subscript a b pos) ρ μ r μ2 := fun ad σ H Q R f => by
  refine wE.of (pe_ix hr (pe_w a) (pe_w b) hs) (ha ad σ H _ R fun ad1 v H1 s1 m1 r1 => hb (ad ++ ad1) σ H1 _ (R.mono s1 m1) fun ad2 u H2 s2 m2 r2 => ?_)
  exact h (ad ++ ad1 ++ ad2) H2 v u Q m2 (r1.mono s2) r2 ((f.step s1).step s2)
theorem atI_rp {ad : AD} {K : PySem.W.Frag} {H : Hp} {xs : List PV} {vs : List V} {i : Int} {p : PV} (r : RpL ad K H xs vs) (h : atI xs i = some p) : ∃ v, atI vs i = some v ∧ Rp ad K H p v := by
  unfold atI at h ⊢
  rw [← r.length]
  cases e : ixN xs.length i with
  | none => rw [e] at h; cases h
  | some j => rw [e] at h; exact r.get h
/-- xs[i] -/
theorem DE.ixL {xs : List PV} (ha : DE X a ρ μ p μ1) (hb : DE X b ρ μ1 (.int i) μ2) (hl : asL μ2 p = some xs) (h : atI xs i = some r) (hs : PlainIx b := by exact fun _ _ => rfl) : DE X (.Subscript a b pos) ρ μ r μ2 :=
  DE.ixR ix_list ha hb (fun ad H vx vy Q m rx ry f => by
    obtain ⟨l, vs, e1, h1, r1⟩ := rx.asL_inv hl m
    obtain ⟨v, e2, r2⟩ := atI_rp r1 h
    exact ⟨l, vs, i, v, e1, ry.int_inv, h1, e2, f [] v H Stp.refl (by rwa [AD.append_nil]) (by rwa [AD.append_nil])⟩) hs
theorem DE.ixT {xs : List PV} (ha : DE X a ρ μ (.tup xs) μ1) (hb : DE X b ρ μ1 (.int i) μ2) (h : atI xs i = some r) (hs : PlainIx b := by exact fun _ _ => rfl) : DE X (.Subscript a b pos) ρ μ r μ2 :=
  DE.ixR ix_tup ha hb (fun ad H vx vy Q m rx ry f => by
    obtain ⟨l, vs, e1, h1, r1⟩ := rx.tup_inv
    obtain ⟨v, e2, r2⟩ := atI_rp r1 h
    exact ⟨l, vs, i, v, e1, ry.int_inv, h1, e2, f [] v H Stp.refl (by rwa [AD.append_nil]) (by rwa [AD.append_nil])⟩) hs
theorem DE.ixS {z : Str} {c : Nat} (ha : DE X a ρ μ (.str z) μ1) (hb : DE X b ρ μ1 (.int i) μ2) (h : atI z.cps.toList i = some c) (hz : z.length ≤ sizeLine) (hs : PlainIx b := by exact fun _ _ => rfl) : DE X (.Subscript a b pos) ρ μ (.str ⟨#[c]⟩) μ2 :=
  DE.ixR ix_str ha hb (fun ad H vx vy Q m rx ry f => ⟨z, i, c, rx.str_inv, ry.int_inv, hz, h, f [] _ H Stp.refl (by rwa [AD.append_nil]) (Rp.str' _)⟩) hs
end
end L3

namespace L3
open PySem PySem.Spec L2
section
variable {X : Cx} {ad : AD} {ad2 : List Addr} {σ : L2.St} {H H' : Hp} {ρ ρ' : Env} {μ μ1 μ2 μ' : Mem} {p q r : PV} {e a b c tg : Expr} {es : List Expr} {pos : Pos} {k : Bool} {D : AEnds} {Dc : Ends} {st : Stmt} {sts : List Stmt}

/-! ### blocks -/
theorem DSs.nil (h : D.nx ρ μ) : DSs X [] ρ μ D := fun ad σ H Dc R C => wSs.of pss_nil (C.nx [] σ H ρ μ Stp.refl (by rwa [AD.append_nil]) h)
theorem DSs.cons (h : DS X st ρ μ { D with nx := fun ρ' μ' => DSs X sts ρ' μ' D }) : DSs X (st :: sts) ρ μ D := fun ad σ H Dc R C =>
  wSs.of (pss_cons (ps_w st) (pss_w sts)) (h ad σ H { Dc with nx := wSs X sts Dc } R
    ⟨fun ad2 σ' H' ρ' μ' s R' d => d (ad ++ ad2) σ' H' Dc R' (C.step s), C.bk, C.ct, C.rt, C.xx⟩)
/-- the ends may be weakened -/
theorem DSs.mono {D' : AEnds} (h : DSs X sts ρ μ D) (hn : ∀ ρ μ, D.nx ρ μ → D'.nx ρ μ) (hr : ∀ p μ, D.rt p μ → D'.rt p μ) (hb : ∀ ρ μ, D.bk ρ μ → D'.bk ρ μ) (hc : ∀ ρ μ, D.ct ρ μ → D'.ct ρ μ) (hx : ∀ x ρ μ, D.xx x ρ μ → D'.xx x ρ μ) : DSs X sts ρ μ D' := fun ad σ H Dc R C =>
  h ad σ H Dc R ⟨fun ad2 σ' H' ρ' μ' s R' d => C.nx ad2 σ' H' ρ' μ' s R' (hn _ _ d), fun ad2 σ' H' ρ' μ' s R' d => C.bk ad2 σ' H' ρ' μ' s R' (hb _ _ d), fun ad2 σ' H' ρ' μ' s R' d => C.ct ad2 σ' H' ρ' μ' s R' (hc _ _ d),
    fun ad2 v H' p μ' s m r d => C.rt ad2 v H' p μ' s m r (hr _ _ d), fun ad2 σ' H' ρ' μ' x cls dd s R' r d => C.xx ad2 σ' H' ρ' μ' x cls dd s R' r (hx _ _ _ d)⟩
/-- slots forgotten -/
theorem DSs.weak (hl : ρ'.length = ρ.length) (w : ∀ (i : Nat) p, ρ'[i]? = some (some p) → ρ[i]? = some (some p)) (h : DSs X sts ρ' μ D) : DSs X sts ρ μ D := fun ad σ H Dc R C =>
  h ad σ H Dc ⟨R.m, R.e.weak hl w⟩ C
theorem DS.ret (h : DE X e ρ μ p μ') (hr : D.rt p μ') : DS X (.Return (some e) pos) ρ μ D := fun ad σ H Dc R C =>
  wS.of (ps_ret (pe_w e)) (h ad σ H _ R fun ad2 v H' s m r => C.rt ad2 v H' p μ' s m r hr)
theorem DS.never (h : False) : DS X st ρ μ D := h.elim
theorem DS.expr (h : DE X e ρ μ p μ') (hn : D.nx ρ μ') (hs : swapsWith e none pos.line X.env = pure false := by rfl) : DS X (.Expr e pos) ρ μ D := fun ad σ H Dc R C =>
  wS.of (ps_expr (pe_w e) hs) (h ad σ H _ R fun ad2 v H' s m r => C.nx ad2 σ H' ρ μ' s (R.mono s m) hn)
/-- an if, its two ways -/
theorem DS.ife {A B : List Stmt} (hc : DT X c ρ μ k μ1) (ht : k = true → DSs X A ρ μ1 D) (hf : k = false → DSs X B ρ μ1 D) : DS X (.If c A B pos) ρ μ D := fun ad σ H Dc R C =>
  wS.of (ps_if (pt_w c) (pss_w A) (pss_w B)) (hc ad σ H _ R fun ad2 H' s m => by
    cases k with
    | true => exact iteT (ht rfl _ σ H' Dc (R.mono s m) (C.step s))
    | false => exact iteF (hf rfl _ σ H' Dc (R.mono s m) (C.step s)))

/-! ### targets -/
theorem DG.name {i : Nat} (hg : PG X tg (gName i)) : DG X tg p ρ μ (ρ.set i (some p)) := fun ad σ H v Q R r h =>
  wG.of hg (h _ ⟨R.m, R.e.set i r⟩)
/-- targets one after another -/
def DGs (X : Cx) (ts : List Expr) (ps : List PV) (ρ : Env) (μ : Mem) (ρ' : Env) : Prop :=
  ∃ t, PGs X ts t ∧ ∀ ad σ H vs (Q : L2.St → Hp → Prop), Rst ad X.K H σ ρ μ → RpL ad X.K H ps vs → (∀ σ', Rst ad X.K H σ' ρ' μ → Q σ' H) → t vs σ H Q
theorem DGs.nil : DGs X [] [] ρ μ ρ := ⟨gNil, pgs_nil, fun ad σ H vs Q R r h => by
  unfold RpL at r
  exact ⟨r, h σ R⟩⟩
theorem DGs.cons {ρ1 ρ2 : Env} {ps : List PV} (h : DG X e p ρ μ ρ1) (t : DGs X es ps ρ1 μ ρ2) (hs : assignEach (e :: es) X.env = (false, assign e X.env) :: assignEach es X.env := by rfl) : DGs X (e :: es) (p :: ps) ρ μ ρ2 := by
  obtain ⟨tt, hp, ht⟩ := t
  refine ⟨_, pgs_cons (pg_w e) hp (by first | exact hs | (rw [hs]; rfl)), fun ad σ H vs Q R r hQ => ?_⟩
  unfold RpL at r
  obtain ⟨v, vs', e1, r1, r2⟩ := r
  exact ⟨v, vs', e1, h ad σ H v _ R r1 fun σ1 R1 => ht ad σ1 H vs' Q R1 r2 hQ⟩
theorem DG.tup {ps : List PV} {j : Nat} (hc : X.calm = true) (h : DGs X es ps ρ μ ρ') (hn : (assignEach es X.env).length = ps.length := by rfl) (hst : (assignEach es X.env).findIdx? (·.1) = none := by rfl) : DG X (.Tuple es j pos) (.tup ps) ρ μ ρ' := by
  obtain ⟨tt, hp, ht⟩ := h
  intro ad σ H v Q R r hQ
  obtain ⟨a, vs, e1, h1, r1⟩ := r.tup_inv
  exact wG.of (pg_tup (n := ps.length) hc hp hn hst) ⟨a, vs, e1, h1, r1.length.symm, ht ad σ H vs Q R r1 hQ⟩
theorem DS.asg (h : DE X e ρ μ p μ1) (hg : DG X tg p ρ μ1 ρ') (hn : D.nx ρ' μ1) (hs : swapsWithSole [tg] e pos.line X.env = pure false := by rfl) (hw : swappedStores [tg] e X.env = pure none := by rfl)
    (h1 : (assignEach [tg] X.env).map (·.2) = [assign tg X.env] := by rfl) : DS X (.Assign [tg] e pos) ρ μ D := fun ad σ H Dc R C =>
  wS.of (ps_asg (pe_w e) (pg_w tg) hs hw h1) (h ad σ H _ R fun ad2 v H' s m r => hg (ad ++ ad2) σ H' v _ (R.mono s m) r fun σ' R' => C.nx ad2 σ' H' ρ' μ1 s R' hn)
/-- name = value -/
theorem DS.set {i : Nat} {x : Str} {pos' : Pos} (hN : X.N.Nodup) (hi : X.N[i]? = some x) (hx : Loc X.env.scope x ∧ (X.fn x = true ∨ X.env.scope.names.lookup x = some .local)) (h : DE X e ρ μ p μ1) (hn : D.nx (ρ.set i (some p)) μ1)
    (hs : swapsWith e (some (.Name x pos')) pos.line X.env = pure false := by rfl) : DS X (.Assign [.Name x pos'] e pos) ρ μ D := fun ad σ H Dc R C =>
  wS.of (ps_set hN hi hx.1 (pe_w e) hs hx.2) (h ad σ H _ R fun ad2 v H' s m r => C.nx ad2 _ H' _ μ1 s ⟨m, (R.mono s m).e.set i r⟩ hn)
/-- name += value -/
theorem DS.augAdd {i : Nat} {x : Str} {pos' : Pos} {m n : Int} (hN : X.N.Nodup) (hi : X.N[i]? = some x) (hx : Loc X.env.scope x ∧ (X.fn x = true ∨ X.env.scope.names.lookup x = some .local)) (h0 : ρ[i]? = some (some (.int m))) (h : DE X e ρ μ (.int n) μ1)
    (hn : D.nx (ρ.set i (some (.int (m + n)))) μ1) : DS X (.AugAssign (.Name x pos') .Add e pos) ρ μ D := fun ad σ H Dc R C => by
  obtain ⟨v0, e0, r0⟩ := R.e.get i _ h0
  exact wS.of (ps_aug hN hi hx.1 (pe_w e) ip_add hx.2) ⟨v0, e0, h ad σ H _ R fun ad2 v H' s mm r => ⟨m, n, r0.int_inv, r.int_inv, C.nx ad2 _ H' _ μ1 s ⟨mm, (R.mono s mm).e.set i (Rp.int' _)⟩ hn⟩⟩
/-- xs[i] = value, xs a list object -/
theorem DS.setI {n : Nat} {i : Int} {j : Nat} {xs : List PV} {sp : Pos} (hv : DE X e ρ μ p μ1) (ho : DE X a ρ μ1 (.obj n) μ1) (hi : DE X b ρ μ1 (.int i) μ2) (hm : μ2[n]? = some (.lst xs)) (hj : ixN xs.length i = some j)
    (hn : D.nx ρ (μ2.set n (.lst (xs.set j p))))
    (ha : ∀ v, assign (.Subscript a b sp) X.env v = (do
      let ov ← holding [v] (eval a X.env)
      let iv ← holding [v, ov] (eval b X.env)
      standAt sp
      holding [v, ov, iv] (setItem ov iv v)
      release [v, ov, iv] []) := by intro _; rfl)
    (hs : swapsWithSole [.Subscript a b sp] e pos.line X.env = pure false := by rfl) (hw : swappedStores [.Subscript a b sp] e X.env = pure none := by rfl) (h1 : (assignEach [.Subscript a b sp] X.env).map (·.2) = [assign (.Subscript a b sp) X.env] := by rfl) :
    DS X (.Assign [.Subscript a b sp] e pos) ρ μ D := fun ad σ H Dc R C => by
  refine wS.of (ps_asg (pe_w e) (pg_sub (pe_w a) (pe_w b) set_list ha) hs hw h1) (hv ad σ H _ R fun ad1 v H1 s1 m1 r1 => ?_)
  refine ho (ad ++ ad1) σ H1 _ (R.mono s1 m1) fun ad2 o H2 s2 m2 r2 => ?_
  refine hi (ad ++ ad1 ++ ad2) σ H2 _ ((R.mono s1 m1).mono s2 m2) fun ad3 iv H3 s3 m3 r3 => ?_
  obtain ⟨l, e1, h1⟩ := (r2.mono s3).obj_inv
  obtain ⟨vs, hvs, rl⟩ := m3.mem n l _ h1 hm
  refine ⟨l, vs, i, j, e1, r3.int_inv, hvs, by rw [← rl.length]; exact hj, ?_⟩
  have s4 : Stp (ad ++ ad1 ++ ad2 ++ ad3) [] H3 (upd H3 l (.lst (vs.set j v))) := Stp.write h1
  have m4 := m3.write (o := .lst (vs.set j v)) (m := .lst (xs.set j p)) h1 ⟨_, upd_same, (rl.set j ((r1.mono s2).mono s3)).wr h1⟩
  have R3 : Rst (ad ++ ad1 ++ ad2 ++ ad3) X.K H3 σ ρ μ2 := ((R.mono s1 m1).mono s2 m2).mono s3 m3
  have m4' : Mst (ad ++ ad1 ++ ad2 ++ ad3 ++ ([] : List Addr)) X.K (upd H3 l (.lst (vs.set j v))) (μ2.set n (.lst (xs.set j p))) := by rw [AD.append_nil]; exact m4
  exact (((C.step s1).step s2).step s3).nx [] σ _ ρ _ s4 (R3.mono s4 m4') hn
end
end L3

namespace L3
open PySem PySem.Spec L2
section
variable {X : Cx} {ad : AD} {ad2 : List Addr} {σ : L2.St} {H H' : Hp} {ρ ρ' : Env} {μ μ1 μ2 μ' : Mem} {p q r : PV} {e a b c tg : Expr} {es : List Expr} {pos cp : Pos} {k : Bool} {D : AEnds} {Dc : Ends} {st : Stmt} {sts : List Stmt}

/-! ### while -/
/-! ### what is walked -/
/-- from ad, H on the iterator J goes along the data xs, while M holds of the store -/
def WalkD (K : PySem.W.Frag) (ad : AD) (H : Hp) (J : It) (xs : List PV) (M : Mem → Prop) : Prop :=
  ∀ ad' H1 μ1, Keep K ad H ad' H1 → Mst ad' K H1 μ1 → M μ1 → (∀ i, i < xs.length → J.go i H1) ∧ J.stop xs.length H1 ∧
    ∀ (i : Nat) p x H2, xs[i]? = some p → J.yld i H1 x H2 → Stp ad' [] H1 H2 ∧ Mst ad' K H2 μ1 ∧ Rp ad' K H2 p x ∧ Keep K ad' H1 ad' H2
def DI (X : Cx) (tg iter : Expr) (ρ : Env) (μ : Mem) (xs : List PV) (M : Mem → Prop) (μ' : Mem) : Prop :=
  ∃ wi, PI X tg iter wi ∧ ∀ ad σ H (R : It → Hp → Prop), Rst ad X.K H σ ρ μ → (∀ ad2 J H', Stp ad ad2 H H' → Mst (ad ++ ad2) X.K H' μ' → WalkD X.K (ad ++ ad2) H' J xs M → R J H') → wi σ H R
theorem WalkD.list {K : PySem.W.Frag} {M : Mem → Prop} {l : Addr} {xs : List PV} (h : ∀ ad' H1 μ1, Keep K ad H ad' H1 → Mst ad' K H1 μ1 → M μ1 → ∃ vs, SqL K H1 l vs ∧ RpL ad' K H1 xs vs) : WalkD K ad H (Itl K l) xs M := fun adx H1 μ1 s m hM => by
  obtain ⟨vs, hs, r⟩ := h adx H1 μ1 s m hM
  have w := walk_list (K := K) (a := l) (xs := vs)
  refine ⟨fun i hi => w.goes i H1 (by rw [← r.length]; exact hi) hs, by rw [r.length]; exact w.stops H1 hs, fun i p x H2 e y => ?_⟩
  have hi : i < vs.length := by rw [← r.length]; exact (List.getElem?_eq_some_iff.mp e).1
  obtain ⟨e1, e2⟩ := w.yields i H1 x H2 hi hs y
  subst e1
  obtain ⟨v, e3, r3⟩ := r.get e
  rw [e2] at e3
  cases e3
  exact ⟨Stp.refl, m, r3, fun _ _ z => z⟩
theorem WalkD.tuple {K : PySem.W.Frag} {M : Mem → Prop} {l : Addr} {xs : List PV} (h : ∀ ad' H1 μ1, Keep K ad H ad' H1 → Mst ad' K H1 μ1 → M μ1 → ∃ vs, SqT K H1 l vs ∧ RpL ad' K H1 xs vs) : WalkD K ad H (Itt K l) xs M := fun adx H1 μ1 s m hM => by
  obtain ⟨vs, hs, r⟩ := h adx H1 μ1 s m hM
  have w := walk_tup (K := K) (a := l) (xs := vs)
  refine ⟨fun i hi => w.goes i H1 (by rw [← r.length]; exact hi) hs, by rw [r.length]; exact w.stops H1 hs, fun i p x H2 e y => ?_⟩
  have hi : i < vs.length := by rw [← r.length]; exact (List.getElem?_eq_some_iff.mp e).1
  obtain ⟨e1, e2⟩ := w.yields i H1 x H2 hi hs y
  subst e1
  obtain ⟨v, e3, r3⟩ := r.get e
  rw [e2] at e3
  cases e3
  exact ⟨Stp.refl, m, r3, fun _ _ z => z⟩
/-- the items of a list, as long as it stays -/
def Keeps (p : PV) (xs : List PV) : Mem → Prop := fun μ => asL μ p = some xs
theorem Rp.seq_stays {K : PySem.W.Frag} {xs : List PV} {v : V} (r : Rp ad K H p v) (e : asL μ p = some xs) (m : Mst ad K H μ) : ∃ l, v = .ref l ∧ (∃ vs, SqL K H l vs) ∧ ∀ ad' H1 μ1, Keep K ad H ad' H1 → Mst ad' K H1 μ1 → Keeps p xs μ1 → ∃ vs, SqL K H1 l vs ∧ RpL ad' K H1 xs vs := by
  obtain ⟨l, vs, e1, h1, r1⟩ := r.asL_inv e m
  refine ⟨l, e1, ⟨vs, h1⟩, fun ad' H1 μ1 s m1 hk => ?_⟩
  obtain ⟨l', vs', e2, h2, r2⟩ := (s p v r).asL_inv hk m1
  rw [e1] at e2
  cases e2
  exact ⟨vs', h2, r2⟩
theorem DI.list {xs : List PV} (h : DE X e ρ μ p μ1) (hl : asL μ1 p = some xs) : DI X tg e ρ μ xs (Keeps p xs) μ1 :=
  ⟨_, pi_list (pe_w e), fun ad σ H Q R hQ => h ad σ H _ R fun ad2 v H' s m r => by
    obtain ⟨l, e1, h1, h2⟩ := r.seq_stays hl m
    exact ⟨l, e1, h1, hQ ad2 _ H' s m (WalkD.list h2)⟩⟩
theorem DI.tuple {xs : List PV} (h : DE X e ρ μ (.tup xs) μ1) : DI X tg e ρ μ xs (fun _ => True) μ1 :=
  ⟨_, pi_tup (pe_w e), fun ad σ H Q R hQ => h ad σ H _ R fun ad2 v H' s m r => by
    obtain ⟨l, vs, e1, h1, r1⟩ := r.tup_inv
    refine ⟨l, e1, ⟨vs, h1⟩, hQ ad2 _ H' s m (WalkD.tuple fun ad' H1 μ1 s1 m1 _ => ?_)⟩
    obtain ⟨l', vs', e2, h2, r2⟩ := (s1 _ _ r).tup_inv
    rw [e1] at e2
    cases e2
    exact ⟨vs', h2, r2⟩⟩
/-- the rngL lo, lo + 1, .. below hi -/
def rngL (lo : Int) (n : Nat) : List PV := (List.range n).map fun i => .int (lo + (i : Nat))
theorem rngL_length {lo : Int} {n : Nat} : (rngL lo n).length = n := by simp [rngL]
theorem rngL_get {lo : Int} {n i : Nat} {p : PV} (h : (rngL lo n)[i]? = some p) : p = .int (lo + (i : Nat)) := by
  unfold rngL at h
  rw [List.getElem?_map] at h
  obtain ⟨j, hj, e⟩ := Option.map_eq_some_iff.mp h
  obtain ⟨h1, h2⟩ := List.getElem?_eq_some_iff.mp hj
  simp at h2
  subst h2
  exact e.symm
theorem WalkD.range {K : PySem.W.Frag} {lo : Int} {n : Nat} : WalkD K ad H (Itr lo n) (rngL lo n) (fun _ => True) := fun ad' H1 μ1 s m _ => by
  refine ⟨fun i hi => by rw [rngL_length] at hi; exact hi, by rw [rngL_length]; exact Nat.le_refl _, fun i p x H2 e y => ?_⟩
  obtain ⟨e1, e2⟩ := y
  subst e1
  rw [rngL_get e, e2]
  exact ⟨Stp.refl, m, Rp.int' _, fun _ _ z => z⟩
theorem RpL.one_int {K : PySem.W.Frag} {i : Int} {vs : List V} (r : RpL ad K H [.int i] vs) : vs = [.int i] := by
  unfold RpL at r
  obtain ⟨v, w, e1, r1, r2⟩ := r
  unfold RpL at r2
  rw [e1, r1.int_inv, r2]
theorem RpL.two_int {K : PySem.W.Frag} {i j : Int} {vs : List V} (r : RpL ad K H [.int i, .int j] vs) : vs = [.int i, .int j] := by
  unfold RpL at r
  obtain ⟨v, w, e1, r1, r2⟩ := r
  rw [e1, r1.int_inv, r2.one_int]
theorem DI.range1 {j : Int} {cp : Pos} (hg : Gl X "range") (hm : X.mg "range" = none) (h : DE X a ρ μ (.int j) μ1) (h1 : -(2 ^ 62) ≤ j) (h2 : j < 2 ^ 62) (hs : starEach [a] X.env = [(false, eval a X.env)] := by rfl) :
    DI X tg (.Call (.Name "range" cp) [a] [] pos) ρ μ (rngL 0 j.toNat) (fun _ => True) μ1 :=
  ⟨_, pi_range1 hg hm (pa_w [a]) hs, fun ad σ H Q R hQ => DA.cons h DA.nil (by rw [hs]; rfl) ad σ H _ R fun ad2 vs H' s m r => ⟨j, r.one_int, h1, h2, hQ ad2 _ H' s m WalkD.range⟩⟩
theorem DI.range2 {i j : Int} {cp : Pos} (hg : Gl X "range") (hm : X.mg "range" = none) (h : DE X a ρ μ (.int i) μ1) (h' : DE X b ρ μ1 (.int j) μ2) (hb : -(2 ^ 62) ≤ i ∧ i < 2 ^ 62 ∧ -(2 ^ 62) ≤ j ∧ j < 2 ^ 62) (hs : starEach [a, b] X.env = [(false, eval a X.env), (false, eval b X.env)] := by rfl) (hs2 : starEach [b] X.env = [(false, eval b X.env)] := by rfl) :
    DI X tg (.Call (.Name "range" cp) [a, b] [] pos) ρ μ (rngL i (j - i).toNat) (fun _ => True) μ2 :=
  ⟨_, pi_range2 hg hm (pa_w [a, b]) hs hs2, fun ad σ H Q R hQ => DA.cons h (DA.cons h' DA.nil (by rw [hs2]; rfl)) (by rw [hs, hs2]) ad σ H _ R fun ad2 vs H' s m r => ⟨i, j, r.two_int, hb, hQ ad2 _ H' s m WalkD.range⟩⟩
/-- a for, by its invariant -/
theorem DS.for {body : List Stmt} {iter : Expr} {xs : List PV} {M : Mem → Prop} (po : PassesOwn (model X.prog X.w) X.A X.env X.xe) (hc : X.calm = true) (hi : DI X tg iter ρ μ xs M μ1) (Iv : Nat → Env → Mem → Prop) (h0 : Iv 0 ρ μ1)
    (hM : ∀ i ρ μ, i ≤ xs.length → Iv i ρ μ → M μ)
    (hs : ∀ (i : Nat) p ρ μ, xs[i]? = some p → Iv i ρ μ → ∃ ρ', DG X tg p ρ μ ρ' ∧ DSs X body ρ' μ { nx := Iv (i + 1), ct := Iv (i + 1), bk := D.nx, rt := D.rt, xx := D.xx })
    (hd : ∀ ρ μ, Iv xs.length ρ μ → D.nx ρ μ) (hfs : ∀ x, foldedSetIterable iter X.env x = pure x := by intro _; rfl) : DS X (.For tg iter body [] pos) ρ μ D := fun ad σ H Dc R C => by
  obtain ⟨wi, hpi, hwi⟩ := hi
  refine wS.of (ps_for po hc hpi (pg_w tg) (pss_w body) hfs) (hwi ad σ H _ R fun ad1 J H1 s1 m1 w => ?_)
  have C1 := C.step s1
  refine ⟨fun i m σ' H' => m = xs.length - i ∧ i ≤ xs.length ∧ ∃ adx ρ' μ', Stp (ad ++ ad1) adx H1 H' ∧ Rst (ad ++ ad1 ++ adx) X.K H' σ' ρ' μ' ∧ Iv i ρ' μ', ⟨_, rfl, Nat.zero_le _, [], ρ, μ1, Stp.refl, by rw [AD.append_nil]; exact R.mono s1 m1, h0⟩, ?_⟩
  rintro i m σ' H' ⟨rfl, hle, adx, ρ2, μ2, s2, R2, i2⟩
  obtain ⟨w1, w2, w3⟩ := w _ H' μ2 s2.kept R2.m (hM i ρ2 μ2 hle i2)
  by_cases hlt : i < xs.length
  · refine .inr ⟨w1 i hlt, fun σ3 H3 => ∃ adx ρ' μ', Stp (ad ++ ad1) adx H1 H3 ∧ Rst (ad ++ ad1 ++ adx) X.K H3 σ3 ρ' μ' ∧ Iv (i + 1) ρ' μ', fun σ3 H3 ⟨adz, ρ3, μ3, s3, R3, i3⟩ => ⟨xs.length - (i + 1), by omega, rfl, hlt, adz, ρ3, μ3, s3, R3, i3⟩, fun x H2 y => ?_⟩
    have e : xs[i]? = some xs[i] := by simp [hlt]
    obtain ⟨s3, m3, r3, _⟩ := w3 i _ x H2 e y
    obtain ⟨ρ3, hg, hbody⟩ := hs i _ ρ2 μ2 e i2
    have R3 : Rst (ad ++ ad1 ++ adx) X.K H2 σ' ρ2 μ2 := by
      have := R2.mono s3 (by rw [AD.append_nil]; exact m3)
      rwa [AD.append_nil] at this
    refine hg _ σ' H2 x _ R3 r3 fun σ4 R4 => ?_
    have C2 : Cov X (ad ++ ad1 ++ adx) H2 D Dc := by
      have := (C1.step s2).step s3
      rwa [AD.append_nil] at this
    have s23 : Stp (ad ++ ad1) adx H1 H2 := by
      have := s2.trans s3
      rwa [List.append_nil] at this
    refine hbody _ σ4 H2 _ R4 ⟨fun ad3 σ3 H3 ρ3 μ3 s3 R3 d3 => ?_, fun ad3 σ3 H3 ρ3 μ3 s3 R3 d3 => C2.nx ad3 σ3 H3 ρ3 μ3 s3 R3 d3, fun ad3 σ3 H3 ρ3 μ3 s3 R3 d3 => ?_, C2.rt, C2.xx⟩
    · exact ⟨adx ++ ad3, ρ3, μ3, s23.trans s3, by rw [← AD.append_assoc]; exact R3, d3⟩
    · exact ⟨adx ++ ad3, ρ3, μ3, s23.trans s3, by rw [← AD.append_assoc]; exact R3, d3⟩
  · have e : i = xs.length := by omega
    subst e
    exact .inl ⟨w2, C1.nx adx σ' H' ρ2 μ2 s2 R2 (hd _ _ i2)⟩
end
end L3

namespace L3
open PySem PySem.Spec L2

/-- a def's promise over data: arguments, store, wanted end, wanted exception -/
abbrev ASp := List PV → Mem → (PV → Mem → Prop) → (EX → Mem → Prop) → Prop
def conc (K : PySem.W.Frag) (A : ASp) : Sp := fun vs H Q E => ∃ (ad : AD) (μ : Mem) (args : List PV) (Qa : PV → Mem → Prop) (Ea : EX → Mem → Prop),
  Mst ad K H μ ∧ RpL ad K H args vs ∧ A args μ Qa Ea ∧
  (∀ ad2 H' μ' r v, Stp ad ad2 H H' → Mst (ad ++ ad2) K H' μ' → Rp (ad ++ ad2) K H' r v → Qa r μ' → Q v H') ∧
  (∀ ad2 H' μ' x cls d, Stp ad ad2 H H' → Mst (ad ++ ad2) K H' μ' → RpX (ad ++ ad2) K H' x cls d → Ea x μ' → E cls d H')

/-- the def of the module's name x, of n parameters, keeps A, at level k -/
structure FnA (P : Program) (w : World) (K : PySem.W.Frag) (mg : Str → Option Value) (base : Heap) (k : Nat) (x : Str) (A : ASp) : Prop where
  ex : ∃ (f : Addr) (fd : FuncData) (ps : List Str), FnOk P w K mg base (L2.CX P w) k f fd ps (conc K A) ∧ mg x = some (.ref f) ∧ PySem.W.keepIn K (.ref f) = true ∧ Binds K fd ps []

/-! ### contexts -/
def visB (sc : Scope) (x : Str) : Bool := match sc.names.lookup x with
  | some .local => true
  | some .cell => true
  | some .free => true
  | _ => false
def stoB (sc : Scope) (x : Str) : Bool := match sc.names.lookup x with
  | some .local => true
  | some .cell => true
  | _ => false
structure CxD (X : Cx) (P : Program) (w : World) (K : PySem.W.Frag) (mg : Str → Option Value) (base : Heap) (N : List Str) (sc : Scope) (k : Nat) : Prop where
  eP : X.prog = P
  ew : X.w = w
  eK : X.K = K
  emg : X.mg = mg
  eb : X.base = base
  eN : X.N = N
  vis : ∀ x, visB sc x = true → Vis X.env.scope x
  sto : ∀ x, stoB sc x = true → Loc X.env.scope x ∧ (X.fn x = true ∨ X.env.scope.names.lookup x = some .local)
  loc : ∀ x, sc.names.lookup x = some .local → X.env.scope.names.lookup x = some .local
  gl : ∀ x, sc.names.lookup x = some .globalImplicit → Gl X x
  calm : X.calm = true
  room : Room k X.A
structure CxF (X : Cx) (P : Program) (w : World) (K : PySem.W.Frag) (mg : Str → Option Value) (base : Heap) (N : List Str) (sc : Scope) (k : Nat) : Prop extends CxD X P w K mg base N sc k where
  esc : X.env.scope = sc
  po : PassesOwn (model X.prog X.w) X.A X.env X.xe
  nd : N.Nodup
  kind : sc.kind = .function
  stk : X.stack = X.env :: X.outer
  frm : X.env.frame = some X.env.locals
theorem vis_of {sc : Scope} {x : Str} (h : visB sc x = true) : Vis sc x := by
  unfold visB at h
  cases e : sc.names.lookup x with
  | none => rw [e] at h; cases h
  | some k =>
    rw [e] at h
    cases k with
    | «local» => exact .inl e
    | cell => exact .inr (.inl e)
    | free => exact .inr (.inr e)
    | _ => cases h
theorem loc_of {sc : Scope} {x : Str} (h : stoB sc x = true) : Loc sc x := by
  unfold stoB at h
  cases e : sc.names.lookup x with
  | none => rw [e] at h; cases h
  | some k =>
    rw [e] at h
    cases k with
    | «local» => exact .inl e
    | cell => exact .inr e
    | _ => cases h
section
variable {X : Cx} {P : Program} {w : World} {K : PySem.W.Frag} {mg : Str → Option Value} {base : Heap} {N : List Str} {sc : Scope} {k j : Nat} {x : Str} {A : ASp} {ρ ρ' : Env} {μ μ1 μ2 μ' : Mem} {p q r : PV} {e a b : Expr} {es : List Expr} {pos cp : Pos} {D : AEnds}
theorem CxD.var (cx : CxD X P w K mg base N sc k) (i : Nat) (hN : N[i]? = some x) (hs : visB sc x = true) (hd : (x == ("__debug__" : Str)) = false := by decide) (hcd : (x == ("__classdict__" : Str)) = false := by decide) : ∀ {pos : Pos}, PE X (.Name x pos) (tVar i) :=
  fun {pos} => pe_var (by rw [cx.eN]; exact hN) (cx.vis x hs) hd hcd
theorem CxF.nd' (cx : CxF X P w K mg base N sc k) : X.N.Nodup := by rw [cx.eN]; exact cx.nd
theorem CxF.tgt (cx : CxF X P w K mg base N sc k) (i : Nat) (hN : N[i]? = some x) (hs : stoB sc x = true) : ∀ {pos : Pos}, PG X (.Name x pos) (gName i) :=
  fun {pos} => pg_name cx.nd' (by rw [cx.eN]; exact hN) (cx.sto x hs).1 (cx.sto x hs).2
theorem CxF.set (cx : CxF X P w K mg base N sc k) (i : Nat) (hN : N[i]? = some x) (hs : stoB sc x = true) {pos pos' : Pos} (h : DE X e ρ μ p μ1) (hn : D.nx (ρ.set i (some p)) μ1)
    (hsw : swapsWith e (some (.Name x pos')) pos.line X.env = pure false := by rfl) : DS X (.Assign [.Name x pos'] e pos) ρ μ D :=
  DS.set cx.nd' (by rw [cx.eN]; exact hN) (cx.sto x hs) h hn hsw
theorem passE0 : Passes (L2.CX X.prog X.w) X (fun _ _ _ => False) := fun _ _ _ _ _ _ _ h => by
  obtain ⟨_, _, _, _, _, _, _, _, _, _, _, _, hE⟩ := h
  exact hE.elim
theorem CxD.fn (cx : CxD X P w K mg base N sc k) (F : FnA P w K mg base j x A) : ∃ (f : Addr) (fd : FuncData) (ps : List Str), FnOk X.prog X.w X.K X.mg X.base (L2.CX X.prog X.w) j f fd ps (conc X.K A) ∧ X.mg x = some (.ref f) ∧ PySem.W.keepIn X.K (.ref f) = true ∧ Binds X.K fd ps [] := by
  rw [cx.eP, cx.ew, cx.eK, cx.emg, cx.eb]
  exact F.ex
/-- f(e, ..) -/
theorem DE.call (cx : CxD X P w K mg base N sc k) {ps : List PV} (F : FnA P w K mg base j x A) (hj : j ≤ k) (hx : sc.names.lookup x = some .globalImplicit) (ha : DA X (e :: es) ρ μ ps μ1)
    (hA : A ps μ1 (fun r m => r = p ∧ m = μ2) (fun _ _ => False))
    (hdb : (x == ("__debug__" : Str)) = false := by decide) (he : starEach (e :: es) X.env = (false, eval e X.env) :: starEach es X.env := by rfl) (hpl : (backTo pos (starEach es X.env)).any (·.1) = false := by rfl) :
    DE X (.Call (.Name x cp) (e :: es) [] pos) ρ μ p μ2 := fun ad σ H Q R f => by
  obtain ⟨fa, fd, pn, F1, hm, hk, hb⟩ := cx.fn F
  refine wE.of (pe_call F1 (cx.room.mono hj) (cx.gl x hx) hm hk hb .nil passE0 (pa_w _) hdb he hpl) (ha ad σ H _ R fun ad1 vs H1 s1 m1 r1 => ?_)
  rw [List.append_nil]
  refine ⟨ad ++ ad1, μ1, ps, _, _, m1, r1, hA, fun ad2 H' μ' r v s m rr hq => ?_, fun _ _ _ _ _ _ _ _ _ h => h.elim⟩
  obtain ⟨rfl, rfl⟩ := hq
  exact f (ad1 ++ ad2) v H' (s1.trans s) (by rwa [← AD.append_assoc]) (by rwa [← AD.append_assoc])
/-! ### the end of a def: what it made is let go -/
mutual
def below (n : Nat) : PV → Bool
  | .tup xs => belowL n xs
  | .lst xs => belowL n xs
  | .scr xs => belowL n xs
  | .wtp xs => belowL n xs
  | .dct _ xs => belowL n xs
  | .exc _ _ xs => belowL n xs
  | .obj k => decide (k < n)
  | _ => true
def belowL (n : Nat) : List PV → Bool
  | [] => true
  | p :: ps => below n p && belowL n ps
end
def belowM (n : Nat) : MO → Bool
  | .lst xs => belowL n xs
  | .dK _ xs => belowL n xs
  | .dT _ xs => belowL n xs
  | .ins _ _ xs => belowL n xs
  | .dead => true
  | .lk _ _ xs => belowL n xs
/-- the first n objects -/
def AD.first (a : AD) (n : Nat) : AD := ⟨a.n, a.l.take (a.n + n)⟩
theorem notIn_take {l : AD} {a : Addr} {n : Nat} (h : a ∉ l) : a ∉ l.first n := fun z => h (List.mem_of_mem_take z)
theorem AD.first_app {a : AD} {b : List Addr} {n : Nat} (h : a.l.length = a.n + n) : (a ++ b).first n = a := by
  show AD.mk a.n ((a.l ++ b).take (a.n + n)) = a
  rw [List.take_left' h]
mutual
theorem Rp.down {K : PySem.W.Frag} {ad : AD} {H : Hp} {n : Nat} : ∀ (p : PV) (v : V), below n p = true → Rp ad K H p v → Rp (ad.first n) K H p v
  | .non, v, _, h => by unfold Rp at h ⊢; exact h
  | .bl b, v, _, h => by unfold Rp at h ⊢; exact h
  | .int i, v, _, h => by unfold Rp at h ⊢; exact h
  | .str x, v, _, h => by unfold Rp at h ⊢; exact h
  | .tup xs, v, hb, h => by
    unfold Rp at h ⊢
    obtain ⟨a, vs, e, h1, h2⟩ := h
    refine ⟨a, vs, e, ?_, RpL.down xs vs (by unfold below at hb; exact hb) h2⟩
    rcases h1 with ⟨x, y⟩ | x
    · exact .inl ⟨x, notIn_take y⟩
    · exact .inr x
  | .lst xs, v, hb, h => by
    unfold Rp at h ⊢
    obtain ⟨a, vs, e, ⟨x, y⟩, h2⟩ := h
    exact ⟨a, vs, e, ⟨x, notIn_take y⟩, RpL.down xs vs (by unfold below at hb; exact hb) h2⟩
  | .scr xs, v, hb, h => by
    unfold Rp at h ⊢
    obtain ⟨a, vs, e, h1, h2⟩ := h
    refine ⟨a, vs, e, ?_, RpL.down xs vs (by unfold below at hb; exact hb) h2⟩
    rcases h1 with ⟨x, y⟩ | x
    · exact .inl ⟨x, notIn_take y⟩
    · exact .inr x
  | .wtp xs, v, hb, h => by
    unfold Rp at h ⊢
    obtain ⟨a, vs, e, h1, h2⟩ := h
    exact ⟨a, vs, e, h1, RpL.down xs vs (by unfold below at hb; exact hb) h2⟩
  | .dct ks xs, v, hb, h => by
    unfold Rp at h ⊢
    obtain ⟨a, vs, e, ⟨x, y⟩, hl, h2⟩ := h
    exact ⟨a, vs, e, ⟨x, notIn_take y⟩, hl, RpL.down xs vs (by unfold below at hb; exact hb) h2⟩
  | .obj k, v, hb, h => by
    unfold Rp at h ⊢
    obtain ⟨a, e, h1⟩ := h
    unfold below at hb
    refine ⟨a, e, ?_⟩
    show (ad.l.take (ad.n + n))[ad.n + k]? = some a
    have hk : k < n := of_decide_eq_true hb
    rw [List.getElem?_take, if_pos (by omega)]
    exact h1
  | .exc C fs xs, v, hb, h => by
    unfold Rp at h ⊢
    obtain ⟨a, d, vs, e, ⟨x, y⟩, hd, hl, h2⟩ := h
    refine ⟨a, d, vs, e, ⟨x, notIn_take y⟩, ?_, hl, RpL.down xs vs (by unfold below at hb; exact hb) h2⟩
    cases d with
    | none => exact hd
    | some dd => exact ⟨hd.1, notIn_take hd.2⟩
  | .exm C m, v, hb, h => by
    unfold Rp at h ⊢
    obtain ⟨a, t, e, ⟨x, y⟩, x2, y2⟩ := h
    exact ⟨a, t, e, ⟨x, notIn_take y⟩, x2, notIn_take y2⟩
theorem RpL.down {K : PySem.W.Frag} {ad : AD} {H : Hp} {n : Nat} : ∀ (ps : List PV) (vs : List V), belowL n ps = true → RpL ad K H ps vs → RpL (ad.first n) K H ps vs
  | [], vs, _, h => by unfold RpL at h ⊢; exact h
  | p :: ps, vs, hb, h => by
    unfold RpL at h ⊢
    obtain ⟨v, r, e, h1, h2⟩ := h
    unfold belowL at hb
    rw [Bool.and_eq_true] at hb
    exact ⟨v, r, e, Rp.down p v hb.1 h1, RpL.down ps r hb.2 h2⟩
end
mutual
theorem Rp.below_of {K : PySem.W.Frag} {ad : AD} {H : Hp} {n : Nat} (hal : ad.l.length = ad.n + n) : ∀ (p : PV) (v : V), Rp ad K H p v → below n p = true
  | .non, v, _ => by unfold below; rfl
  | .bl b, v, _ => by unfold below; rfl
  | .int i, v, _ => by unfold below; rfl
  | .str x, v, _ => by unfold below; rfl
  | .tup xs, v, h => by
    unfold Rp at h
    unfold below
    obtain ⟨a, vs, e, h1, h2⟩ := h
    exact RpL.below_of hal xs vs h2
  | .lst xs, v, h => by
    unfold Rp at h
    unfold below
    obtain ⟨a, vs, e, h1, h2⟩ := h
    exact RpL.below_of hal xs vs h2
  | .scr xs, v, h => by
    unfold Rp at h
    unfold below
    obtain ⟨a, vs, e, h1, h2⟩ := h
    exact RpL.below_of hal xs vs h2
  | .wtp xs, v, h => by
    unfold Rp at h
    unfold below
    obtain ⟨a, vs, e, h1, h2⟩ := h
    exact RpL.below_of hal xs vs h2
  | .dct ks xs, v, h => by
    unfold Rp at h
    unfold below
    obtain ⟨a, vs, e, h1, hl, h2⟩ := h
    exact RpL.below_of hal xs vs h2
  | .obj k, v, h => by
    unfold Rp at h
    unfold below
    obtain ⟨a, e, h1⟩ := h
    exact decide_eq_true (by have := AD.at_lt h1; omega)
  | .exc C fs xs, v, h => by
    unfold Rp at h
    unfold below
    obtain ⟨a, d, vs, e, h1, hd, hl, h2⟩ := h
    exact RpL.below_of hal xs vs h2
  | .exm C m, v, h => by unfold below; rfl
theorem RpL.below_of {K : PySem.W.Frag} {ad : AD} {H : Hp} {n : Nat} (hal : ad.l.length = ad.n + n) : ∀ (ps : List PV) (vs : List V), RpL ad K H ps vs → belowL n ps = true
  | [], vs, _ => by unfold belowL; rfl
  | p :: ps, vs, h => by
    unfold RpL at h
    unfold belowL
    obtain ⟨v, r, e, h1, h2⟩ := h
    rw [Rp.below_of hal p v h1, RpL.below_of hal ps r h2]
    rfl
end
theorem RpM.below_of {K : PySem.W.Frag} {ad : AD} {H : Hp} {c : Addr} {m : MO} {n : Nat} (hal : ad.l.length = ad.n + n) (h : RpM ad K H c m) : belowM n m = true := by
  cases m with
  | lst xs => obtain ⟨vs, e, r⟩ := h; exact r.below_of hal
  | dK ks xs => obtain ⟨vs, e, l, r⟩ := h; exact r.below_of hal
  | dT ks xs => obtain ⟨vs, e, l, r⟩ := h; exact r.below_of hal
  | ins C fs xs => obtain ⟨dx, vs, e, l, r⟩ := h; exact r.below_of hal
  | dead => rfl
  | lk o kvs xs => exact h.2.below_of hal
theorem RpM.down {K : PySem.W.Frag} {ad : AD} {H : Hp} {c : Addr} {m : MO} {n : Nat} (hb : belowM n m = true) (h : RpM ad K H c m) : RpM (ad.first n) K H c m := by
  cases m with
  | lst xs => obtain ⟨vs, e, r⟩ := h; exact ⟨vs, e, r.down _ _ hb⟩
  | dK ks xs => obtain ⟨vs, e, l, r⟩ := h; exact ⟨vs, e, l, r.down _ _ hb⟩
  | dT ks xs => obtain ⟨vs, e, l, r⟩ := h; exact ⟨vs, e, l, r.down _ _ hb⟩
  | ins C fs xs => obtain ⟨dx, vs, e, l, r⟩ := h; exact ⟨dx, vs, e, l, r.down _ _ hb⟩
  | dead => exact h
  | lk o kvs xs => exact ⟨h.1, h.2.down _ _ hb⟩
/-- what may have changed of the objects that stood at the entry -/
def Chg (μ0 μ' : Mem) : Prop := μ'.length = μ0.length ∧ ∀ (k : Nat) m, μ'[k]? = some m → μ0[k]? = some m ∨ belowM μ0.length m = true
theorem Chg.refl : Chg μ μ := ⟨rfl, fun _ _ h => .inl h⟩
theorem Chg.set {n : Nat} {m : MO} (c : Chg μ μ') (hb : belowM μ.length m = true) : Chg μ (μ'.set n m) := by
  refine ⟨by rw [List.length_set]; exact c.1, fun i u h => ?_⟩
  rw [List.getElem?_set] at h
  by_cases hi : n = i
  · rw [if_pos hi] at h
    split at h
    · cases h; exact .inr hb
    · cases h
  · rw [if_neg hi] at h
    exact c.2 i u h
/-- p at μ1 is handed back as r, the store is μ' -/
inductive Done (μ0 : Mem) : PV → Mem → PV → Mem → Prop
  | same (r : PV) (μ' : Mem) : Done μ0 r μ' r μ'
  | drop (r : PV) (μ' ex : Mem) (c : Chg μ0 μ') (b : below μ0.length r = true) : Done μ0 r (μ' ++ ex) r μ'
  | lst (n : Nat) (xs : List PV) (μ' ex : Mem) (c : Chg μ0 μ') (hn : μ0.length ≤ n) (e : (μ' ++ ex)[n]? = some (.lst xs)) (b : belowL μ0.length xs = true) : Done μ0 (.obj n) (μ' ++ ex) (.lst xs) μ'
theorem Mst.down {ad : AD} {ad2 : List Addr} {H H' : Hp} {μ0 ex : Mem} (m0 : Mst ad K H μ0) (s : Stp ad ad2 H H') (c : Chg μ0 μ') (m : Mst (ad ++ ad2) K H' (μ' ++ ex)) : Mst ad K H' μ' := by
  have hl := m0.len
  refine ⟨m0.nd, by rw [c.1]; exact hl, fun i a u e1 e2 => ?_, fun i a hi e => ?_, fun a ha xs => m.nt a (AD.mem_append.mpr (.inl ha)) xs⟩
  · have hi2 : i < μ'.length := (List.getElem?_eq_some_iff.mp e2).1
    have q := m.mem i a u (by rw [AD.at_append (AD.at_lt e1)]; exact e1) (by rw [List.getElem?_append_left hi2]; exact e2)
    have hb : belowM μ0.length u = true := by
      rcases c.2 i u e2 with z | z
      · exact (m0.mem i a u e1 z).below_of hl
      · exact z
    have := q.down hb
    rwa [AD.first_app hl] at this
  · obtain ⟨o, ho⟩ := m0.rsv i a hi e
    exact s.there a o ho
theorem Stp.less {ad : AD} {ad2 : List Addr} {H H' : Hp} (s : Stp ad ad2 H H') : Stp ad [] H H' := ⟨s.keep, s.there, fun _ h => nomatch h⟩
theorem Done.fin {ad : AD} {ad2 : List Addr} {H H' : Hp} {μ0 : Mem} {v : V} (d : Done μ0 p μ1 r μ') (m0 : Mst ad K H μ0) (s : Stp ad ad2 H H') (m : Mst (ad ++ ad2) K H' μ1) (rp : Rp (ad ++ ad2) K H' p v) :
    ∃ ad3, Stp ad ad3 H H' ∧ Mst (ad ++ ad3) K H' μ' ∧ Rp (ad ++ ad3) K H' r v := by
  cases d with
  | same => exact ⟨ad2, s, m, rp⟩
  | drop _ _ ex c b =>
    refine ⟨[], s.less, by rw [AD.append_nil]; exact m0.down s c m, ?_⟩
    rw [AD.append_nil]
    have := rp.down p v b
    rwa [AD.first_app m0.len] at this
  | lst n xs _ ex c hn e b =>
    refine ⟨[], s.less, by rw [AD.append_nil]; exact m0.down s c m, ?_⟩
    rw [AD.append_nil]
    obtain ⟨a, e1, h1⟩ := rp.obj_inv
    obtain ⟨vs, h2, r2⟩ := m.mem n a _ h1 e
    unfold Rp
    refine ⟨a, vs, e1, ⟨h2, fun hm => ?_⟩, ?_⟩
    · obtain ⟨i, hi, ei⟩ := List.mem_iff_getElem.mp hm
      have e3 : (ad ++ ad2).l[i]? = some a := by
        show (ad.l ++ ad2)[i]? = some a
        rw [List.getElem?_append_left hi]
        rw [← ei]
        simp [hi]
      have hne : i ≠ (ad ++ ad2).n + n := by
        show i ≠ ad.n + n
        have := m0.len
        omega
      exact m.ne e3 h1 hne rfl
    · have := r2.down xs vs b
      rwa [AD.first_app m0.len] at this
/-- a def's ends -/
def fnEnds (μ0 : Mem) (Q : PV → Mem → Prop) : AEnds where
  nx := fun _ μ1 => ∃ r μ', Done μ0 .non μ1 r μ' ∧ Q r μ'
  rt := fun p μ1 => ∃ r μ', Done μ0 p μ1 r μ' ∧ Q r μ'
def entry (N : List Str) (args : List PV) : Env := args.map some ++ List.replicate (N.length - args.length) none
theorem RpE.entry {ad : AD} {H : Hp} {args : List PV} {vs : List V} (r : RpL ad K H args vs) : RpE ad K H (entry N args) (L2.start N vs) := by
  have hl := r.length
  refine ⟨by unfold L3.entry L2.start; simp [hl], fun i p e => ?_⟩
  unfold L3.entry at e
  by_cases hi : i < args.length
  · rw [List.getElem?_append_left (by simpa using hi), List.getElem?_map] at e
    obtain ⟨q, hq, e2⟩ := Option.map_eq_some_iff.mp e
    cases e2
    obtain ⟨v, hv, rv⟩ := r.get hq
    refine ⟨v, ?_, rv⟩
    unfold L2.start
    rw [List.getElem?_append_left (by rw [List.length_map, ← hl]; exact hi), List.getElem?_map, hv]
    rfl
  · rw [List.getElem?_append_right (by simpa using hi)] at e
    rw [List.getElem?_replicate] at e
    split at e <;> cases e
/-- THE RULE for a def that raises nothing -/
theorem FnOk.ofA {qual : Str} {st : Stmt} {f : Addr} {fd : FuncData} {ps : List Str} (F : Fun K x qual st f fd) (S : FnScope N ps (defScope st))
    (len : ∀ args μ Q E, A args μ Q E → args.length = ps.length)
    (body : ∀ (X : Cx) (args : List PV) (μ : Mem) (Q : PV → Mem → Prop) (E : EX → Mem → Prop), CxF X P w K mg base N (defScope st) k → A args μ Q E → DSs X (defBody st) (entry N args) μ (fnEnds μ Q)) : FnOk P w K mg base (L2.CX P w) (k + 1) f fd ps (conc K A) := by
  obtain ⟨oc, od, kV, doc, pm, an, cdv, ct, osl, rfl, lk, hcd⟩ := F.ex
  refine fn_of (N := N) lk hcd S (fun vs H Q E h => ?_) fun A' outer s H vs Q E hr h => ?_
  · obtain ⟨ad, μ, args, Qa, Ea, m, r, hA, _⟩ := h
    rw [← r.length]
    exact len _ _ _ _ hA
  · obtain ⟨ad, μ, args, Qa, Ea, m, r, hA, hQ, _⟩ := h
    generalize hX : (cxOf (L2.CX P w) P w K mg base N qual (defScope st) f cdv A' outer s H E).nox = X
    refine ⟨wSs X (defBody st), ?_, ?_⟩
    · have := PSs.nox (X := cxOf (L2.CX P w) P w K mg base N qual (defScope st) f cdv A' outer s H E) (st := defBody st) (t := wSs X (defBody st)) (by rw [hX]; exact pss_w _)
      exact this
    · have cx : CxF X P w K mg base N (defScope st) k := by
        subst hX
        exact { eP := rfl, ew := rfl, eK := rfl, emg := rfl, eb := rfl, eN := rfl, vis := fun y hy => vis_of hy, sto := fun y hy => ⟨loc_of hy, .inl rfl⟩, loc := fun y hy => hy, gl := fun y hy => hy, calm := rfl, room := hr, esc := rfl, po := PassesOwn.never, nd := S.nd, kind := S.kind, stk := rfl, frm := rfl }
      refine body X args μ Qa Ea cx hA ad (L2.start N vs) H _ ⟨by rw [cx.eK]; exact m, by rw [cx.eK]; exact RpE.entry r⟩ ?_
      refine ⟨fun ad2 σ' H' ρ' μ' s2 R' d => ?_, fun _ _ _ _ _ _ _ d => d.elim, fun _ _ _ _ _ _ _ d => d.elim, fun ad2 v H' p μ' s2 m2 r2 d => ?_, fun _ _ _ _ _ _ _ _ _ _ _ d => d.elim⟩
      · obtain ⟨r', μ3, d1, d2⟩ := d
        have mm := R'.m
        rw [cx.eK] at mm
        obtain ⟨ad3, s3, m3, r3⟩ := d1.fin m s2 mm (Rp.non' (ad := ad ++ ad2) (K := K) (H := H'))
        exact hQ ad3 H' μ3 r' .non s3 m3 r3 d2
      · obtain ⟨r', μ3, d1, d2⟩ := d
        rw [cx.eK] at m2 r2
        obtain ⟨ad3, s3, m3, r3⟩ := d1.fin m s2 m2 r2
        exact hQ ad3 H' μ3 r' v s3 m3 r3 d2
theorem FnA.of {qual : Str} {st : Stmt} {f : Addr} {fd : FuncData} {ps : List Str} (F : Fun K x qual st f fd) (hm : mg x = some (.ref f)) (S : FnScope N ps (defScope st)) (B : Binds K fd ps [])
    (len : ∀ args μ Q E, A args μ Q E → args.length = ps.length)
    (body : ∀ (X : Cx) (args : List PV) (μ : Mem) (Q : PV → Mem → Prop) (E : EX → Mem → Prop), CxF X P w K mg base N (defScope st) k → A args μ Q E → DSs X (defBody st) (entry N args) μ (fnEnds μ Q)) : FnA P w K mg base (k + 1) x A :=
  ⟨f, fd, ps, FnOk.ofA F S len body, hm, F.kp, B⟩
end
end L3

namespace L3
open PySem PySem.Spec L2
section
variable {X : Cx} {P : Program} {w : World} {K : PySem.W.Frag} {mg : Str → Option Value} {base : Heap} {N : List Str} {sc : Scope} {k j : Nat} {x : Str} {A : ASp} {ρ ρ' : Env} {μ μ1 μ2 μ' : Mem} {p q r : PV} {e a b c tg : Expr} {es : List Expr} {pos cp : Pos} {D : AEnds} {kb : Bool} {st : Stmt} {sts : List Stmt}

/-! ### readings with an open end -/
def WE (X : Cx) (e : Expr) (ρ : Env) (μ : Mem) (Qa : PV → Mem → Prop) : Prop :=
  ∀ ad σ H (Q : VK), Rst ad X.K H σ ρ μ → (∀ ad2 v H' p μ', Stp ad ad2 H H' → Mst (ad ++ ad2) X.K H' μ' → Rp (ad ++ ad2) X.K H' p v → Qa p μ' → Q v H') → wE X e σ H Q
def WA (X : Cx) (es : List Expr) (ρ : Env) (μ : Mem) (Qa : List PV → Mem → Prop) : Prop :=
  ∀ ad σ H (Q : List V → Hp → Prop), Rst ad X.K H σ ρ μ → (∀ ad2 vs H' ps μ', Stp ad ad2 H H' → Mst (ad ++ ad2) X.K H' μ' → RpL (ad ++ ad2) X.K H' ps vs → Qa ps μ' → Q vs H') → wA X es σ H Q
def WT (X : Cx) (e : Expr) (ρ : Env) (μ : Mem) (Qa : Bool → Mem → Prop) : Prop :=
  ∀ ad σ H (Q : Bool → Hp → Prop), Rst ad X.K H σ ρ μ → (∀ ad2 b H' μ', Stp ad ad2 H H' → Mst (ad ++ ad2) X.K H' μ' → Qa b μ' → Q b H') → wT X e σ H Q
def WW (X : Cx) (e : Expr) (ρ : Env) (μ : Mem) (Qa : Bool → Mem → Prop) : Prop :=
  ∀ ad σ H (Q : Bool → Hp → Prop), Rst ad X.K H σ ρ μ → (∀ ad2 b H' μ', Stp ad ad2 H H' → Mst (ad ++ ad2) X.K H' μ' → Qa b μ' → Q b H') → wW X e σ H Q
theorem WE.of {Qa : PV → Mem → Prop} (h : DE X e ρ μ p μ') (q : Qa p μ') : WE X e ρ μ Qa := fun ad σ H Q R f => h ad σ H Q R fun ad2 v H' s m r => f ad2 v H' p μ' s m r q
theorem WE.de (h : WE X e ρ μ (fun r m => r = p ∧ m = μ')) : DE X e ρ μ p μ' := fun ad σ H Q R f => h ad σ H Q R fun ad2 v H' p' μ'' s m r q => by
  obtain ⟨rfl, rfl⟩ := q
  exact f ad2 v H' s m r
theorem WE.mono {Qa Qb : PV → Mem → Prop} (h : WE X e ρ μ Qa) (q : ∀ p m, Qa p m → Qb p m) : WE X e ρ μ Qb := fun ad σ H Q R f => h ad σ H Q R fun ad2 v H' p μ' s m r z => f ad2 v H' p μ' s m r (q p μ' z)
theorem WT.of {Qa : Bool → Mem → Prop} (h : DT X e ρ μ kb μ') (q : Qa kb μ') : WT X e ρ μ Qa := fun ad σ H Q R f => h ad σ H Q R fun ad2 H' s m => f ad2 kb H' μ' s m q
theorem WA.of {ps : List PV} {Qa : List PV → Mem → Prop} (h : DA X es ρ μ ps μ') (q : Qa ps μ') : WA X es ρ μ Qa := fun ad σ H Q R f => h ad σ H Q R fun ad2 v H' s m r => f ad2 v H' ps μ' s m r q

/-- an operator's weakest reading -/
def rwO (X : Cx) (f : Value → Value → Sem Value) : R2 := fun x y H Q => ∀ pins s σ v u, Inv X pins σ H s → RelV x v → RelV y u → wpAny (model X.prog X.w) X.A (f v u) (EP X pins σ Q) X.xe s
theorem op_w {f : Value → Value → Sem Value} : OpR X f (rwO X f) := fun pins s σ H x y v u Q I rx ry h => h pins s σ v u I rx ry
theorem OpA.weak {f : Value → Value → Sem Value} {ad : AD} {H : Hp} {vx vy : V} {Q : VK} (o : OpA X f p q μ r) (m : Mst ad X.K H μ) (rx : Rp ad X.K H p vx) (ry : Rp ad X.K H q vy) (h : Fin1 X ad H μ r Q) : rwO X f vx vy H Q := by
  obtain ⟨rr, ho, hr⟩ := o
  exact fun pins s σ v u I r1 r2 => ho pins s σ H vx vy v u Q I r1 r2 (hr ad H vx vy Q m rx ry h)
theorem WE.bin {op : Operator} {Qa : PV → Mem → Prop} (h : WE X a ρ μ fun x μ1 => WE X b ρ μ1 fun y μ2 => ∃ z, OpA X (binaryOp op) x y μ2 z ∧ Qa z μ2) : WE X (.BinOp a op b pos) ρ μ Qa := fun ad σ H Q R f =>
  wE.of (pe_op op_w (pe_w a) (pe_w b)) (h ad σ H _ R fun ad1 v H1 x μ1 s1 m1 r1 q1 => q1 (ad ++ ad1) σ H1 _ (R.mono s1 m1) fun ad2 u H2 y μ2 s2 m2 r2 q2 => by
    obtain ⟨z, hz, qz⟩ := q2
    refine OpA.weak hz m2 (r1.mono s2) r2 fun ad3 w' H3 s3 m3 r3 => ?_
    exact f (ad1 ++ (ad2 ++ ad3)) w' H3 z μ2 (s1.trans (s2.trans s3)) (by rw [← AD.append_assoc, ← AD.append_assoc]; exact m3) (by rw [← AD.append_assoc, ← AD.append_assoc]; exact r3) qz)
theorem WE.cmp {op : CmpOp} {Qa : PV → Mem → Prop} (h : WE X a ρ μ fun x μ1 => WE X b ρ μ1 fun y μ2 => ∃ z, OpA X (compareOp op) x y μ2 z ∧ Qa z μ2) (hm : behindInMarks op b = false := by first | rfl | exact nomark _) : WE X (.Compare a [op] [b] pos) ρ μ Qa := fun ad σ H Q R f =>
  wE.of (pe_cmpR op_w (pe_w a) (pe_w b) hm) (h ad σ H _ R fun ad1 v H1 x μ1 s1 m1 r1 q1 => q1 (ad ++ ad1) σ H1 _ (R.mono s1 m1) fun ad2 u H2 y μ2 s2 m2 r2 q2 => by
    obtain ⟨z, hz, qz⟩ := q2
    refine OpA.weak hz m2 (r1.mono s2) r2 fun ad3 w' H3 s3 m3 r3 => ?_
    exact f (ad1 ++ (ad2 ++ ad3)) w' H3 z μ2 (s1.trans (s2.trans s3)) (by rw [← AD.append_assoc, ← AD.append_assoc]; exact m3) (by rw [← AD.append_assoc, ← AD.append_assoc]; exact r3) qz)
theorem WT.cmp {op : CmpOp} {Qa : Bool → Mem → Prop} (h : WE X a ρ μ fun x μ1 => WE X b ρ μ1 fun y μ2 => ∃ z, OpA X (compareOp op) x y μ2 (.bl z) ∧ Qa z μ2) (hm : behindInMarks op b = false := by first | rfl | exact nomark _) : WT X (.Compare a [op] [b] pos) ρ μ Qa := fun ad σ H Q R f =>
  wT.of (pt_cmpR op_w (pe_w a) (pe_w b) hm) (h ad σ H _ R fun ad1 v H1 x μ1 s1 m1 r1 q1 => q1 (ad ++ ad1) σ H1 _ (R.mono s1 m1) fun ad2 u H2 y μ2 s2 m2 r2 q2 => by
    obtain ⟨z, hz, qz⟩ := q2
    refine OpA.weak hz m2 (r1.mono s2) r2 fun ad3 w' H3 s3 m3 r3 => ⟨z, r3.bl_inv, ?_⟩
    exact f (ad1 ++ (ad2 ++ ad3)) z H3 μ2 (s1.trans (s2.trans s3)) (by rw [← AD.append_assoc, ← AD.append_assoc]; exact m3) qz)
theorem WT.val {Qa : Bool → Mem → Prop} (h : WE X a ρ μ fun x m => ∃ z, x = .bl z ∧ Qa z m) (he : ∀ whole, isTrue a X.env whole = (do let v ← whole; standAt a.pos; holding [v] (truthy v)) := by intro _; rfl) : WT X a ρ μ Qa := fun ad σ H Q R f =>
  wT.of (pt_val (pe_w a) he) (h ad σ H _ R fun ad1 v H1 x μ1 s1 m1 r1 q1 => by
    obtain ⟨z, e, q1⟩ := q1
    subst e
    exact ⟨z, r1.bl_inv, f ad1 z H1 μ1 s1 m1 q1⟩)
theorem WT.not {Qa : Bool → Mem → Prop} (h : WT X a ρ μ fun z m => Qa (!z) m) : WT X (.UnaryOp .Not a pos) ρ μ Qa := fun ad σ H Q R f =>
  wT.of (pt_not (pt_w a)) (h ad σ H _ R fun ad1 z H1 μ1 s1 m1 q1 => f ad1 (!z) H1 μ1 s1 m1 q1)
theorem WW.t {Qa : Bool → Mem → Prop} (h : WW X a ρ μ Qa) : WT X a ρ μ Qa := fun ad σ H Q R f => wT.of (pw_w a).pt (h ad σ H Q R f)
theorem WW.and1 {Qa : Bool → Mem → Prop} (h : WT X a ρ μ Qa) : WW X (.BoolOp .And [a] pos) ρ μ Qa := fun ad σ H Q R f => wW.of (pw_and1 (pt_w a)) (h ad σ H Q R f)
theorem WW.or1 {Qa : Bool → Mem → Prop} (h : WT X a ρ μ Qa) : WW X (.BoolOp .Or [a] pos) ρ μ Qa := fun ad σ H Q R f => wW.of (pw_or1 (pt_w a)) (h ad σ H Q R f)
theorem WW.and {Qa : Bool → Mem → Prop} (h : WT X a ρ μ fun z m => if z = true then WW X (.BoolOp .And (b :: es) pos) ρ m Qa else Qa false m) : WW X (.BoolOp .And (a :: b :: es) pos) ρ μ Qa := fun ad σ H Q R f =>
  wW.of (pw_and (pt_w a) (pw_w _)) (h ad σ H _ R fun ad1 z H1 μ1 s1 m1 q1 => by
    cases z with
    | false => exact iteF (f ad1 false H1 μ1 s1 m1 q1)
    | true => exact iteT (q1 (ad ++ ad1) σ H1 Q (R.mono s1 m1) fun ad2 z2 H2 μ2 s2 m2 q2 => f (ad1 ++ ad2) z2 H2 μ2 (s1.trans s2) (by rw [← AD.append_assoc]; exact m2) q2))
theorem WW.or {Qa : Bool → Mem → Prop} (h : WT X a ρ μ fun z m => if z = true then Qa true m else WW X (.BoolOp .Or (b :: es) pos) ρ m Qa) : WW X (.BoolOp .Or (a :: b :: es) pos) ρ μ Qa := fun ad σ H Q R f =>
  wW.of (pw_or (pt_w a) (pw_w _)) (h ad σ H _ R fun ad1 z H1 μ1 s1 m1 q1 => by
    cases z with
    | true => exact iteT (f ad1 true H1 μ1 s1 m1 q1)
    | false => exact iteF (q1 (ad ++ ad1) σ H1 Q (R.mono s1 m1) fun ad2 z2 H2 μ2 s2 m2 q2 => f (ad1 ++ ad2) z2 H2 μ2 (s1.trans s2) (by rw [← AD.append_assoc]; exact m2) q2))
theorem WE.not {Qa : PV → Mem → Prop} (h : WE X a ρ μ fun x m => ∃ z, x = .bl z ∧ Qa (.bl (!z)) m) : WE X (.UnaryOp .Not a pos) ρ μ Qa := fun ad σ H Q R f =>
  wE.of (pe_not (pe_w a)) (h ad σ H _ R fun ad1 v H1 x μ1 s1 m1 r1 q1 => by
    obtain ⟨z, e, q1⟩ := q1
    subst e
    exact ⟨z, r1.bl_inv, f ad1 _ H1 _ μ1 s1 m1 (Rp.bl' _) q1⟩)
theorem WA.nil {Qa : List PV → Mem → Prop} (h : Qa [] μ) : WA X [] ρ μ Qa := WA.of DA.nil h
theorem WA.cons {Qa : List PV → Mem → Prop} (h : WE X e ρ μ fun x m => WA X es ρ m fun xs m2 => Qa (x :: xs) m2) (hs : starEach (e :: es) X.env = (false, eval e X.env) :: starEach es X.env := by rfl) : WA X (e :: es) ρ μ Qa := fun ad σ H Q R f =>
  wA.of (pa_cons (pe_w e) (pa_w es) hs) (h ad σ H _ R fun ad1 v H1 x μ1 s1 m1 r1 q1 =>
    q1 (ad ++ ad1) σ H1 _ (R.mono s1 m1) fun ad2 vs H2 xs μ2 s2 m2 r2 q2 => f (ad1 ++ ad2) _ H2 _ μ2 (s1.trans s2) (by rwa [← AD.append_assoc]) (by rw [← AD.append_assoc]; exact RpL.cons (r1.mono s2) r2) q2)
theorem WE.tup {x1 : Nat} {Qa : PV → Mem → Prop} (h : WA X es ρ μ fun ps m => ps.length ≤ sizeLine ∧ Qa (.tup ps) m) : WE X (.Tuple es x1 pos) ρ μ Qa := fun ad σ H Q R f =>
  wE.of (pe_tup (pa_w es)) (h ad σ H _ R fun ad1 vs H1 ps μ1 s1 m1 r1 q1 => ⟨by rw [← r1.length]; exact q1.1, fun a ha => by
    have s2 : Stp (ad ++ ad1) [] H1 (upd H1 a (.tup vs)) := Stp.data ha
    refine f (ad1 ++ []) _ _ (.tup ps) μ1 (s1.trans s2) (by rw [List.append_nil]; exact m1.data ha) ?_ q1.2
    rw [List.append_nil]
    unfold Rp
    refine ⟨a, vs, rfl, .inl ⟨upd_same, m1.notIn ha⟩, ?_⟩
    have := RpL.mono (K := X.K) s2 ps vs r1
    rwa [AD.append_nil] at this⟩)
theorem WE.lst {Qa : PV → Mem → Prop} (h : WA X es ρ μ fun ps m => ps.length ≤ sizeLine ∧ Qa (.lst ps) m) : WE X (.List es pos) ρ μ Qa := fun ad σ H Q R f =>
  wE.of (pe_lst (pa_w es)) (h ad σ H _ R fun ad1 vs H1 ps μ1 s1 m1 r1 q1 => ⟨by rw [← r1.length]; exact q1.1, fun a ha => by
    have s2 : Stp (ad ++ ad1) [] H1 (upd H1 a (.lst vs)) := Stp.data ha
    refine f (ad1 ++ []) _ _ (.lst ps) μ1 (s1.trans s2) (by rw [List.append_nil]; exact m1.data ha) ?_ q1.2
    rw [List.append_nil]
    unfold Rp
    refine ⟨a, vs, rfl, ⟨upd_same, m1.notIn ha⟩, ?_⟩
    have := RpL.mono (K := X.K) s2 ps vs r1
    rwa [AD.append_nil] at this⟩)
theorem WE.lstO {Qa : PV → Mem → Prop} (h : WA X es ρ μ fun ps m => ps.length ≤ sizeLine ∧ Qa (.obj m.length) (m ++ [.lst ps])) : WE X (.List es pos) ρ μ Qa := fun ad σ H Q R f =>
  wE.of (pe_lst (pa_w es)) (h ad σ H _ R fun ad1 vs H1 ps μ1 s1 m1 r1 q1 => ⟨by rw [← r1.length]; exact q1.1, fun a ha => by
    have s2 : Stp (ad ++ ad1) [a] H1 (upd H1 a (.lst vs)) := Stp.fresh ha
    refine f (ad1 ++ [a]) _ _ (.obj μ1.length) (μ1 ++ [.lst ps]) (s1.trans s2) ?_ ?_ q1.2
    · rw [← AD.append_assoc]
      exact m1.push ha ⟨vs, upd_same, RpL.mono (K := X.K) s2 ps vs r1⟩
    · rw [← AD.append_assoc]
      unfold Rp
      exact ⟨a, rfl, AD.at_snoc m1.len⟩⟩)
/-- f(e, ..), whatever it promises -/
theorem WE.call (cx : CxD X P w K mg base N sc k) {Qa : PV → Mem → Prop} (F : FnA P w K mg base j x A) (hj : j ≤ k) (hx : sc.names.lookup x = some .globalImplicit) (h : WA X (e :: es) ρ μ fun ps m => A ps m Qa (fun _ _ => False))
    (hdb : (x == ("__debug__" : Str)) = false := by decide) (he : starEach (e :: es) X.env = (false, eval e X.env) :: starEach es X.env := by rfl) (hpl : (backTo pos (starEach es X.env)).any (·.1) = false := by rfl) :
    WE X (.Call (.Name x cp) (e :: es) [] pos) ρ μ Qa := fun ad σ H Q R f => by
  obtain ⟨fa, fd, pn, F1, hm, hk, hb⟩ := cx.fn F
  refine wE.of (pe_call F1 (cx.room.mono hj) (cx.gl x hx) hm hk hb .nil passE0 (pa_w _) hdb he hpl) (h ad σ H _ R fun ad1 vs H1 ps μ1 s1 m1 r1 q1 => ?_)
  rw [List.append_nil]
  refine ⟨ad ++ ad1, μ1, ps, _, _, m1, r1, q1, fun ad2 H' μ' r v s m rr hq => ?_, fun _ _ _ _ _ _ _ _ _ h => h.elim⟩
  exact f (ad1 ++ ad2) v H' r μ' (s1.trans s) (by rwa [← AD.append_assoc]) (by rwa [← AD.append_assoc]) hq
/-! statements by open readings -/
theorem DS.exprW (h : WE X e ρ μ fun _ m => D.nx ρ m) (hs : swapsWith e none pos.line X.env = pure false := by rfl) : DS X (.Expr e pos) ρ μ D := fun ad σ H Dc R C =>
  wS.of (ps_expr (pe_w e) hs) (h ad σ H _ R fun ad2 v H' p μ' s m r q => C.nx ad2 σ H' ρ μ' s (R.mono s m) q)
theorem DS.retW (h : WE X e ρ μ fun p m => D.rt p m) : DS X (.Return (some e) pos) ρ μ D := fun ad σ H Dc R C =>
  wS.of (ps_ret (pe_w e)) (h ad σ H _ R fun ad2 v H' p μ' s m r q => C.rt ad2 v H' p μ' s m r q)
theorem DS.ifeW {B B' : List Stmt} (h : WT X c ρ μ fun z m => if z = true then DSs X B ρ m D else DSs X B' ρ m D) : DS X (.If c B B' pos) ρ μ D := fun ad σ H Dc R C =>
  wS.of (ps_if (pt_w c) (pss_w B) (pss_w B')) (h ad σ H _ R fun ad2 z H' μ' s m q => by
    cases z with
    | true => exact iteT (q _ σ H' Dc (R.mono s m) (C.step s))
    | false => exact iteF (q _ σ H' Dc (R.mono s m) (C.step s)))
theorem DS.asgW (h : WE X e ρ μ fun p m => ∃ ρ', DG X tg p ρ m ρ' ∧ D.nx ρ' m) (hs : swapsWithSole [tg] e pos.line X.env = pure false := by rfl) (hw : swappedStores [tg] e X.env = pure none := by rfl)
    (h1 : (assignEach [tg] X.env).map (·.2) = [assign tg X.env] := by rfl) : DS X (.Assign [tg] e pos) ρ μ D := fun ad σ H Dc R C =>
  wS.of (ps_asg (pe_w e) (pg_w tg) hs hw h1) (h ad σ H _ R fun ad2 v H' p μ' s m r q => by
    obtain ⟨ρ', hg, hn⟩ := q
    exact hg (ad ++ ad2) σ H' v _ (R.mono s m) r fun σ' R' => C.nx ad2 σ' H' ρ' μ' s R' hn)
theorem CxF.setW (cx : CxF X P w K mg base N sc k) (i : Nat) (hN : N[i]? = some x) (hs : stoB sc x = true) {pos pos' : Pos} (h : WE X e ρ μ fun p m => D.nx (ρ.set i (some p)) m)
    (hsw : swapsWith e (some (.Name x pos')) pos.line X.env = pure false := by rfl) : DS X (.Assign [.Name x pos'] e pos) ρ μ D := fun ad σ H Dc R C =>
  wS.of (ps_set cx.nd' (by rw [cx.eN]; exact hN) (cx.sto x hs).1 (pe_w e) hsw (cx.sto x hs).2) (h ad σ H _ R fun ad2 v H' p μ' s m r q => C.nx ad2 _ H' _ μ' s ⟨m, (R.mono s m).e.set i r⟩ q)

/-! ### names of the module -/
theorem DE.glob {u : Value} {v : V} (cx : CxD X P w K mg base N sc k) (hx : sc.names.lookup x = some .globalImplicit) (hm : mg x = some u) (r : RelV v u) (h : ∀ ad H, Rp ad X.K H p v) (hd : (x == ("__debug__" : Str)) = false := by decide) : DE X (.Name x pos) ρ μ p μ := fun ad σ H Q R f =>
  wE.of (pe_glob (cx.gl x hx) (by rw [cx.emg]; exact hm) r hd) (f [] _ H Stp.refl R.nil (h _ _))
theorem DE.globS {z : Str} (cx : CxD X P w K mg base N sc k) (hx : sc.names.lookup x = some .globalImplicit) (hm : ∃ t, mg x = some (.str z t)) (hd : (x == ("__debug__" : Str)) = false := by decide) : DE X (.Name x pos) ρ μ (.str z) μ := by
  obtain ⟨t, ht⟩ := hm
  exact DE.glob (v := .str z) cx hx ht ⟨t, rfl⟩ (fun _ _ => Rp.str' _) hd
/-! ### built-ins by name -/
def CallA (X : Cx) (f : Value) (ps : List PV) (μ : Mem) (p : PV) : Prop :=
  ∃ rr, CallR X f rr ∧ ∀ ad H vs Q, Mst ad X.K H μ → RpL ad X.K H ps vs → Fin1 X ad H μ p Q → rr vs H Q
theorem DE.callB {id : String} {ps : List PV} (cx : CxD X P w K mg base N sc k) (hx : sc.names.lookup x = some .globalImplicit) (hm : mg x = none) (hv : bootBuiltins x = some (.builtin id)) (ha : DA X (e :: es) ρ μ ps μ1) (h : CallA X (.builtin id) ps μ1 p)
    (hn : x ≠ "__name__" := by decide) (hdb : (x == ("__debug__" : Str)) = false := by decide) (he : starEach (e :: es) X.env = (false, eval e X.env) :: starEach es X.env := by rfl) (hpl : (backTo pos (starEach es X.env)).any (·.1) = false := by rfl) :
    DE X (.Call (.Name x cp) (e :: es) [] pos) ρ μ p μ1 := fun ad σ H Q R f => by
  obtain ⟨rr, hc, hr⟩ := h
  exact wE.of (pe_callB hc (cx.gl x hx) (by rw [cx.emg]; exact hm) hv (pa_w _) hn hdb he hpl) (ha ad σ H _ R fun ad1 vs H1 s1 m1 r1 => hr (ad ++ ad1) H1 vs Q m1 r1 (Fin1.step s1 f))
theorem DE.callTy {T : String} {ps : List PV} (cx : CxD X P w K mg base N sc k) (hx : sc.names.lookup x = some .globalImplicit) (hm : mg x = none) (hv : bootBuiltins x = some (.type T)) (ha : DA X (e :: es) ρ μ ps μ1) (h : CallA X (.type T) ps μ1 p)
    (hn : x ≠ "__name__" := by decide) (hdb : (x == ("__debug__" : Str)) = false := by decide) (he : starEach (e :: es) X.env = (false, eval e X.env) :: starEach es X.env := by rfl) (hpl : (backTo pos (starEach es X.env)).any (·.1) = false := by rfl) :
    DE X (.Call (.Name x cp) (e :: es) [] pos) ρ μ p μ1 := fun ad σ H Q R f => by
  obtain ⟨rr, hc, hr⟩ := h
  exact wE.of (pe_callTy hc (cx.gl x hx) (by rw [cx.emg]; exact hm) hv (pa_w _) hn hdb he hpl) (ha ad σ H _ R fun ad1 vs H1 s1 m1 r1 => hr (ad ++ ad1) H1 vs Q m1 r1 (Fin1.step s1 f))
theorem RpL.inv1 {ad : AD} {H : Hp} {vs : List V} (r : RpL ad K H [p] vs) : ∃ v, vs = [v] ∧ Rp ad K H p v := by
  unfold RpL at r
  obtain ⟨v, w, e1, r1, r2⟩ := r
  unfold RpL at r2
  subst r2
  exact ⟨v, e1, r1⟩
theorem RpL.inv2 {ad : AD} {H : Hp} {vs : List V} (r : RpL ad K H [p, q] vs) : ∃ v u, vs = [v, u] ∧ Rp ad K H p v ∧ Rp ad K H q u := by
  unfold RpL at r
  obtain ⟨v, w, e1, r1, r2⟩ := r
  obtain ⟨u, e2, r3⟩ := r2.inv1
  exact ⟨v, u, by rw [e1, e2], r1, r3⟩
theorem CallA.int1 {f : Value} {i : Int} {rr : List V → Hp → VK → Prop} {v : V} (hc : CallR X f rr) (h : ∀ H (Q : VK), Q v H → rr [.int i] H Q) (hp : ∀ ad H, Rp ad X.K H p v) : CallA X f [.int i] μ p :=
  ⟨rr, hc, fun ad H vs Q m r f => by rw [r.one_int]; exact h H Q (f [] v H Stp.refl (by rwa [AD.append_nil]) (hp _ _))⟩
theorem ca_abs {i : Int} : CallA X (.builtin "abs") [.int i] μ (.int ((i.natAbs : Nat) : Int)) :=
  CallA.int1 call_abs (fun H Q q => ⟨i, rfl, by rw [show (if i < 0 then -i else i) = ((i.natAbs : Nat) : Int) from by split <;> omega]; exact q⟩) fun _ _ => Rp.int' _
theorem ca_intB {b : Bool} : CallA X (.type "int") [.bl b] μ (.int (if b then 1 else 0)) :=
  ⟨_, call_int1, fun ad H vs Q m r f => by
    obtain ⟨v, e, rv⟩ := r.inv1
    rw [e, rv.bl_inv]
    exact .inr ⟨b, rfl, f [] _ H Stp.refl (by rwa [AD.append_nil]) (Rp.int' _)⟩⟩
theorem ca_max2 {i j : Int} (hc : X.calm = true) : CallA X (.builtin "max") [.int i, .int j] μ (.int (max i j)) :=
  ⟨_, call_max2 hc, fun ad H vs Q m r f => by
    rw [r.two_int]
    refine ⟨i, j, rfl, ?_⟩
    rw [show (if j > i then j else i) = max i j from by omega]
    exact f [] _ H Stp.refl (by rwa [AD.append_nil]) (Rp.int' _)⟩
theorem ca_min2 {i j : Int} (hc : X.calm = true) : CallA X (.builtin "min") [.int i, .int j] μ (.int (min i j)) :=
  ⟨_, call_min2 hc, fun ad H vs Q m r f => by
    rw [r.two_int]
    refine ⟨i, j, rfl, ?_⟩
    rw [show (if j < i then j else i) = min i j from by omega]
    exact f [] _ H Stp.refl (by rwa [AD.append_nil]) (Rp.int' _)⟩
theorem ca_len {xs : List PV} (h : asL μ p = some xs) : CallA X (.builtin "len") [p] μ (.int xs.length) :=
  ⟨_, call_len_seq, fun ad H vs Q m r f => by
    obtain ⟨v, e, rv⟩ := r.inv1
    obtain ⟨l, ws, e1, h1, r1⟩ := rv.asL_inv h m
    rw [e, e1]
    refine ⟨l, ws, rfl, .inl h1, ?_⟩
    rw [← r1.length]
    exact f [] _ H Stp.refl (by rwa [AD.append_nil]) (Rp.int' _)⟩
theorem RpL.ints' {ad : AD} {H : Hp} : ∀ {ns : List Int} {vs : List V}, RpL ad K H (ns.map PV.int) vs → vs = ns.map V.int
  | [], vs, r => by unfold List.map RpL at r; exact r
  | n :: ns, vs, r => by
    rw [List.map_cons] at r
    unfold RpL at r
    obtain ⟨v, w, e1, r1, r2⟩ := r
    rw [e1, r1.int_inv, RpL.ints' r2]
    rfl
theorem RpL.of_ints {ad : AD} {H : Hp} : ∀ {ns : List Int}, RpL ad K H (ns.map PV.int) (ns.map V.int)
  | [] => RpL.nil
  | _ :: _ => RpL.cons (Rp.int' _) RpL.of_ints
theorem ca_max {ns : List Int} {i : Int} (hc : X.calm = true) (h : asL μ p = some (ns.map PV.int)) (hi : i ∈ ns) (hle : ∀ y ∈ ns, y ≤ i) : CallA X (.builtin "max") [p] μ (.int i) :=
  ⟨_, cr_max hc, fun ad H vs Q m r f => by
    obtain ⟨v, e, rv⟩ := r.inv1
    obtain ⟨l, ws, e1, h1, r1⟩ := rv.asL_inv h m
    rw [e, e1]
    rw [r1.ints'] at h1
    refine ⟨l, ns, rfl, h1, List.length_pos_of_mem hi, fun z hz hle' => ?_⟩
    have : z = i := Int.le_antisymm (hle z hz) (hle' i hi)
    subst this
    exact f [] _ H Stp.refl (by rwa [AD.append_nil]) (Rp.int' _)⟩
theorem ca_min {ns : List Int} {i : Int} (hc : X.calm = true) (h : asL μ p = some (ns.map PV.int)) (hi : i ∈ ns) (hle : ∀ y ∈ ns, i ≤ y) : CallA X (.builtin "min") [p] μ (.int i) :=
  ⟨_, cr_min hc, fun ad H vs Q m r f => by
    obtain ⟨v, e, rv⟩ := r.inv1
    obtain ⟨l, ws, e1, h1, r1⟩ := rv.asL_inv h m
    rw [e, e1]
    rw [r1.ints'] at h1
    refine ⟨l, ns, rfl, h1, List.length_pos_of_mem hi, fun z hz hle' => ?_⟩
    have : z = i := Int.le_antisymm (hle' i hi) (hle z hz)
    subst this
    exact f [] _ H Stp.refl (by rwa [AD.append_nil]) (Rp.int' _)⟩
theorem Fin1.lst {ad : AD} {H : Hp} {xs : List PV} {vs : List V} {Q : VK} {l : Addr} (f : Fin1 X ad H μ (.lst xs) Q) (m : Mst ad X.K H μ) (hl : H l = none) (r : RpL ad X.K H xs vs) : Q (.ref l) (upd H l (.lst vs)) := by
  have s2 : Stp ad [] H (upd H l (.lst vs)) := Stp.data hl
  refine f [] _ _ s2 (by rw [AD.append_nil]; exact m.data hl) ?_
  rw [AD.append_nil]
  unfold Rp
  refine ⟨l, _, rfl, ⟨upd_same, m.notIn hl⟩, ?_⟩
  have := RpL.mono (K := X.K) s2 _ _ r
  rwa [AD.append_nil] at this
theorem Fin1.tup {ad : AD} {H : Hp} {xs : List PV} {vs : List V} {Q : VK} {l : Addr} (f : Fin1 X ad H μ (.tup xs) Q) (m : Mst ad X.K H μ) (hl : H l = none) (r : RpL ad X.K H xs vs) : Q (.ref l) (upd H l (.tup vs)) := by
  have s2 : Stp ad [] H (upd H l (.tup vs)) := Stp.data hl
  refine f [] _ _ s2 (by rw [AD.append_nil]; exact m.data hl) ?_
  rw [AD.append_nil]
  unfold Rp
  refine ⟨l, _, rfl, .inl ⟨upd_same, m.notIn hl⟩, ?_⟩
  have := RpL.mono (K := X.K) s2 _ _ r
  rwa [AD.append_nil] at this
theorem ca_tuple {xs : List PV} (h : asL μ p = some xs) : CallA X (.type "tuple") [p] μ (.tup xs) :=
  ⟨_, call_tuple_of, fun ad H vs Q m r f => by
    obtain ⟨v, e, rv⟩ := r.inv1
    obtain ⟨l, ws, e1, h1, r1⟩ := rv.asL_inv h m
    rw [e, e1]
    exact ⟨l, ws, rfl, .inl ⟨h1, fun a ha => f.tup m ha r1⟩⟩⟩

/-! ### isinstance of a built-in type -/
end
end L3

namespace L3
open PySem PySem.Spec L2
section
variable {X : Cx} {P : Program} {w : World} {K : PySem.W.Frag} {mg : Str → Option Value} {base : Heap} {N : List Str} {sc : Scope} {k j : Nat} {x : Str} {A : ASp} {ρ ρ' : Env} {μ μ1 μ2 μ3 μ' : Mem} {p q r : PV} {e a b c o tg : Expr} {es : List Expr} {pos cp : Pos} {D : AEnds} {kb : Bool} {st : Stmt} {sts : List Stmt}

/-! ### slices -/
def DO (X : Cx) (e : Option Expr) (ρ : Env) (μ : Mem) (l : Option Int) (μ' : Mem) : Prop :=
  ∃ t, PO X e t ∧ ∀ ad σ H (Q : Option Int → Hp → Prop), Rst ad X.K H σ ρ μ → (∀ ad2 H', Stp ad ad2 H H' → Mst (ad ++ ad2) X.K H' μ' → Q l H') → t σ H Q
theorem DO.none : DO X none ρ μ none μ := ⟨_, po_none, fun ad σ H Q R f => f [] H Stp.refl R.nil⟩
theorem DO.some {i : Int} (h : DE X e ρ μ (.int i) μ') : DO X (some e) ρ μ (some i) μ' := ⟨_, po_some (pe_w e), fun ad σ H Q R f => h ad σ H _ R fun ad2 v H' s m r => ⟨i, r.int_inv, f ad2 H' s m⟩⟩
def SlA (X : Cx) (p : PV) (l u : Option Int) (μ : Mem) (r : PV) : Prop :=
  ∃ rr, SlR X rr ∧ ∀ ad H v Q, Mst ad X.K H μ → Rp ad X.K H p v → Fin1 X ad H μ r Q → rr v l u H Q
theorem DE.slice {lo hi : Option Expr} {l u : Option Int} {p2 : Pos} (ha : DE X a ρ μ p μ1) (hl : DO X lo ρ μ1 l μ2) (hh : DO X hi ρ μ2 u μ3) (h : SlA X p l u μ3 r) : DE X (.Subscript a (.Slice lo hi none p2) pos) ρ μ r μ3 := fun ad σ H Q R f => by
  obtain ⟨rr, hs, hr⟩ := h
  obtain ⟨t1, ho1, h1⟩ := hl
  obtain ⟨t2, ho2, h2⟩ := hh
  refine wE.of (pe_slice hs (pe_w a) ho1 ho2) (ha ad σ H _ R fun ad1 v H1 s1 m1 r1 => h1 (ad ++ ad1) σ H1 _ (R.mono s1 m1) fun ad2 H2 s2 m2 => h2 (ad ++ ad1 ++ ad2) σ H2 _ ((R.mono s1 m1).mono s2 m2) fun ad3 H3 s3 m3 => ?_)
  exact hr _ H3 v Q m3 ((r1.mono s2).mono s3) (Fin1.step s3 (Fin1.step s2 (Fin1.step s1 f)))
/-- xs[lo:hi] -/
def cutP {α : Type} (xs : List α) (lo hi : Option Int) : List α := (xs.drop (HT.sIx xs.length 0 lo)).take (HT.sIx xs.length xs.length hi - HT.sIx xs.length 0 lo)
theorem sa_lst {xs : List PV} {l u : Option Int} (h : asL μ p = some xs) : SlA X p l u μ (.lst (cutP xs l u)) :=
  ⟨_, sl_list, fun ad H v Q m r f => by
    obtain ⟨a, vs, e1, h1, r1⟩ := r.asL_inv h m
    exact ⟨a, vs, e1, h1, fun b hb => f.lst m hb (r1.cut l u)⟩⟩
theorem sa_str {z : Str} {l u : Option Int} (h : z.length ≤ sizeLine) : SlA X (.str z) l u μ (.str (cutS z l u)) :=
  ⟨_, sl_str, fun ad H v Q m r f => ⟨z, r.str_inv, h, f [] _ H Stp.refl (by rwa [AD.append_nil]) (Rp.str' _)⟩⟩
/-! ### methods of lists and texts -/
theorem Rp.tyL {ad : AD} {H : Hp} {v : V} {xs : List PV} (h : Rp ad K H p v) (m : Mst ad K H μ) (e : asL μ p = some xs) : tyV K "list" v H := by
  obtain ⟨l, vs, e1, h1, _⟩ := h.asL_inv e m
  subst e1
  exact .inl ⟨rfl, vs, h1⟩
theorem DE.append {n : Nat} {xs ys : List PV} {apos : Pos} (ho : DE X o ρ μ (.obj n) μ1) (he : DE X e ρ μ1 p μ2) (h1 : asL μ1 (.obj n) = some ys) (h2 : μ2[n]? = some (.lst xs)) (hl : xs.length < sizeLine)
    (hbase : attributeBase o "append" X.env (eval o X.env) = eval o X.env := by rfl)
    (hfew : ((backTo cp (starEach [e] X.env)).all (fun x => !x.1) && (backToKw cp (keywordEach [] X.env)).all (fun x => x.1.isSome)
      && decide (([e] : List Expr).length + ([] : List Keyword).length + (if ([] : List Keyword).isEmpty then 0 else 1) < 30)) = true := by rfl)
    (hline : (apos.endLine == cp.line) = true := by rfl) (hs : starEach [e] X.env = (false, eval e X.env) :: starEach [] X.env := by rfl) (hplain : (backTo cp (starEach [] X.env)).any (·.1) = false := by rfl) :
    DE X (.Call (.Attribute o "append" apos) [e] [] cp) ρ μ .non (μ2.set n (.lst (xs ++ [p]))) := fun ad σ H Q R f => by
  refine wE.of (pe_bm PySem.F.plainAttrs_list PySem.F.slot_list_append PySem.F.type_list_append mt_append (pe_w o) (pa_w [e]) hbase hfew hline hs hplain) ?_
  refine ho ad σ H _ R fun ad1 v H1 s1 m1 r1 => ⟨r1.tyL m1 h1, ?_⟩
  refine DA.cons he DA.nil hs (ad ++ ad1) σ H1 _ (R.mono s1 m1) fun ad2 vs H2 s2 m2 r2 => ?_
  obtain ⟨u, e2, ru⟩ := r2.inv1
  obtain ⟨l, e3, hl3⟩ := (r1.mono s2).obj_inv
  obtain ⟨ws, hw, rw'⟩ := m2.mem n l _ hl3 h2
  refine ⟨l, ws, u, e3, e2, hw, by rw [← rw'.length]; exact hl, ?_⟩
  have s3 : Stp (ad ++ ad1 ++ ad2) [] H2 (upd H2 l (.lst (ws ++ [u]))) := Stp.write hl3
  have m3 := m2.write (o := .lst (ws ++ [u])) (m := .lst (xs ++ [p])) hl3 ⟨_, upd_same, (rw'.append (RpL.cons ru RpL.nil)).wr hl3⟩
  exact (Fin1.step s2 (Fin1.step s1 f)) [] _ _ s3 (by rw [AD.append_nil]; exact m3) Rp.non'
def MtA (X : Cx) (id : String) (p : PV) (ps : List PV) (μ : Mem) (r : PV) : Prop :=
  ∃ rr, MtR X id rr ∧ ∀ ad H v vs Q, Mst ad X.K H μ → Rp ad X.K H p v → RpL ad X.K H ps vs → Fin1 X ad H μ r Q → rr v vs H Q
/-- s.m(e, ..), s a text -/
theorem DE.bmS {id : String} {name : Str} {ps : List PV} {z : Str} {apos : Pos} (slot : Slot "str" name id) (hty : typeOf (.builtin id) = pure (.type "method_descriptor")) (ho : DE X o ρ μ (.str z) μ1) (ha : DA X (e :: es) ρ μ1 ps μ2) (h : MtA X id (.str z) ps μ2 r)
    (hbase : attributeBase o name X.env (eval o X.env) = eval o X.env := by rfl)
    (hfew : ((backTo cp (starEach (e :: es) X.env)).all (fun x => !x.1) && (backToKw cp (keywordEach [] X.env)).all (fun x => x.1.isSome)
      && decide ((e :: es).length + ([] : List Keyword).length + (if ([] : List Keyword).isEmpty then 0 else 1) < 30)) = true := by rfl)
    (hline : (apos.endLine == cp.line) = true := by rfl) (hs : starEach (e :: es) X.env = (false, eval e X.env) :: starEach es X.env := by rfl) (hplain : (backTo cp (starEach es X.env)).any (·.1) = false := by rfl) :
    DE X (.Call (.Attribute o name apos) (e :: es) [] cp) ρ μ r μ2 := fun ad σ H Q R f => by
  obtain ⟨rr, hm, hr⟩ := h
  refine wE.of (pe_bm PySem.F.plainAttrs_str slot hty hm (pe_w o) (pa_w _) hbase hfew hline hs hplain) ?_
  refine ho ad σ H _ R fun ad1 v H1 s1 m1 r1 => ⟨by rw [r1.str_inv]; rfl, ?_⟩
  exact ha (ad ++ ad1) σ H1 _ (R.mono s1 m1) fun ad2 vs H2 s2 m2 r2 => hr _ H2 v vs Q m2 (r1.mono s2) r2 (Fin1.step s2 (Fin1.step s1 f))
theorem ma_sindex {z y : Str} {i : Nat} {rest : List Nat} (h : Builtin.Str.occurrences z y 0 z.length 1 = i :: rest) : MtA X "str.index" (.str z) [.str y] μ (.int (i : Nat)) :=
  ⟨_, mt_sindex, fun ad H v vs Q m r rs f => by
    obtain ⟨u, e, ru⟩ := rs.inv1
    rw [e, r.str_inv, ru.str_inv]
    exact ⟨z, y, i, rest, rfl, rfl, h, f [] _ H Stp.refl (by rwa [AD.append_nil]) (Rp.int' _)⟩⟩
/-! ### equality of data -/
def vw (μ : Mem) : PV → PV
  | .obj k => match μ[k]? with
    | some (.lst xs) => .lst xs
    | _ => .obj k
  | p => p
mutual
def toD : PV → PyData
  | .bl b => .bool b
  | .int i => .int i
  | .str x => .str x
  | .tup xs => .tuple (toDL xs)
  | .lst xs => .list (toDL xs)
  | .scr xs => .list (toDL xs)
  | .wtp xs => .tuple (toDL xs)
  | _ => .none
def toDL : List PV → List PyData
  | [] => []
  | p :: ps => toD p :: toDL ps
end
mutual
def okD : PV → Bool
  | .tup xs => okDL xs
  | .lst xs => okDL xs
  | .scr xs => okDL xs
  | .wtp xs => okDL xs
  | .dct _ _ => false
  | .obj _ => false
  | .exc _ _ _ => false
  | .exm _ _ => false
  | _ => true
def okDL : List PV → Bool
  | [] => true
  | p :: ps => okD p && okDL ps
end
mutual
theorem Rp.dp {ad : AD} {H : Hp} : ∀ (p : PV) (v : V), okD p = true → Rp ad K H p v → Dp K H v (toD p)
  | .non, v, _, h => by rw [h.non_inv]; unfold toD; exact .non
  | .bl b, v, _, h => by rw [h.bl_inv]; unfold toD; exact .bl b
  | .int i, v, _, h => by rw [h.int_inv]; unfold toD; exact .int i
  | .str x, v, _, h => by rw [h.str_inv]; unfold toD; exact .str x
  | .tup xs, v, ho, h => by
    obtain ⟨a, vs, e, h1, h2⟩ := h.tup_inv
    rw [e]
    unfold toD
    exact .tup h1 (RpL.dp xs vs (by unfold okD at ho; exact ho) h2)
  | .lst xs, v, ho, h => by
    obtain ⟨a, vs, e, h1, h3, h2⟩ := h.lst_inv
    rw [e]
    unfold toD
    exact .lst (SqL.of h1) (RpL.dp xs vs (by unfold okD at ho; exact ho) h2)
  | .scr xs, v, ho, h => by
    unfold Rp at h
    obtain ⟨a, vs, e, h1, h2⟩ := h
    rw [e]
    unfold toD
    rcases h1 with ⟨⟨o, h1⟩, _⟩ | h1
    · exact .lst (.inl (.inr ⟨o, h1⟩)) (RpL.dp xs vs (by unfold okD at ho; exact ho) h2)
    · exact .lst (.inr h1) (RpL.dp xs vs (by unfold okD at ho; exact ho) h2)
  | .wtp xs, v, ho, h => by
    unfold Rp at h
    obtain ⟨a, vs, e, h1, h2⟩ := h
    rw [e]
    unfold toD
    exact .tup h1.sq (RpL.dp xs vs (by unfold okD at ho; exact ho) h2)
  | .dct _ _, v, ho, h => by unfold okD at ho; cases ho
  | .obj _, v, ho, h => by unfold okD at ho; cases ho
theorem RpL.dp {ad : AD} {H : Hp} : ∀ (ps : List PV) (vs : List V), okDL ps = true → RpL ad K H ps vs → DpAll K H vs (toDL ps)
  | [], vs, _, h => by unfold RpL at h; subst h; unfold toDL; exact .nil
  | p :: ps, vs, ho, h => by
    unfold RpL at h
    obtain ⟨v, r, e, h1, h2⟩ := h
    subst e
    unfold okDL at ho
    rw [Bool.and_eq_true] at ho
    unfold toDL
    exact .cons (Rp.dp p v ho.1 h1) (RpL.dp ps r ho.2 h2)
end
theorem Rp.dpv {ad : AD} {H : Hp} {v : V} (m : Mst ad K H μ) (ho : okD (vw μ p) = true) (h : Rp ad K H p v) : Dp K H v (toD (vw μ p)) := by
  cases p with
  | obj n =>
    obtain ⟨a, e, h1⟩ := h.obj_inv
    unfold vw at ho ⊢
    dsimp only at ho ⊢
    cases q : μ[n]? with
    | none => rw [q] at ho; cases ho
    | some u =>
      rw [q] at ho
      have hm := m.mem n a u h1 q
      cases u with
      | lst xs =>
        obtain ⟨vs, hv, r⟩ := hm
        rw [e]
        dsimp only at ho ⊢
        unfold toD
        exact .lst (SqL.of hv) (RpL.dp xs vs (by unfold okD at ho; exact ho) r)
      | _ => cases ho
  | _ => exact Rp.dp _ v ho h
theorem oa_neD (hu : X.A.units + 64 < cLine) (h1 : okD (vw μ p) = true) (h2 : okD (vw μ q) = true) (s1 : SeqAt.shaped (toD (vw μ p)) = true) (s2 : SeqAt.shaped (toD (vw μ q)) = true) : OpA X (compareOp .NotEq) p q μ (.bl (!PyData.eqv (toD (vw μ p)) (toD (vw μ q)))) :=
  ⟨_, op_neD hu, fun ad H vx vy Q m rx ry f => ⟨_, _, rx.dpv m h1, ry.dpv m h2, s1, s2, f [] _ H Stp.refl (by rwa [AD.append_nil]) (Rp.bl' _)⟩⟩
theorem oa_inS {x y : Str} : OpA X (compareOp .In) (.str x) (.str y) μ (.bl (!(Builtin.Str.occurrences y x 0 y.length 1).isEmpty)) :=
  ⟨_, op_in_str, fun ad H vx vy Q m rx ry f => ⟨x, y, rx.str_inv, ry.str_inv, f [] _ H Stp.refl (by rwa [AD.append_nil]) (Rp.bl' _)⟩⟩

/-! ### dicts that are only read -/
def keyPV : Key → PV
  | .inl i => .int i
  | .inr x => .str x
theorem Rp.key_inv {ad : AD} {H : Hp} {v : V} {kk : Key} (h : Rp ad K H (keyPV kk) v) : v = kV kk := by
  cases kk with
  | inl i => exact h.int_inv
  | inr z => exact h.str_inv
def lookD : List Key → List PV → Key → Option PV
  | k :: ks, v :: vs, q => if k = q then some v else lookD ks vs q
  | _, _, _ => none
theorem lookD_rp {ad : AD} {H : Hp} : ∀ {ks : List Key} {ps : List PV} {vs : List V} {q : Key} {r : PV}, RpL ad K H ps vs → ks.length = vs.length → lookD ks ps q = some r → ∃ v, valV (ks.zip vs) q = some v ∧ Rp ad K H r v
  | [], ps, vs, q, r, _, _, h => by unfold lookD at h; cases h
  | k :: ks, [], vs, q, r, _, _, h => by unfold lookD at h; cases h
  | k :: ks, p :: ps, vs, q, r, hr, hl, h => by
    unfold RpL at hr
    obtain ⟨v, w, e, h1, h2⟩ := hr
    subst e
    unfold lookD at h
    show ∃ u, valV ((k, v) :: ks.zip w) q = some u ∧ _
    by_cases hk : k = q
    · rw [if_pos hk] at h
      cases h
      exact ⟨v, valV_pos hk, h1⟩
    · rw [if_neg hk] at h
      rw [valV_neg hk]
      exact lookD_rp h2 (by simpa using hl) h
theorem DE.dget {ks : List Key} {vs : List PV} {kk : Key} (cx : CxD X P w K mg base N sc k) (ho : DE X o ρ μ (.dct ks vs) μ1) (hi : DE X e ρ μ1 (keyPV kk) μ2) (h : lookD ks vs kk = some r) (hs : NoSl e := by exact fun _ _ => rfl) : DE X (.Subscript o e pos) ρ μ r μ2 := fun ad σ H Q R f => by
  refine wE.of (pe_dget (hu_of cx.room) (pe_w o) (pe_w e) hs) (ho ad σ H _ R fun ad1 v H1 s1 m1 r1 => hi (ad ++ ad1) σ H1 _ (R.mono s1 m1) fun ad2 u H2 s2 m2 r2 => ?_)
  have r1' := r1.mono s2
  unfold Rp at r1'
  obtain ⟨l, ws, e1, ⟨h1, _⟩, hl, rl⟩ := r1'
  obtain ⟨z, hz, rz⟩ := lookD_rp rl hl h
  refine ⟨l, z, e1, ?_, (Fin1.step s2 (Fin1.step s1 f)) [] z H2 Stp.refl (by rwa [AD.append_nil]) (by rwa [AD.append_nil])⟩
  rw [r2.key_inv, ← hz]
  exact DGet.k h1
def DPs (X : Cx) (pos : Pos) (keys : List (Option Expr)) (values : List Expr) (ρ : Env) (μ : Mem) (ks : List Key) (ps : List PV) (μ' : Mem) : Prop :=
  ∃ trs, PPs X pos keys values trs ∧ ∀ ad σ H (Q : List (V × V) → Hp → Prop), Rst ad X.K H σ ρ μ →
    (∀ ad2 vs H', Stp ad ad2 H H' → Mst (ad ++ ad2) X.K H' μ' → ks.length = vs.length → RpL (ad ++ ad2) X.K H' ps vs → Q ((ks.zip vs).map fun kv => (kV kv.1, kv.2)) H') → tPairs trs σ H Q
theorem DPs.nil : DPs X pos [] [] ρ μ [] [] μ := ⟨[], pps_nil, fun ad σ H Q R f => f [] [] H Stp.refl R.nil rfl RpL.nil⟩
theorem DPs.cons {kk : Key} {keys : List (Option Expr)} {values : List Expr} {ks : List Key} {ps : List PV} (hk : DE X a ρ μ (keyPV kk) μ1) (hv : DE X b ρ μ1 p μ2) (h : DPs X pos keys values ρ μ2 ks ps μ3) : DPs X pos (some a :: keys) (b :: values) ρ μ (kk :: ks) (p :: ps) μ3 := by
  obtain ⟨trs, hp, hr⟩ := h
  refine ⟨_, pps_cons (pe_w a) (pe_w b) hp, fun ad σ H Q R f => ?_⟩
  refine hk ad σ H _ R fun ad1 v H1 s1 m1 r1 => hv (ad ++ ad1) σ H1 _ (R.mono s1 m1) fun ad2 u H2 s2 m2 r2 => ?_
  refine hr _ σ H2 _ ((R.mono s1 m1).mono s2 m2) fun ad3 vs H3 s3 m3 hl r3 => ?_
  have := f (ad1 ++ (ad2 ++ ad3)) (u :: vs) H3 (s1.trans (s2.trans s3)) (by rw [← AD.append_assoc, ← AD.append_assoc]; exact m3) (by simp [hl]) (by rw [← AD.append_assoc, ← AD.append_assoc]; exact RpL.cons (r2.mono s3) r3)
  rw [(r1).key_inv]
  exact this
theorem mergeK_nodup : ∀ (more kvs : List (Key × V)), ((kvs ++ more).map (·.1)).Nodup → mergeK kvs more = kvs ++ more
  | [], kvs, _ => by simp [mergeK]
  | kv :: more, kvs, h => by
    show mergeK (putK kvs kv.1 kv.2) more = _
    have hn : valV kvs kv.1 = none := by
      have : kv.1 ∉ kvs.map (·.1) := by
        rw [List.map_append, List.nodup_append] at h
        intro hm
        exact h.2.2 kv.1 hm kv.1 (by simp) rfl
      unfold valV
      rw [Option.map_eq_none_iff, List.find?_eq_none]
      intro y hy
      simp only [decide_eq_true_eq]
      intro e
      exact this (List.mem_map.mpr ⟨y, hy, e⟩)
    rw [putK_new _ hn]
    rw [mergeK_nodup more (kvs ++ [(kv.1, kv.2)]) (by simpa using h)]
    simp
theorem DE.disp {keys : List (Option Expr)} {values : List Expr} {ks : List Key} {ps : List PV} (h : DPs X pos keys values ρ μ ks ps μ') (hn : ks.Nodup := by decide +kernel) (hl : ks.length ≤ 15 := by exact Nat.le_of_ble_eq_true rfl) (hall : keys.all (·.isSome) = true := by rfl) (hkl : keys.length = values.length := by rfl) (h0 : keys ≠ [] := by exact List.cons_ne_nil _ _) (h15 : keys.length ≤ 15 := by exact Nat.le_of_ble_eq_true rfl) :
    DE X (.Dict keys values pos) ρ μ (.dct ks ps) μ' := fun ad σ H Q R f => by
  obtain ⟨trs, hp, hr⟩ := h
  refine wE.of (pe_disp hp hall hkl h0 h15) fun l hl0 => ?_
  refine hr _ σ _ _ (R.aside hl0) fun ad2 vs H2 s2 m2 hlen r2 => ?_
  rw [AD.aside_app] at m2 r2
  have h2 : H2 l = some (.dK []) := s2.asideK (R.aside hl0).m upd_same
  have hm : mergeK [] (ks.zip vs) = ks.zip vs := by
    have := mergeK_nodup (ks.zip vs) [] (by
      rw [List.nil_append, show (ks.zip vs).map (·.1) = ks from List.map_fst_zip (by omega)]
      exact hn)
    simpa using this
  refine ⟨h2, ks.zip vs, rfl, by rw [List.length_zip]; omega, ?_⟩
  rw [hm]
  refine f ad2 _ _ (Stp.aside hl0 s2) m2.asideW.back ?_
  unfold Rp
  refine ⟨l, vs, rfl, ⟨upd_same, fun z => ?_⟩, hlen, r2.asideW.back⟩
  have := m2.nd
  exact (List.nodup_cons.mp this).1 z

/-! ### list comprehensions -/
end
end L3

namespace L3
open PySem PySem.Spec L2
section
variable {X : Cx} {P : Program} {w : World} {K : PySem.W.Frag} {mg : Str → Option Value} {base : Heap} {N : List Str} {sc scope : Scope} {k j : Nat} {x : Str} {A : ASp} {ρ ρ' : Env} {μ μ1 μ2 μ3 μ' : Mem} {p q r : PV} {e a b c o tg : Expr} {es : List Expr} {pos cp : Pos} {D : AEnds} {kb : Bool} {st : Stmt} {sts : List Stmt}

/-! ### a block's context -/
theorem relabel_look {env : PySem.Env} {x : Str} {kd : NameKind} : ∀ {names : List (Str × NameKind)}, names.lookup x = some kd →
    (names.map fun (n, k) => if (k == NameKind.free && env.scope.kind == .function && env.kindOf n == some .cell) then (n, NameKind.cell) else (n, k)).lookup x = some kd ∨
    (kd = .free ∧ (names.map fun (n, k) => if (k == NameKind.free && env.scope.kind == .function && env.kindOf n == some .cell) then (n, NameKind.cell) else (n, k)).lookup x = some .cell)
  | [], h => by simp at h
  | (n, k) :: r, h => by
    have ih := @relabel_look env x kd r
    show List.lookup x ((if (k == NameKind.free && env.scope.kind == .function && env.kindOf n == some .cell) = true then (n, NameKind.cell) else (n, k)) :: _) = _ ∨ (_ ∧ List.lookup x ((if (k == NameKind.free && env.scope.kind == .function && env.kindOf n == some .cell) = true then (n, NameKind.cell) else (n, k)) :: _) = _)
    cases hx : x == n with
    | true =>
      simp only [List.lookup_cons, hx] at h
      cases h
      by_cases hc : (kd == NameKind.free && env.scope.kind == .function && env.kindOf n == some .cell) = true
      · rw [if_pos hc]
        refine .inr ⟨?_, by simp only [List.lookup_cons, hx]⟩
        rw [Bool.and_eq_true, Bool.and_eq_true] at hc
        exact eq_of_beq hc.1.1
      · rw [if_neg hc]
        exact .inl (by simp only [List.lookup_cons, hx])
    | false =>
      simp only [List.lookup_cons, hx] at h
      by_cases hc : (k == NameKind.free && env.scope.kind == .function && env.kindOf n == some .cell) = true
      · rw [if_pos hc]; simp only [List.lookup_cons, hx]; exact ih h
      · rw [if_neg hc]; simp only [List.lookup_cons, hx]; exact ih h
theorem CxD.blk (cx : CxD X P w K mg base N sc k) (s : Shared) (H : Hp) (C : Addr) (cl : List (Str × Addr)) (fp : List Addr) : CxD (X.blk s H scope (compEnvC scope cl C X.env) fp) P w K mg base N scope k where
  eP := cx.eP
  ew := cx.ew
  eK := cx.eK
  emg := cx.emg
  eb := cx.eb
  eN := cx.eN
  vis := fun y hy => by
    show Vis (relabel scope X.env) y
    rcases vis_of hy with z | z | z
    · rcases relabel_look (env := X.env) z with u | ⟨u, _⟩
      · exact .inl u
      · cases u
    · rcases relabel_look (env := X.env) z with u | ⟨u, _⟩
      · exact .inr (.inl u)
      · cases u
    · rcases relabel_look (env := X.env) z with u | ⟨_, u⟩
      · exact .inr (.inr u)
      · exact .inr (.inl u)
  sto := fun y hy => by
    show Loc (relabel scope X.env) y ∧ ((scope.names.lookup y == some .cell) = true ∨ (relabel scope X.env).names.lookup y = some .local)
    rcases loc_of hy with z | z
    · rcases relabel_look (env := X.env) z with u | ⟨u, _⟩
      · exact ⟨.inl u, .inr u⟩
      · cases u
    · rcases relabel_look (env := X.env) z with u | ⟨u, _⟩
      · exact ⟨.inr u, .inl (by rw [z]; rfl)⟩
      · cases u
  loc := fun y hy => by
    rcases relabel_look (env := X.env) hy with u | ⟨u, _⟩
    · exact u
    · cases u
  gl := fun y hy => by
    show (relabel scope X.env).names.lookup y = some .globalImplicit
    rcases relabel_look (env := X.env) hy with u | ⟨u, _⟩
    · exact u
    · cases u
  calm := cx.calm
  room := cx.room

/-! ### targets in a block -/
def setA (σ : L2.St) : List Nat → List V → L2.St
  | i :: is, v :: vs => setA (σ.set i (some v)) is vs
  | _, _ => σ
def setE (ρ : Env) : List Nat → List PV → Env
  | i :: is, v :: vs => setE (ρ.set i (some v)) is vs
  | _, _ => ρ
theorem RpE.setA {ad : AD} {H : Hp} : ∀ (is : List Nat) {ps : List PV} {vs : List V} {ρ : Env} {σ : L2.St}, RpE ad K H ρ σ → RpL ad K H ps vs → RpE ad K H (setE ρ is ps) (L3.setA σ is vs)
  | [], ps, vs, ρ, σ, h, r => by unfold L3.setA setE; exact h
  | i :: is, [], vs, ρ, σ, h, r => by
    unfold RpL at r
    subst r
    unfold L3.setA setE
    exact h
  | i :: is, p :: ps, vs, ρ, σ, h, r => by
    unfold RpL at r
    obtain ⟨v, w, e, r1, r2⟩ := r
    subst e
    unfold L3.setA setE
    exact RpE.setA is (h.set i r1) r2
theorem wipe_set {σ : L2.St} {i : Nat} {u : Option V} : ∀ {vs : List Nat}, i ∈ vs → wipe (σ.set i u) vs = wipe σ vs
  | [], h => nomatch h
  | v :: vs, h => by
    unfold wipe
    by_cases hv : i ∈ vs
    · rw [wipe_set hv]
    · have hiv : i = v := by
        rcases List.mem_cons.mp h with z | z
        · exact z
        · exact absurd z hv
      subst hiv
      rw [wipe_comm hv, List.set_set]
where
  wipe_comm {σ : L2.St} {i : Nat} {u : Option V} : ∀ {vs : List Nat}, i ∉ vs → wipe (σ.set i u) vs = (wipe σ vs).set i u
  | [], _ => rfl
  | v :: vs, h => by
    unfold wipe
    have h1 : i ≠ v := fun z => h (by rw [z]; exact List.mem_cons_self)
    have h2 : i ∉ vs := fun z => h (List.mem_cons_of_mem _ z)
    rw [wipe_comm h2, List.set_comm _ _ h1]
theorem wipe_setA : ∀ {is : List Nat} {us : List V} {σ : L2.St} {vs : List Nat}, (∀ i ∈ is, i ∈ vs) → wipe (setA σ is us) vs = wipe σ vs
  | [], us, σ, vs, _ => by unfold setA; rfl
  | i :: is, [], σ, vs, _ => by unfold setA; rfl
  | i :: is, u :: us, σ, vs, h => by
    unfold setA
    rw [wipe_setA fun j hj => h j (List.mem_cons_of_mem _ hj)]
    exact wipe_set (h i List.mem_cons_self)
def wipeE (ρ : Env) : List Nat → Env
  | [] => ρ
  | v :: vs => (wipeE ρ vs).set v none
theorem RpE.wipe {ad : AD} {H : Hp} {σ : L2.St} (h : RpE ad K H ρ σ) : ∀ vs : List Nat, RpE ad K H (wipeE ρ vs) (L2.wipe σ vs)
  | [] => h
  | v :: vs => by
    have ih := RpE.wipe h vs
    unfold wipeE L2.wipe
    refine ⟨by rw [List.length_set, List.length_set]; exact ih.len, fun i p e => ?_⟩
    rw [List.getElem?_set] at e ⊢
    by_cases hv : v = i
    · subst hv
      rw [if_pos rfl] at e
      split at e <;> cases e
    · rw [if_neg hv] at e ⊢
      exact ih.get i p e
theorem wipe_idem {σ : L2.St} : ∀ (vs us : List Nat), (∀ v ∈ vs, v ∈ us) → L2.wipe (L2.wipe σ vs) us = L2.wipe σ us
  | [], us, _ => rfl
  | v :: vs, us, h => by
    show L2.wipe ((L2.wipe σ vs).set v none) us = _
    rw [wipe_set (h v List.mem_cons_self)]
    exact wipe_idem vs us fun i hi => h i (List.mem_cons_of_mem _ hi)
/-- a target of plain names in any block of that scope -/
structure Tgt (P : Program) (w : World) (K : PySem.W.Frag) (mg : Str → Option Value) (base : Heap) (N : List Str) (scope : Scope) (k : Nat) (tg : Expr) (is : List Nat) (f : PV → Option (List PV)) : Prop where
  ex : ∃ g, (∀ X', CxD X' P w K mg base N scope k → PG X' tg g) ∧ ∀ ad H p qs v σ Q, f p = some qs → Rp ad K H p v → (∀ us, RpL ad K H qs us → Q (setA σ is us) H) → g v σ H Q
theorem CxD.tgt (cx : CxD X P w K mg base N sc k) (nd : N.Nodup) (i : Nat) (hN : N[i]? = some x) (hs : stoB sc x = true) : ∀ {pos : Pos}, PG X (.Name x pos) (gName i) :=
  fun {pos} => pg_name (by rw [cx.eN]; exact nd) (by rw [cx.eN]; exact hN) (cx.sto x hs).1 (cx.sto x hs).2
theorem Tgt.name (nd : N.Nodup) (i : Nat) (hN : N[i]? = some x) (hs : stoB scope x = true) : Tgt P w K mg base N scope k (.Name x pos) [i] (fun p => some [p]) :=
  ⟨_, fun X' cx => cx.tgt nd i hN hs, fun ad H p qs v σ Q e r h => by
    cases e
    exact h [v] (RpL.cons r RpL.nil)⟩
def asT2 : PV → Option (List PV)
  | .tup [a, b] => some [a, b]
  | _ => none
theorem Tgt.two {y : Str} {px py : Pos} {kk : Nat} (nd : N.Nodup) (i j : Nat) (hi : N[i]? = some x) (hx : stoB scope x = true) (hj : N[j]? = some y) (hy : stoB scope y = true) : Tgt P w K mg base N scope k (.Tuple [.Name x px, .Name y py] kk pos) [i, j] asT2 := by
  refine ⟨gTup K 2 (gCons (gName i) (gCons (gName j) gNil)), fun X' cx => ?_, fun ad H p qs v σ Q e r h => ?_⟩
  · have := pg_tup (X := X') (pos := pos) (k := kk) (n := 2) cx.calm (pgs_cons (cx.tgt nd i hi hx (pos := px)) (pgs_cons (cx.tgt nd j hj hy (pos := py)) pgs_nil))
    rw [cx.eK] at this
    exact this
  cases p with
  | tup xs =>
    match xs, e with
    | [p1, p2], e =>
      cases e
      obtain ⟨l, vs, e1, h1, r1⟩ := r.tup_inv
      obtain ⟨v1, v2, e2, r2, r3⟩ := r1.inv2
      subst e1 e2
      exact ⟨l, [v1, v2], rfl, h1, rfl, v1, [v2], rfl, v2, [], rfl, rfl, h [v1, v2] (RpL.cons r2 (RpL.cons r3 RpL.nil))⟩
  | _ => cases e

/-! ### the rule -/
/-- the tests of a clause, all at once -/
def wTs (X : Cx) (ifs : List Expr) : TT := fun σ H Q => ∀ pins s, Inv X pins σ H s →
  wpAny (model X.prog X.w) X.A (forIn ifs true fun c r => if r = true then do let ok ← isTrue c X.env (eval c X.env); pure (ForInStep.yield ok) else pure (ForInStep.yield r)) (TP X pins σ Q) X.xe s
def WTs (X : Cx) (ifs : List Expr) (ρ : Env) (μ : Mem) (Qa : Bool → Mem → Prop) : Prop :=
  ∀ ad σ H (Q : Bool → Hp → Prop), Rst ad X.K H σ ρ μ → (∀ ad2 b H' μ', Stp ad ad2 H H' → Mst (ad ++ ad2) X.K H' μ' → Qa b μ' → Q b H') → wTs X ifs σ H Q
theorem wTs.of {ifs : List Expr} {t : TT} {σ : L2.St} {H : Hp} {Q : Bool → Hp → Prop} (h : PTs X ifs t) (q : t σ H Q) : wTs X ifs σ H Q := fun pins s I => h.run pins s σ H Q I q
theorem WTs.nil {Qa : Bool → Mem → Prop} (h : Qa true μ) : WTs X [] ρ μ Qa := fun ad σ H Q R f => wTs.of pts_nil (f [] true H μ Stp.refl R.nil h)
theorem WTs.one {Qa : Bool → Mem → Prop} (h : WT X c ρ μ Qa) : WTs X [c] ρ μ Qa := fun ad σ H Q R f => wTs.of (pts_one (pt_w c)) (h ad σ H Q R f)
/-- the reading of a comprehension -/
theorem comp_rd {elt iter : Expr} {ifs : List Expr} {own : List (Str × Nat)} {is : List Nat} {ff : PV → Option (List PV)} {xs : List PV} {M : Mem → Prop} {Qa : PV → Mem → Prop} (cx : CxF X P w K mg base N sc k)
    (hi : DI X tg iter ρ μ xs M μ1) (ok : blkC N sc scope own = true) (tgt : Tgt P w K mg base N scope k tg is ff) (his : ∀ i ∈ is, i ∈ own.map (·.2))
    (Iv : Nat → List PV → Mem → Prop) (h0 : Iv 0 [] μ1) (hM : ∀ i ys m, Iv i ys m → M m)
    (turn : ∀ (i : Nat) p ys m, xs[i]? = some p → Iv i ys m → ∃ qs, ff p = some qs ∧ ∀ X', CxD X' P w K mg base N scope k →
      WTs X' ifs (setE (wipeE ρ (own.map (·.2))) is qs) m fun b m2 => if b = true then (∀ X', CxD X' P w K mg base N scope k → WE X' elt (setE (wipeE ρ (own.map (·.2))) is qs) m2 fun y m3 => ys.length < sizeLine ∧ Iv (i + 1) (ys ++ [y]) m3) else Iv (i + 1) ys m2)
    (fin : ∀ ys m, Iv xs.length ys m → Qa (.lst ys) m) :
    BlkOk X.N X.env.scope scope own ∧ ∃ (wi : TI) (g : TG) (tt : TT) (te : TE), PI X tg iter wi ∧
      (∀ (s0 : Shared) (H0 : Hp) (C : Addr) (cl : List (Str × Addr)) (fp : List Addr), PG (X.blk s0 H0 scope (compEnvC scope cl C X.env) fp) tg g) ∧
      (∀ (s0 : Shared) (H0 : Hp) (C : Addr) (cl : List (Str × Addr)) (fp : List Addr), PTs (X.blk s0 H0 scope (compEnvC scope cl C X.env) fp) ifs tt) ∧
      (∀ (s0 : Shared) (H0 : Hp) (C : Addr) (cl : List (Str × Addr)) (fp : List Addr), PE (X.blk s0 H0 scope (compEnvC scope cl C X.env) fp) elt te) ∧
      ∀ ad σ H (Q : VK), Rst ad X.K H σ ρ μ → (∀ ad2 v H' p μ', Stp ad ad2 H H' → Mst (ad ++ ad2) X.K H' μ' → Rp (ad ++ ad2) X.K H' p v → Qa p μ' → Q v H') → tLc wi g tt te (own.map (·.2)) σ H Q := by
  obtain ⟨wi, hpi, hwi⟩ := hi
  obtain ⟨g, hg, hgr⟩ := tgt.ex
  have hb : BlkOk X.N X.env.scope scope own := by
    rw [cx.eN, cx.esc]
    exact blkOk_by ok
  refine ⟨hb, wi, g, (fun σ' H' Q' => ∀ (s0 : Shared) (H0 : Hp) (C : Addr) (cl : List (Str × Addr)) (fp : List Addr), wTs (X.blk s0 H0 scope (compEnvC scope cl C X.env) fp) ifs σ' H' Q'),
    (fun σ' H' Q' => ∀ (s0 : Shared) (H0 : Hp) (C : Addr) (cl : List (Str × Addr)) (fp : List Addr), wE (X.blk s0 H0 scope (compEnvC scope cl C X.env) fp) elt σ' H' Q'), hpi,
    (fun s0 H0 C cl fp => hg _ (cx.toCxD.blk s0 H0 C cl fp)), (fun s0 H0 C cl fp => ⟨fun pins s σ' H' Q' I h => h s0 H0 C cl fp pins s I⟩), (fun s0 H0 C cl fp => ⟨fun pins s σ' H' Q' I h => (h s0 H0 C cl fp).go pins s I⟩), fun ad σ H Q R f => ?_⟩
  refine hwi ad σ H _ R fun ad1 J H1 s1 m1 wk => ?_
  intro l hl
  -- the list in the making: at l, tracked, set aside
  let G : Nat → Hp → Prop := fun i H' => ∃ adx m ys vs, (∀ o', Stp (ad ++ ad1) adx H1 (upd H' l o')) ∧ Mst ((ad ++ ad1 ++ adx).aside l) X.K H' m ∧ H' l = some (.lst vs) ∧
    Keep X.K (ad ++ ad1) H1 ((ad ++ ad1 ++ adx).aside l) H' ∧ RpL ((ad ++ ad1 ++ adx).aside l) X.K H' ys vs ∧ Iv i ys m
  have st0 : ∀ o', Stp (ad ++ ad1) [] H1 (upd (upd H1 l (.lst [])) l o') := fun o' => by rw [upd_upd]; exact Stp.data hl
  refine ⟨fun i mm H' => mm = xs.length - i ∧ i ≤ xs.length ∧ G i H', ⟨_, rfl, Nat.zero_le _, [], μ1, [], [], st0, by rw [AD.append_nil]; exact m1.aside hl, upd_same, by rw [AD.append_nil]; exact fun p v r => r.aside hl, RpL.nil, h0⟩, ?_⟩
  rintro i mm H' ⟨rfl, hle, adx, m, ys, vs, s2, m2, hl2, kp, ry, iv⟩
  obtain ⟨w1, w2, w3⟩ := wk _ H' m kp m2 (hM i ys m iv)
  by_cases hlt : i < xs.length
  · refine .inr ⟨w1 i hlt, G (i + 1), fun H3 g3 => ⟨xs.length - (i + 1), by omega, rfl, hlt, g3⟩, fun x H2 y => ?_⟩
    have e : xs[i]? = some xs[i] := by simp [hlt]
    obtain ⟨s3, m3, r3, kp3⟩ := w3 i _ x H2 e y
    have hl3 : H2 l = some (.lst vs) := s3.asideK m2 hl2
    have ry3 := kp3.all _ _ ry
    have E2 : RpE ((ad ++ ad1 ++ adx).aside l) X.K H2 ρ σ := ⟨R.e.len, fun j p ej => by
      obtain ⟨v, e1, r1⟩ := R.e.get j p ej
      exact ⟨v, e1, kp3 _ _ (kp _ _ (r1.mono s1))⟩⟩
    rw [cx.eK] at r3
    obtain ⟨qs, hq, ht⟩ := turn i _ ys m e iv
    refine hgr _ H2 _ qs x _ _ hq r3 fun us ru => ?_
    rw [← cx.eK] at ru
    have hw : wipe (setA (wipe σ (own.map (·.2))) is us) (own.map (·.2)) = wipe σ (own.map (·.2)) := by
      rw [wipe_setA his, wipe_idem _ _ fun _ h => h]
    refine ⟨hw, ?_⟩
    have R3 : Rst ((ad ++ ad1 ++ adx).aside l) X.K H2 (setA (wipe σ (own.map (·.2))) is us) (setE (wipeE ρ (own.map (·.2))) is qs) m := ⟨m3, RpE.setA is (E2.wipe _) ru⟩
    have st3 : ∀ {ad4 : List Addr} {H4 : Hp}, Stp ((ad ++ ad1 ++ adx).aside l) ad4 H2 H4 → ∀ o', Stp (ad ++ ad1) (adx ++ ad4) H1 (upd H4 l o') := fun {ad4 H4} s4 o' => by
      have s34 : Stp ((ad ++ ad1 ++ adx).aside l) ad4 H' H4 := by
        have z := s3.trans (by rw [AD.append_nil]; exact s4)
        simpa using z
      have a := s2 (.lst vs)
      refine ⟨fun c u hc hn => ?_, fun c u hc => ?_, fun c hc => ?_⟩
      · have ne : c ≠ l := ne_of_none hc hl
        rw [upd_ne ne]
        have h1 := a.keep c u hc hn
        rw [upd_ne ne] at h1
        refine s34.keep c u h1 fun hm => ?_
        rcases AD.os_append (show c ∈ (ad ++ ad1 ++ adx).os from hm) with z | z
        · exact hn z
        · have := a.new c z
          rw [this] at hc
          cases hc
      · have ne : c ≠ l := ne_of_none hc hl
        obtain ⟨u1, h1⟩ := a.there c u hc
        rw [upd_ne ne] at h1
        obtain ⟨u2, h2⟩ := s34.there c u1 h1
        exact ⟨u2, by rw [upd_ne ne]; exact h2⟩
      · rcases List.mem_append.mp hc with z | z
        · exact a.new c z
        · have hn := s34.new c z
          cases q : H1 c with
          | none => rfl
          | some u =>
            have ne : c ≠ l := ne_of_none q hl
            obtain ⟨u1, h1⟩ := a.there c u q
            rw [upd_ne ne, hn] at h1
            cases h1
    -- the tests, then the element: in every block of that scope
    intro s0 H0 C cl fp
    refine ht _ (cx.toCxD.blk s0 H0 C cl fp) _ _ H2 _ R3 fun ad4 b H4 m4 s4 M4 q4 => ?_
    have hl4 : H4 l = some (.lst vs) := s4.asideK m3 hl3
    have ry4 := RpL.mono (K := X.K) s4 _ _ ry3
    have R4 := R3.mono s4 M4
    have kp4 : Keep X.K (ad ++ ad1) H1 ((ad ++ ad1 ++ adx).aside l ++ ad4) H4 := (kp.trans kp3).trans s4.kept
    cases b with
    | false =>
      rw [if_neg (by decide)] at q4 ⊢
      exact ⟨adx ++ ad4, m4, ys, vs, st3 s4, by rw [← AD.append_assoc]; exact M4, hl4, by rw [← AD.append_assoc]; exact kp4, by rw [← AD.append_assoc]; exact ry4, q4⟩
    | true =>
      rw [if_pos rfl] at q4 ⊢
      intro s0' H0' C' cl' fp'
      refine q4 _ (cx.toCxD.blk s0' H0' C' cl' fp') _ _ H4 _ R4 fun ad5 u H5 y m5 s5 M5 r5 q5 => ?_
      have hl5 : H5 l = some (.lst vs) := Stp.asideK (ad := ad ++ ad1 ++ adx ++ ad4) s5 M4 hl4
      have ry5 := RpL.mono (K := X.K) s5 _ _ ry4
      refine ⟨vs, hl5, by rw [← ry.length]; exact q5.1, ?_⟩
      have ea : (ad ++ ad1 ++ adx).aside l ++ ad4 ++ ad5 = (ad ++ ad1 ++ (adx ++ (ad4 ++ ad5))).aside l := by
        rw [AD.aside_app, AD.aside_app, AD.append_assoc, AD.append_assoc]
      rw [ea] at M5 r5 ry5
      have kp5 : Keep X.K (ad ++ ad1) H1 ((ad ++ ad1 ++ (adx ++ (ad4 ++ ad5))).aside l) H5 := by
        have := kp4.trans s5.kept
        rwa [ea] at this
      refine ⟨adx ++ (ad4 ++ ad5), m5, ys ++ [y], vs ++ [u], fun o' => ?_, M5.asideW, upd_same, kp5.asideW, (ry5.append (RpL.cons r5 RpL.nil)).asideW, q5.2⟩
      rw [upd_upd]
      exact st3 (s4.trans s5) o'
  · have e : i = xs.length := by omega
    subst e
    have sl := s2 (.lst vs)
    have eu : upd H' l (.lst vs) = H' := by
      funext c
      by_cases hc : c = l
      · subst hc; rw [upd_same]; exact hl2.symm
      · exact upd_ne hc
    rw [eu] at sl
    refine .inl ⟨w2, f (ad1 ++ adx) (.ref l) H' (.lst ys) m (s1.trans sl) (by rw [← AD.append_assoc]; exact m2.back) ?_ (fin ys m iv)⟩
    rw [← AD.append_assoc]
    unfold Rp
    exact ⟨l, vs, rfl, ⟨hl2, fun z => (List.nodup_cons.mp m2.nd).1 z⟩, ry.back⟩
/-- [elt for tg in iter if ..] -/
theorem WE.comp {elt iter : Expr} {ifs : List Expr} {own : List (Str × Nat)} {is : List Nat} {ff : PV → Option (List PV)} {xs : List PV} {M : Mem → Prop} {Qa : PV → Mem → Prop} (cx : CxF X P w K mg base N sc k)
    (hi : DI X tg iter ρ μ xs M μ1) (ok : blkC N sc scope own = true) (tgt : Tgt P w K mg base N scope k tg is ff) (his : ∀ i ∈ is, i ∈ own.map (·.2))
    (Iv : Nat → List PV → Mem → Prop) (h0 : Iv 0 [] μ1) (hM : ∀ i ys m, Iv i ys m → M m)
    (turn : ∀ (i : Nat) p ys m, xs[i]? = some p → Iv i ys m → ∃ qs, ff p = some qs ∧ ∀ X', CxD X' P w K mg base N scope k →
      WTs X' ifs (setE (wipeE ρ (own.map (·.2))) is qs) m fun b m2 => if b = true then (∀ X', CxD X' P w K mg base N scope k → WE X' elt (setE (wipeE ρ (own.map (·.2))) is qs) m2 fun y m3 => ys.length < sizeLine ∧ Iv (i + 1) (ys ++ [y]) m3) else Iv (i + 1) ys m2)
    (fin : ∀ ys m, Iv xs.length ys m → Qa (.lst ys) m)
    (hs : ∀ x, foldedSetIterable iter X.env x = pure x := by intro _; rfl) : WE X (.ListComp elt [⟨tg, iter, ifs, 0⟩] scope pos) ρ μ Qa := fun ad σ H Q R f => by
  obtain ⟨hb, wi, g, tt, te, hpi, hg, ht, he, rd⟩ := comp_rd (Qa := Qa) cx hi ok tgt his Iv h0 hM turn fin
  exact wE.of (pe_lc cx.calm cx.nd' hpi hb hg ht he hs) (rd ad σ H Q R f)
/-- name = [elt for tg in iter if ..], the name a plain local -/
theorem CxF.setLc {elt iter : Expr} {ifs : List Expr} {own : List (Str × Nat)} {is : List Nat} {ff : PV → Option (List PV)} {xs : List PV} {M : Mem → Prop} {y : Str} {py spos : Pos} (i : Nat) (cx : CxF X P w K mg base N sc k)
    (hy : N[i]? = some y) (hyl : sc.names.lookup y = some .local) (hl : (py.line == pos.line) = true) (hsc : (scope.names.any fun (n, k) => n == y && (k == .local || k == .cell)) = false)
    (hi : DI X tg iter ρ μ xs M μ1) (ok : blkC N sc scope own = true) (tgt : Tgt P w K mg base N scope k tg is ff) (his : ∀ i ∈ is, i ∈ own.map (·.2))
    (Iv : Nat → List PV → Mem → Prop) (h0 : Iv 0 [] μ1) (hM : ∀ i ys m, Iv i ys m → M m)
    (turn : ∀ (i : Nat) p ys m, xs[i]? = some p → Iv i ys m → ∃ qs, ff p = some qs ∧ ∀ X', CxD X' P w K mg base N scope k →
      WTs X' ifs (setE (wipeE ρ (own.map (·.2))) is qs) m fun b m2 => if b = true then (∀ X', CxD X' P w K mg base N scope k → WE X' elt (setE (wipeE ρ (own.map (·.2))) is qs) m2 fun y m3 => ys.length < sizeLine ∧ Iv (i + 1) (ys ++ [y]) m3) else Iv (i + 1) ys m2)
    (fin : ∀ ys m, Iv xs.length ys m → DSs X sts (ρ.set i (some (.lst ys))) m D)
    (hs : ∀ x, foldedSetIterable iter X.env x = pure x := by intro _; rfl) : DSs X (.Assign [.Name y py] (.ListComp elt [⟨tg, iter, ifs, 0⟩] scope pos) spos :: sts) ρ μ D := by
  refine DSs.cons fun ad σ H Dc R C => ?_
  obtain ⟨hb, wi, g, tt, te, hpi, hg, ht, he, rd⟩ := comp_rd (Qa := fun p m => DSs X sts (ρ.set i (some p)) m D) cx hi ok tgt his Iv h0 hM turn fin
  have hyl' : X.env.scope.names.lookup y = some .local := by rw [cx.esc]; exact hyl
  refine wS.of (ps_setLc cx.calm cx.nd' (by rw [cx.eN]; exact hy) hyl' (sw_true (by rw [cx.esc]; exact cx.kind) hyl' hl hsc) hpi hb hg ht he hs) (rd ad σ H _ R fun ad2 v H' p μ' s m r q => ?_)
  exact C.nx ad2 _ H' _ μ' s ⟨m, (R.mono s m).e.set i r⟩ q
end
end L3

namespace L3
open PySem PySem.Spec L2
/-- the law: of every script it hands back True -/
def spLaw : ASp := fun args μ Q _ => ∃ ns : List Int, args = [.scr (ns.map PV.int)] ∧ μ = [] ∧ ns.length ≤ 63 ∧ (∀ z ∈ ns, Builtin.Int.intBits z ≤ 1048576) ∧ Q (.bl true) []
theorem CX_false {P : Program} {w : World} {outer : List PySem.Env} {H : Hp} {s : Shared} {u : Value} {s' : Shared} (h : L2.CX P w outer H s (fun _ _ _ => False) u s') : False := by
  obtain ⟨_, _, _, _, _, _, _, _, _, _, _, _, hE⟩ := h
  exact hE
theorem RpL.scr_ints {K : PySem.W.Frag} {ad : AD} {H : Hp} {ns : List Int} : RpL ad K H (ns.map PV.int) (ns.map V.int) := RpL.of_ints
theorem walk {l : PySem.W.OpenLaw} {q : Program} {loose : List Str} {XP : (Str → Option Value) → Heap → Prop} {YP : World → Heap → Prop} {d : DefRec} {K : Params → PySem.W.Frag} {k : Nat} (hn : l.most = some 63) (hdf : d.params.defaults = [])
    (hr : Room k callerA) (hY : ∀ (w : World) (h : Heap), YP w h → (K w.params).In h)
    (F : ∀ (w : World) (mg : Str → Option Value) (fa : Addr) (h : Heap), (K w.params).In h → h.Ns mainGlobals mg → mg d.name = some (.ref fa) →
      ∃ fd : FuncData, (∀ (s : Shared) (u : Value), BindsTo s fd ⟨[u], []⟩ [("script", u)]) ∧ ∀ base : Heap, (K w.params).In base → base.Ns mainGlobals mg → FnOk l.prog w (K w.params) mg base (L2.CX l.prog w) k fa fd ["script"] (conc (K w.params) spLaw)) :
    PySem.W.WalkO q loose XP YP l.row.toRowW d [] (fun f vs => PySem.call f vs) := by
  refine L2.walk_ofB (n := 63) (k := k) (x := "script") (CX := fun w => L2.CX l.prog w) (sp := fun w => conc (K w.params) spLaw) hn (by decide) hdf hr hY F ?_ fun _ _ _ _ _ z => CX_false z
  intro w H a ns hl hb hO hS
  refine ⟨⟨0, []⟩, [], [.scr (ns.map PV.int)], (fun r _ => r = .bl true), (fun _ _ => False), ?_, ?_, ⟨ns, rfl, rfl, hl, hb, rfl⟩, ?_, fun _ _ _ _ _ _ _ _ _ h => h⟩
  · exact ⟨List.nodup_nil, rfl, fun k a m h _ => by simp [AD.at] at h, fun i a h _ => absurd h (Nat.not_lt_zero _), fun a h => nomatch h⟩
  · refine RpL.cons ?_ RpL.nil
    unfold Rp
    refine ⟨a, ns.map V.int, rfl, ?_, RpL.scr_ints⟩
    rcases hS with h | h
    · rcases h with h | ⟨o, h⟩
      · rcases hO a with z | ⟨o, xs, z⟩
        · rw [z] at h; cases h
        · rw [z] at h; cases h
      · exact .inl ⟨⟨o, h⟩, fun z => nomatch z⟩
    · exact .inr h
  · intro ad2 H' μ' r v _ _ rr e
    rw [e] at rr
    exact rr.bl_inv
end L3

namespace L3
open PySem PySem.Spec L2
/-! ### sizes of whole numbers -/
def B (n : Nat) (x : Int) : Prop := x.natAbs < 2 ^ n
instance {n : Nat} {x : Int} : Decidable (B n x) := inferInstanceAs (Decidable (x.natAbs < 2 ^ n))
theorem B.le {n m : Nat} {x : Int} (h : B n x) (l : n ≤ m) : B m x := Nat.lt_of_lt_of_le h (Nat.pow_le_pow_right (by decide) l)
theorem B.eq {n : Nat} {x y : Int} (e : y = x) (h : B n x) : B n y := by rw [e]; exact h
theorem B.mul {n m : Nat} {x y : Int} (h : B n x) (h' : B m y) : B (n + m) (x * y) := wide_lt h h'
theorem B.add {n m : Nat} {x y : Int} (h : B n x) (h' : B m y) : B (max n m + 1) (x + y) := by
  have h1 := h.le (Nat.le_max_left n m)
  have h2 := h'.le (Nat.le_max_right n m)
  unfold B at h1 h2 ⊢
  rw [Nat.pow_succ]
  omega
theorem B.neg {n : Nat} {x : Int} (h : B n x) : B n (-x) := by unfold B at h ⊢; omega
theorem B.sub {n m : Nat} {x y : Int} (h : B n x) (h' : B m y) : B (max n m + 1) (x - y) := by
  rw [Int.sub_eq_add_neg]
  exact h.add h'.neg
theorem B.mod {m : Nat} {x y : Int} (p : 0 < y) (h : B m y) : B m (x % y) := by
  unfold B at h ⊢
  have h1 := Int.emod_nonneg x (show y ≠ 0 by omega)
  have h2 := Int.emod_lt_of_pos x p
  omega
theorem B.div {n : Nat} {x y : Int} (h : B n x) : B n (x / y) := by
  unfold B at h ⊢
  exact Nat.lt_of_le_of_lt (Int.natAbs_ediv_le_natAbs x y) h
theorem B.abs {n : Nat} {x : Int} (h : B n x) : B n ((x.natAbs : Nat) : Int) := by unfold B at h ⊢; omega
theorem B.rng {n : Nat} {x a : Int} (h1 : -a ≤ x) (h2 : x ≤ a) (h : a.natAbs < 2 ^ n) : B n x := by unfold B; omega
theorem B.rngT {n : Nat} {x a : Int} (h1 : 0 ≤ x) (h2 : x < a) (h : B n a) : B n x := by unfold B at h ⊢; omega
theorem mulW {n m : Nat} {x y : Int} (h : B n x) (h' : B m y) (l : n + m ≤ 900000) : CMulW x y := wide_mul (h.le (Nat.le_succ n)) (h'.le (Nat.le_succ m)) (Nat.succ_pos _) (Nat.succ_pos _) (by omega)
theorem divW {m : Nat} {x y : Int} (p : 0 < y) (h : B m y) (l : m ≤ 8000) : CDivW x y := wide_div p (h.le (Nat.le_succ m)) (Nat.succ_pos _) (by omega)
/-! ### letters for what is stored -/
mutual
def gen : PV → (PV → Prop) → Prop
  | .int z, k => ∀ z', z' = z → k (.int z')
  | .tup ps, k => genL ps fun qs => k (.tup qs)
  | p, k => k p
def genL : List PV → (List PV → Prop) → Prop
  | [], k => k []
  | p :: ps, k => gen p fun q => genL ps fun qs => k (q :: qs)
end
mutual
theorem gen_out : ∀ (p : PV) (k : PV → Prop), gen p k → k p
  | .int z, k, h => by unfold gen at h; exact h z rfl
  | .tup ps, k, h => by unfold gen at h; exact genL_out ps _ h
  | .non, k, h => by unfold gen at h; exact h
  | .bl _, k, h => by unfold gen at h; exact h
  | .str _, k, h => by unfold gen at h; exact h
  | .lst _, k, h => by unfold gen at h; exact h
  | .scr _, k, h => by unfold gen at h; exact h
  | .wtp _, k, h => by unfold gen at h; exact h
  | .dct _ _, k, h => by unfold gen at h; exact h
  | .obj _, k, h => by unfold gen at h; exact h
  | .exc _ _ _, k, h => by unfold gen at h; exact h
  | .exm _ _, k, h => by unfold gen at h; exact h
theorem genL_out : ∀ (ps : List PV) (k : List PV → Prop), genL ps k → k ps
  | [], k, h => by unfold genL at h; exact h
  | p :: ps, k, h => by
    unfold genL at h
    exact genL_out ps _ (gen_out p _ h)
end
section
variable {X : Cx} {P : Program} {w : World} {K : PySem.W.Frag} {mg : Str → Option Value} {base : Heap} {N : List Str} {sc : Scope} {k j : Nat} {x : Str} {A : ASp} {ρ ρ' : Env} {μ μ1 μ2 μ' : Mem} {p q r : PV} {e a b tg : Expr} {es : List Expr} {pos cp : Pos} {D : AEnds} {st : Stmt} {sts : List Stmt}
/-- name = value; its whole numbers get letters -/
theorem CxF.setG (cx : CxF X P w K mg base N sc k) (i : Nat) (hN : N[i]? = some x) (hs : stoB sc x = true) {pos pos' : Pos} (h : DE X e ρ μ p μ1) (hn : gen p fun p' => DSs X sts (ρ.set i (some p')) μ1 D)
    (hsw : swapsWith e (some (.Name x pos')) pos.line X.env = pure false := by rfl) : DSs X (.Assign [.Name x pos'] e pos :: sts) ρ μ D :=
  DSs.cons (CxF.set cx i hN hs h (gen_out p _ hn) hsw)
theorem CxF.setGW (cx : CxF X P w K mg base N sc k) (i : Nat) (hN : N[i]? = some x) (hs : stoB sc x = true) {pos pos' : Pos} (h : WE X e ρ μ fun p m => DSs X sts (ρ.set i (some p)) m D)
    (hsw : swapsWith e (some (.Name x pos')) pos.line X.env = pure false := by rfl) : DSs X (.Assign [.Name x pos'] e pos :: sts) ρ μ D :=
  DSs.cons (CxF.setW cx i hN hs h hsw)
theorem DSs.ifc {c : Expr} {kb : Bool} {A' B' : List Stmt} (hc : DT X c ρ μ kb μ1) (ht : kb = true → DSs X A' ρ μ1 { D with nx := fun ρ' μ' => DSs X sts ρ' μ' D }) (hf : kb = false → DSs X B' ρ μ1 { D with nx := fun ρ' μ' => DSs X sts ρ' μ' D }) : DSs X (.If c A' B' pos :: sts) ρ μ D :=
  DSs.cons (DS.ife hc ht hf)
theorem DSs.ifcW {c : Expr} {A' B' : List Stmt} (hc : WT X c ρ μ fun z m => if z = true then DSs X A' ρ m { D with nx := fun ρ' μ' => DSs X sts ρ' μ' D } else DSs X B' ρ m { D with nx := fun ρ' μ' => DSs X sts ρ' μ' D }) : DSs X (.If c A' B' pos :: sts) ρ μ D :=
  DSs.cons (DS.ifeW hc)
theorem DSs.ret1 (h : DE X e ρ μ p μ') (hr : D.rt p μ') : DSs X (.Return (some e) pos :: sts) ρ μ D := DSs.cons (DS.ret h hr)
theorem DSs.ret1W (h : WE X e ρ μ fun p m => D.rt p m) : DSs X (.Return (some e) pos :: sts) ρ μ D := DSs.cons (DS.retW h)
theorem DSs.unpack (h : DE X e ρ μ p μ1) (hn : gen p fun p' => ∃ ρ', DG X tg p' ρ μ1 ρ' ∧ DSs X sts ρ' μ1 D) (hs : swapsWithSole [tg] e pos.line X.env = pure false := by rfl) (hw : swappedStores [tg] e X.env = pure none := by rfl)
    (h1 : (assignEach [tg] X.env).map (·.2) = [assign tg X.env] := by rfl) : DSs X (.Assign [tg] e pos :: sts) ρ μ D :=
  DSs.cons (DS.asgW (WE.of h (by obtain ⟨ρ', hg, hd⟩ := gen_out p _ hn; exact ⟨ρ', hg, hd⟩)) hs hw h1)
/-- a def's end: what it hands back is told elsewhere -/
theorem fin_same {μ0 : Mem} {Q : PV → Mem → Prop} (h : Q r μ) (e : p = r) : ∃ r' μ', Done μ0 p μ r' μ' ∧ Q r' μ' := ⟨r, μ, by rw [e]; exact .same _ _, h⟩
structure DefAt (K : PySem.W.Frag) (mg : Str → Option Value) (x : Str) (st : Stmt) (ps : List Str) : Prop where
  ex : ∃ f fd, Fun K x x st f fd ∧ mg x = some (.ref f) ∧ Binds K fd ps []
theorem DefAt.ok {ps : List Str} (d : DefAt K mg x st ps) (S : FnScope N ps (defScope st)) (len : ∀ args μ Q E, A args μ Q E → args.length = ps.length)
    (body : ∀ (X : Cx) (args : List PV) (μ : Mem) (Q : PV → Mem → Prop) (E : EX → Mem → Prop), CxF X P w K mg base N (defScope st) k → A args μ Q E → DSs X (defBody st) (entry N args) μ (fnEnds μ Q)) : FnA P w K mg base (k + 1) x A := by
  obtain ⟨f, fd, F, hm, hB⟩ := d.ex
  exact FnA.of F hm S hB len body
theorem oa_powL {i j r : Int} (h : CPow i j) (e : i ^ j.toNat = r) : OpA X (binaryOp .Pow) (.int i) (.int j) μ (.int r) := by rw [← e]; exact oa_pow h
theorem asL_obj {n : Nat} {xs : List PV} (h : μ[n]? = some (.lst xs)) : asL μ (.obj n) = some xs := by
  unfold asL
  dsimp only
  rw [h]
theorem mset {n : Nat} {m m' : MO} (h : μ[n]? = some m) : (μ.set n m')[n]? = some m' := by
  have : n < μ.length := (List.getElem?_eq_some_iff.mp h).1
  simp [this]
theorem set_same {n : Nat} {m : MO} (h : μ[n]? = some m) : μ = μ.set n m := by
  have hk : n < μ.length := (List.getElem?_eq_some_iff.mp h).1
  rw [List.getElem?_eq_getElem hk] at h
  rw [← Option.some.inj h, List.set_getElem_self hk]
theorem at_b2i {kb : Bool} {i j : Int} : atI [PV.int i, PV.int j] (if kb = true then 1 else 0) = some (.int (if kb = true then j else i)) := by
  cases kb <;> rfl
theorem fin_mem {μ0 : Mem} {Q : PV → Mem → Prop} (h : Q r μ2) (e : p = r) (em : μ = μ2) : ∃ r' μ', Done μ0 p μ r' μ' ∧ Q r' μ' := ⟨r, μ2, by rw [e, em]; exact .same _ _, h⟩
def IxA (X : Cx) (x y : PV) (μ : Mem) (p : PV) : Prop :=
  ∃ r : R2, IxR X r ∧ ∀ ad H vx vy Q, Mst ad X.K H μ → Rp ad X.K H x vx → Rp ad X.K H y vy → Fin1 X ad H μ p Q → r vx vy H Q
theorem ia_lst {xs : List PV} {i : Int} (hl : asL μ p = some xs) (h : atI xs i = some r) : IxA X p (.int i) μ r :=
  ⟨_, ix_list, fun ad H vx vy Q m rx ry f => by
    obtain ⟨l, vs, e1, h1, r1⟩ := rx.asL_inv hl m
    obtain ⟨v, e2, r2⟩ := atI_rp r1 h
    exact ⟨l, vs, i, v, e1, ry.int_inv, h1, e2, f [] v H Stp.refl (by rwa [AD.append_nil]) (by rwa [AD.append_nil])⟩⟩
theorem ia_str {z : Str} {i : Int} {c : Nat} (h : atI z.cps.toList i = some c) (hz : z.length ≤ sizeLine) : IxA X (.str z) (.int i) μ (.str ⟨#[c]⟩) :=
  ⟨_, ix_str, fun ad H vx vy Q m rx ry f => ⟨z, i, c, rx.str_inv, ry.int_inv, hz, h, f [] _ H Stp.refl (by rwa [AD.append_nil]) (Rp.str' _)⟩⟩
def rwI (X : Cx) : R2 := fun x y H Q => ∀ (value slice : Expr) pins s σ v u, Inv X pins σ H s → RelV x v → RelV y u → subscripted slice false v u = operate [v, u] (getItem v u) → wpAny (model X.prog X.w) X.A (PyProof.Rows.subscriptTail value slice v u) (EP X pins σ Q) X.xe s
theorem ix_w : IxR X (rwI X) := fun value slice pins s σ H x y v u Q I rx ry h hs => h value slice pins s σ v u I rx ry hs
theorem WE.ix {Qa : PV → Mem → Prop} (h : WE X a ρ μ fun x μ1 => WE X b ρ μ1 fun y μ2 => ∃ z, IxA X x y μ2 z ∧ Qa z μ2) (hs : PlainIx b := by exact fun _ _ => rfl) : WE X (.Subscript a b pos) ρ μ Qa := fun ad σ H Q R f =>
  wE.of (pe_ix ix_w (pe_w a) (pe_w b) hs) (h ad σ H _ R fun ad1 v H1 x μ1 s1 m1 r1 q1 => q1 (ad ++ ad1) σ H1 _ (R.mono s1 m1) fun ad2 u H2 y μ2 s2 m2 r2 q2 => by
    obtain ⟨z, hz, qz⟩ := q2
    obtain ⟨rr, ho, hr⟩ := hz
    exact fun value slice pins s σ' v' u' I r1' r2' hsub => ho value slice pins s σ' H2 v u v' u' Q I r1' r2' (hr (ad ++ ad1 ++ ad2) H2 v u Q m2 (r1.mono s2) r2 fun ad3 w' H3 s3 m3 r3 =>
      f (ad1 ++ (ad2 ++ ad3)) w' H3 z μ2 (s1.trans (s2.trans s3)) (by rw [← AD.append_assoc, ← AD.append_assoc]; exact m3) (by rw [← AD.append_assoc, ← AD.append_assoc]; exact r3) qz) hsub)
theorem boot_len : bootBuiltins "len" = some (.builtin "len") := by decide +kernel
theorem boot_abs : bootBuiltins "abs" = some (.builtin "abs") := by decide +kernel
theorem boot_max : bootBuiltins "max" = some (.builtin "max") := by decide +kernel
theorem boot_min : bootBuiltins "min" = some (.builtin "min") := by decide +kernel
theorem boot_int : bootBuiltins "int" = some (.type "int") := by decide +kernel
theorem boot_list : bootBuiltins "list" = some (.type "list") := by decide +kernel
theorem boot_tuple : bootBuiltins "tuple" = some (.type "tuple") := by decide +kernel
theorem boot_sorted : bootBuiltins "sorted" = some (.builtin "sorted") := by decide +kernel
/-- o[i] = value, o a list object; the value's whole numbers get letters -/
theorem DSs.setG {n : Nat} {i : Int} {j : Nat} {xs : List PV} {sp : Pos} (hv : DE X e ρ μ p μ1) (ho : DE X a ρ μ1 (.obj n) μ1) (hi : DE X b ρ μ1 (.int i) μ2) (hm : μ2[n]? = some (.lst xs)) (hj : ixN xs.length i = some j)
    (hn : gen p fun p' => DSs X sts ρ (μ2.set n (.lst (xs.set j p'))) D)
    (ha : ∀ v, assign (.Subscript a b sp) X.env v = (do
      let ov ← holding [v] (eval a X.env)
      let iv ← holding [v, ov] (eval b X.env)
      standAt sp
      holding [v, ov, iv] (setItem ov iv v)
      release [v, ov, iv] []) := by intro _; rfl)
    (hs : swapsWithSole [.Subscript a b sp] e pos.line X.env = pure false := by rfl) (hw : swappedStores [.Subscript a b sp] e X.env = pure none := by rfl) (h1 : (assignEach [.Subscript a b sp] X.env).map (·.2) = [assign (.Subscript a b sp) X.env] := by rfl) :
    DSs X (.Assign [.Subscript a b sp] e pos :: sts) ρ μ D :=
  DSs.cons (DS.setI hv ho hi hm hj (gen_out p (fun p' => DSs X sts ρ (μ2.set n (.lst (xs.set j p'))) D) hn) ha hs hw h1)
theorem DE.cast (h : DE X e ρ μ p μ') (e' : p = q) : DE X e ρ μ q μ' := e' ▸ h
end
/-! ### the cells that a law draws from: laws 1 to 8, 29 to 32 -/
structure Deck where
  cells : List Int
  begun : Int
  left : Int
  mixed : Int
  total : Int
structure DkOk (d : Deck) (n : Int) : Prop where
  len : d.cells.length ≤ 63
  b0 : 0 ≤ d.begun
  b1 : d.begun ≤ 63
  m0 : 0 ≤ d.mixed
  m1 : d.mixed ≤ n
theorem DkOk.init {ns : List Int} {n : Int} (h : ns.length ≤ 63) (hn : 0 ≤ n := by decide) : DkOk ⟨ns, 0, 0, 0, ns.sum⟩ n := ⟨h, Int.le_refl 0, (by decide : (0 : Int) ≤ 63), Int.le_refl 0, hn⟩
theorem DkOk.mono {d : Deck} {n m : Int} (h : DkOk d n) (l : n ≤ m) : DkOk d m := ⟨h.len, h.b0, h.b1, h.m0, Int.le_trans h.m1 l⟩
/-! ### headings and turns -/
def hdC (h : Fin 4) : Nat := match h with
  | 0 => 101
  | 1 => 110
  | 2 => 119
  | 3 => 115
def hdS (h : Fin 4) : Str := ⟨#[hdC h]⟩
def tnC (t : Bool) : Nat := if t then 114 else 108
/-- true: to the right -/
def tnS (t : Bool) : Str := ⟨#[tnC t]⟩
theorem hd_at {i : Int} (h0 : 0 ≤ i) (h1 : i < 4) : ∃ h : Fin 4, atI ("enws" : Str).cps.toList i = some (hdC h) ∧ (h.val : Int) = i := by
  have : i = 0 ∨ i = 1 ∨ i = 2 ∨ i = 3 := by omega
  rcases this with e | e | e | e <;> subst e
  · exact ⟨0, by decide +kernel, rfl⟩
  · exact ⟨1, by decide +kernel, rfl⟩
  · exact ⟨2, by decide +kernel, rfl⟩
  · exact ⟨3, by decide +kernel, rfl⟩
theorem tn_at {i : Int} (h0 : 0 ≤ i) (h1 : i < 2) : ∃ t : Bool, atI ("lr" : Str).cps.toList i = some (tnC t) := by
  have : i = 0 ∨ i = 1 := by omega
  rcases this with e | e <;> subst e
  · exact ⟨false, by decide +kernel⟩
  · exact ⟨true, by decide +kernel⟩
/-- a spiral -/
def spP (s : Int) (h : Fin 4) (t : Bool) : PV := .tup [.int s, .str (hdS h), .str (tnS t)]
end L3

namespace L3
open PySem PySem.Spec L2 TL
section
variable {X : Cx} {P : Program} {w : World} {K : PySem.W.Frag} {mg : Str → Option Value} {base : Heap} {N : List Str} {sc scope : Scope} {k j : Nat} {x : Str} {A : ASp} {ρ ρ' : Env} {μ μ1 μ2 μ' : Mem} {p q r : PV} {e a b tg : Expr} {es : List Expr} {pos cp : Pos} {D : AEnds} {st : Stmt} {sts : List Stmt}
/-! ### a comprehension that leaves the store as it is -/
theorem DE.comp {elt iter : Expr} {ifs : List Expr} {own : List (Str × Nat)} {is : List Nat} {ff : PV → Option (List PV)} {xs : List PV} {M : Mem → Prop} (cx : CxF X P w K mg base N sc k)
    (hi : DI X tg iter ρ μ xs M μ1) (ok : blkC N sc scope own = true) (tgt : Tgt P w K mg base N scope k tg is ff) (his : ∀ i ∈ is, i ∈ own.map (·.2)) (f : PV → Option PV) (hM : M μ1) (hl : xs.length ≤ sizeLine)
    (turn : ∀ p, p ∈ xs → ∃ qs, ff p = some qs ∧
      ((f p = none ∧ ∀ X', CxD X' P w K mg base N scope k → WTs X' ifs (setE (wipeE ρ (own.map (·.2))) is qs) μ1 fun b m => b = false ∧ m = μ1) ∨
       (∃ y, f p = some y ∧ (∀ X', CxD X' P w K mg base N scope k → WTs X' ifs (setE (wipeE ρ (own.map (·.2))) is qs) μ1 fun b m => b = true ∧ m = μ1) ∧ ∀ X', CxD X' P w K mg base N scope k → DE X' elt (setE (wipeE ρ (own.map (·.2))) is qs) μ1 y μ1)))
    (hs : ∀ x, foldedSetIterable iter X.env x = pure x := by intro _; rfl) : DE X (.ListComp elt [⟨tg, iter, ifs, 0⟩] scope pos) ρ μ (.lst (xs.filterMap f)) μ1 := by
  refine WE.de (WE.comp cx hi ok tgt his (fun i ys m => m = μ1 ∧ ys = (xs.take i).filterMap f) ⟨rfl, rfl⟩ (fun _ _ _ h => by rw [h.1]; exact hM) ?_ ?_ hs)
  · rintro i p ys m hp ⟨rfl, rfl⟩
    have hi : i < xs.length := (List.getElem?_eq_some_iff.mp hp).1
    have ht : xs.take (i + 1) = xs.take i ++ [p] := by rw [List.take_succ, hp]; rfl
    have hlen : ((xs.take i).filterMap f).length < sizeLine := by
      have h1 := List.length_filterMap_le f (xs.take i)
      rw [List.length_take] at h1
      omega
    obtain ⟨qs, hq, h⟩ := turn p (List.mem_of_getElem? hp)
    refine ⟨qs, hq, fun X' cx' => ?_⟩
    rcases h with ⟨hf, h1⟩ | ⟨y, hf, h1, h2⟩
    · intro ad σ H Q R hQ
      refine h1 X' cx' ad σ H Q R fun ad2 b H' μ' s mm hb => hQ ad2 b H' μ' s mm ?_
      rw [hb.1, hb.2]
      show if false = true then _ else _
      rw [if_neg (by decide)]
      exact ⟨rfl, by rw [ht, List.filterMap_append]; simp [hf]⟩
    · intro ad σ H Q R hQ
      refine h1 X' cx' ad σ H Q R fun ad2 b H' μ' s mm hb => hQ ad2 b H' μ' s mm ?_
      rw [hb.1, hb.2]
      show if true = true then _ else _
      rw [if_pos rfl]
      intro X2 cx2
      exact WE.of (h2 X2 cx2) ⟨hlen, rfl, by rw [ht, List.filterMap_append]; simp [hf]⟩
  · rintro ys m ⟨rfl, rfl⟩
    exact ⟨by rw [List.take_length], rfl⟩
/-! ### texts -/
def signs (l : List Nat) : List PV := l.map fun c => .str ⟨#[c]⟩
theorem DI.str {z : Str} (h : DE X e ρ μ (.str z) μ1) : DI X tg e ρ μ (signs (tl z)) (fun _ => True) μ1 :=
  ⟨_, pi_str (pe_w e), fun ad σ H Q R hQ => h ad σ H _ R fun ad2 v H' s m r => by
    refine ⟨z, r.str_inv, hQ ad2 _ H' s m fun ad' H1 μ1 kp mm _ => ?_⟩
    have hl : (signs (tl z)).length = z.cps.size := by simp [signs, tl]
    refine ⟨fun i hi => by rw [hl] at hi; exact hi, by rw [hl]; exact Nat.le_refl _, fun i p x H2 e1 y => ?_⟩
    obtain ⟨e2, c, hc, e3⟩ := y
    subst e2
    refine ⟨Stp.refl, mm, ?_, fun _ _ z => z⟩
    have : p = .str ⟨#[c]⟩ := by
      unfold signs at e1
      rw [List.getElem?_map] at e1
      have h2 : (tl z)[i]? = some c := by unfold tl; rw [Array.getElem?_toList]; exact hc
      rw [h2] at e1
      exact (Option.some.inj e1).symm
    subst this
    rw [e3]
    exact Rp.str' _⟩
end
/-! ### slices of texts -/
/-! ### numbers as texts -/
abbrev nS (i : Int) : Str := Str.ofString (toString i)
/-! ### words that write numbers -/
end L3

namespace L3
open PySem PySem.Spec L2 TL
theorem DT.cast {X : Cx} {e : Expr} {ρ : Env} {μ μ' : Mem} {k k' : Bool} (h : DT X e ρ μ k μ') (e' : k = k') : DT X e ρ μ k' μ' := e' ▸ h
theorem strOk_mem {z : Str} (h : PyData.strOk z = true) {c : Nat} (hc : c ∈ tl z) : c < 0x110000 := by
  unfold PyData.strOk at h
  rw [Array.all_eq_true'] at h
  exact of_decide_eq_true (h c (Array.mem_toList_iff.mp hc))
theorem strOk_one {c : Nat} (h : c < 0x110000) : PyData.strOk ⟨#[c]⟩ = true := by
  unfold PyData.strOk
  simp [h]
/-! ### figure by figure -/
end L3

namespace L3
open PySem PySem.Spec L2
/-! ### places and numbers of the plain spiral -/
def nuF (x y : Int) : Int :=
  let r := max ((x.natAbs : Nat) : Int) ((y.natAbs : Nat) : Int)
  if r = 0 then 0 else
  let f := (2 * r - 1) * (2 * r - 1)
  if x = r ∧ 0 - r < y then f + y + r - 1 else if y = r then f + 3 * r - 1 - x else if x = 0 - r then f + 5 * r - 1 - y else f + 7 * r - 1 + x
inductive Side (r x y n : Int) : Prop
  | zero (a : r = 0) (b : x = 0) (c : y = 0) (d : n = 0)
  | e (p : 1 ≤ r) (a : x = r) (b : -r < y) (c : y ≤ r) (d : n = (2 * r - 1) * (2 * r - 1) + y + r - 1)
  | n (p : 1 ≤ r) (a : y = r) (b : -r ≤ x) (c : x < r) (d : n = (2 * r - 1) * (2 * r - 1) + 3 * r - 1 - x)
  | w (p : 1 ≤ r) (a : x = -r) (b : -r ≤ y) (c : y < r) (d : n = (2 * r - 1) * (2 * r - 1) + 5 * r - 1 - y)
  | s (p : 1 ≤ r) (a : y = -r) (b : -r < x) (c : x ≤ r) (d : n = (2 * r - 1) * (2 * r - 1) + 7 * r - 1 + x)
def ringF (x y : Int) : Int := max ((x.natAbs : Nat) : Int) ((y.natAbs : Nat) : Int)
theorem side_of (x y : Int) : Side (ringF x y) x y (nuF x y) := by
  unfold nuF
  generalize hr : max ((x.natAbs : Nat) : Int) ((y.natAbs : Nat) : Int) = r
  have hr2 : ringF x y = r := hr
  rw [hr2]
  dsimp only
  by_cases h0 : r = 0
  · rw [if_pos h0]; exact .zero h0 (by omega) (by omega) rfl
  · rw [if_neg h0]
    by_cases h1 : x = r ∧ 0 - r < y
    · rw [if_pos h1]; exact .e (by omega) h1.1 (by omega) (by omega) rfl
    · rw [if_neg h1]
      by_cases h2 : y = r
      · rw [if_pos h2]; exact .n (by omega) h2 (by omega) (by omega) rfl
      · rw [if_neg h2]
        by_cases h3 : x = 0 - r
        · rw [if_pos h3]; exact .w (by omega) (by omega) (by omega) (by omega) rfl
        · rw [if_neg h3]; exact .s (by omega) (by omega) (by omega) (by omega) rfl
theorem Side.nu {r x y n : Int} (h : Side r x y n) : nuF x y = n ∧ ringF x y = r := by
  have hr : ringF x y = r := by unfold ringF; cases h <;> omega
  refine ⟨?_, hr⟩
  unfold nuF
  have hr2 : max ((x.natAbs : Nat) : Int) ((y.natAbs : Nat) : Int) = r := hr
  rw [hr2]
  dsimp only
  cases h with
  | zero a b c d => rw [if_pos a, d]
  | e p a b c d => rw [if_neg (by omega), if_pos ⟨a, by omega⟩, d]
  | n p a b c d => rw [if_neg (by omega), if_neg (fun z => by omega), if_pos a, d]
  | w p a b c d => rw [if_neg (by omega), if_neg (fun z => by omega), if_neg (by omega), if_pos (by omega), d]
  | s p a b c d => rw [if_neg (by omega), if_neg (fun z => by omega), if_neg (by omega), if_neg (by omega), d]
theorem sq_le {a b : Int} (h0 : 0 ≤ a) (h : a ≤ b) : a * a ≤ b * b := Int.mul_le_mul h h h0 (Int.le_trans h0 h)
theorem sq_next (r : Int) : (2 * r + 1) * (2 * r + 1) = (2 * r - 1) * (2 * r - 1) + 8 * r := by
  have e1 : (2 * r + 1) * (2 * r + 1) = 2 * r * (2 * r) + 4 * r + 1 := by rw [Int.add_mul, Int.mul_add]; omega
  have e2 : (2 * r - 1) * (2 * r - 1) = 2 * r * (2 * r) - 4 * r + 1 := by rw [Int.sub_mul, Int.mul_sub]; omega
  omega
theorem Side.span {r x y n : Int} (h : Side r x y n) (hr : 1 ≤ r) : (2 * r - 1) * (2 * r - 1) ≤ n ∧ n < (2 * r + 1) * (2 * r + 1) := by
  rw [sq_next]
  cases h <;> omega
theorem Side.r0 {r x y n : Int} (h : Side r x y n) : 0 ≤ r := by cases h <;> omega
theorem Side.n0 {r x y n : Int} (h : Side r x y n) : 0 ≤ n := by
  rcases Int.lt_or_le 0 r with z | z
  · have := h.span z
    have := Int.mul_nonneg (show 0 ≤ 2 * r - 1 by omega) (show 0 ≤ 2 * r - 1 by omega)
    omega
  · cases h <;> omega
theorem Side.npos {r x y n : Int} (h : Side r x y n) (hr : 1 ≤ r) : 1 ≤ n := by
  have := h.span hr
  have := Int.mul_le_mul (show 1 ≤ 2 * r - 1 by omega) (show 1 ≤ 2 * r - 1 by omega) (by decide) (by omega)
  omega
theorem Side.ring_eq {r x y n r' x' y' : Int} (h : Side r x y n) (h' : Side r' x' y' n) : r = r' := by
  have p := h.r0
  have p' := h'.r0
  rcases Int.lt_trichotomy r r' with z | z | z
  · exfalso
    have s' := h'.span (by omega)
    by_cases e : r = 0
    · have := h'.npos (by omega)
      cases h <;> omega
    · have s := h.span (by omega)
      have := sq_le (show 0 ≤ 2 * r + 1 by omega) (show 2 * r + 1 ≤ 2 * r' - 1 by omega)
      omega
  · exact z
  · exfalso
    have s := h.span (by omega)
    by_cases e : r' = 0
    · have := h.npos (by omega)
      cases h' <;> omega
    · have s' := h'.span (by omega)
      have := sq_le (show 0 ≤ 2 * r' + 1 by omega) (show 2 * r' + 1 ≤ 2 * r - 1 by omega)
      omega
theorem Side.inj {r x y n r' x' y' : Int} (h : Side r x y n) (h' : Side r' x' y' n) : x = x' ∧ y = y' := by
  have e := h.ring_eq h'
  subst e
  cases h <;> cases h' <;> constructor <;> omega
theorem nuF_inj {x y x' y' : Int} (h : nuF x y = nuF x' y') : x = x' ∧ y = y' := (side_of x y).inj (by rw [h]; exact side_of x' y')
theorem nuF_nonneg (x y : Int) : 0 ≤ nuF x y := (side_of x y).n0
theorem sqrt_ex (n : Nat) : ∃ s : Nat, s * s ≤ n ∧ n < (s + 1) * (s + 1) := by
  induction n with
  | zero => exact ⟨0, by decide, by decide⟩
  | succ n ih =>
    obtain ⟨s, h1, h2⟩ := ih
    by_cases h : (s + 1) * (s + 1) ≤ n + 1
    · refine ⟨s + 1, h, ?_⟩
      have : (s + 1 + 1) * (s + 1 + 1) = (s + 1) * (s + 1) + 2 * (s + 1) + 1 := by rw [Nat.add_mul, Nat.mul_add]; omega
      omega
    · exact ⟨s, by omega, by omega⟩
theorem isq (n : Int) (h : 0 ≤ n) : ∃ s : Int, 0 ≤ s ∧ s * s ≤ n ∧ n < (s + 1) * (s + 1) := by
  obtain ⟨s, h1, h2⟩ := sqrt_ex n.toNat
  refine ⟨s, by omega, ?_, ?_⟩
  · have : ((s * s : Nat) : Int) ≤ n := by omega
    simpa using this
  · have : n < (((s + 1) * (s + 1) : Nat) : Int) := by omega
    simpa using this
theorem nuF_surj (n : Int) (h : 0 ≤ n) : ∃ x y, nuF x y = n := by
  obtain ⟨s, s0, h1, h2⟩ := isq n h
  obtain ⟨r, hr⟩ : ∃ r : Int, r = (s + 1) / 2 := ⟨_, rfl⟩
  by_cases r0 : r = 0
  · have : s = 0 := by omega
    subst this
    exact ⟨0, 0, by rw [show n = 0 by omega]; decide⟩
  · have a : (2 * r - 1) * (2 * r - 1) ≤ s * s := sq_le (by omega) (by omega)
    have b : (s + 1) * (s + 1) ≤ (2 * r + 1) * (2 * r + 1) := sq_le (by omega) (by omega)
    rw [sq_next] at b
    generalize hq : (2 * r - 1) * (2 * r - 1) = q at a b
    by_cases c1 : n < q + 2 * r
    · exact ⟨r, n - q - r + 1, (Side.e (r := r) (by omega) rfl (by omega) (by omega) (by rw [hq]; omega)).nu.1⟩
    · by_cases c2 : n < q + 4 * r
      · exact ⟨q + 3 * r - 1 - n, r, (Side.n (r := r) (by omega) rfl (by omega) (by omega) (by rw [hq]; omega)).nu.1⟩
      · by_cases c3 : n < q + 6 * r
        · exact ⟨-r, q + 5 * r - 1 - n, (Side.w (r := r) (by omega) rfl (by omega) (by omega) (by rw [hq]; omega)).nu.1⟩
        · exact ⟨n - q - 7 * r + 1, -r, (Side.s (r := r) (by omega) rfl (by omega) (by omega) (by rw [hq]; omega)).nu.1⟩
theorem Side.le {r x y n : Int} (h : Side r x y n) : r ≤ n := by
  rcases Int.lt_or_le 0 r with z | z
  · have := (h.span z).1
    have := Int.mul_le_mul (show r ≤ 2 * r - 1 by omega) (show 1 ≤ 2 * r - 1 by omega) (by decide) (by omega)
    omega
  · have := h.n0; omega
theorem B.ring {k : Nat} {x y : Int} (h : B k (nuF x y)) : B k x ∧ B k y := by
  have h1 := (side_of x y).le
  have h2 : ringF x y = max ((x.natAbs : Nat) : Int) ((y.natAbs : Nat) : Int) := rfl
  unfold B at *
  omega

/-! ### turned and mirrored -/
def lefP (p : Int × Int) : Int × Int := (0 - p.2, p.1)
def lefN : Nat → Int × Int → Int × Int
  | 0, p => p
  | n + 1, p => lefP (lefN n p)
def mirP (t : Bool) (p : Int × Int) : Int × Int := (p.1, if t = true then 0 - p.2 else p.2)
/-- where the plain place stands -/
def plW (h : Fin 4) (t : Bool) (p : Int × Int) : Int × Int := lefN h.val (mirP t p)
/-- the plain place of what stands there -/
def unW (h : Fin 4) (t : Bool) (p : Int × Int) : Int × Int := mirP t (lefN ((4 - h.val) % 4) p)
theorem lef4 (p : Int × Int) : lefP (lefP (lefP (lefP p))) = p := by
  obtain ⟨x, y⟩ := p
  simp only [lefP, Prod.mk.injEq]
  omega
theorem mir2 (t : Bool) (p : Int × Int) : mirP t (mirP t p) = p := by
  obtain ⟨x, y⟩ := p
  cases t <;> simp [mirP]
theorem pl_un (h : Fin 4) (t : Bool) (p : Int × Int) : plW h t (unW h t p) = p := by
  unfold plW unW
  rw [mir2]
  match h with
  | 0 => rfl
  | 1 => exact lef4 p
  | 2 => exact lef4 p
  | 3 => exact lef4 p
theorem un_pl (h : Fin 4) (t : Bool) (p : Int × Int) : unW h t (plW h t p) = p := by
  unfold plW unW
  have : lefN ((4 - h.val) % 4) (lefN h.val (mirP t p)) = mirP t p := by
    match h with
    | 0 => rfl
    | 1 => exact lef4 _
    | 2 => exact lef4 _
    | 3 => exact lef4 _
  rw [this, mir2]
/-- the number, from 0 on, that stands at p -/
def nuW (h : Fin 4) (t : Bool) (p : Int × Int) : Int := nuF (unW h t p).1 (unW h t p).2
theorem nuW_pl (h : Fin 4) (t : Bool) (p : Int × Int) : nuW h t (plW h t p) = nuF p.1 p.2 := by unfold nuW; rw [un_pl]
theorem nuW_nonneg (h : Fin 4) (t : Bool) (p : Int × Int) : 0 ≤ nuW h t p := nuF_nonneg _ _
theorem nuW_inj {h : Fin 4} {t : Bool} {p q : Int × Int} (e : nuW h t p = nuW h t q) : p = q := by
  obtain ⟨e1, e2⟩ := nuF_inj e
  have : unW h t p = unW h t q := Prod.ext e1 e2
  rw [← pl_un h t p, this, pl_un]
theorem nuW_surj (h : Fin 4) (t : Bool) (n : Int) (hn : 0 ≤ n) : ∃ p, nuW h t p = n := by
  obtain ⟨x, y, e⟩ := nuF_surj n hn
  exact ⟨plW h t (x, y), by rw [nuW_pl]; exact e⟩
theorem nuW_left (h : Fin 4) (t : Bool) (p : Int × Int) : nuW (h + 1) t (lefP p) = nuW h t p := by
  have : unW (h + 1) t (lefP p) = unW h t p := by
    match h with
    | 0 => show mirP t (lefP (lefP (lefP (lefP p)))) = mirP t p; rw [lef4]
    | 1 => rfl
    | 2 => rfl
    | 3 => rfl
  unfold nuW
  rw [this]
theorem t43 : (4 - ((3 : Fin 4) : Nat)) % 4 = 1 := rfl
def ptP (p : Int × Int) : PV := .tup [.int p.1, .int p.2]
theorem B.unW {k : Nat} {h : Fin 4} {t : Bool} {p : Int × Int} : (B k (unW h t p).1 ∧ B k (unW h t p).2) ↔ (B k p.1 ∧ B k p.2) := by
  obtain ⟨x, y⟩ := p
  unfold B
  match h, t with
  | 0, false => simp [L3.unW, mirP, lefN, lefP]
  | 0, true => simp [L3.unW, mirP, lefN, lefP]
  | 1, false => simp [L3.unW, mirP, lefN, lefP]; omega
  | 1, true => simp [L3.unW, mirP, lefN, lefP]; omega
  | 2, false => simp [L3.unW, mirP, lefN, lefP]
  | 2, true => simp [L3.unW, mirP, lefN, lefP]
  | 3, false => simp [t43, L3.unW, mirP, lefN, lefP]; omega
  | 3, true => simp [t43, L3.unW, mirP, lefN, lefP]; omega
theorem B.nuW {k : Nat} {h : Fin 4} {t : Bool} {p : Int × Int} (b : B k (nuW h t p)) : B k p.1 ∧ B k p.2 := B.unW.mp (B.ring b)
/-! ### for the defs -/
theorem tn_r (t : Bool) : decide (tnS t = ("r" : Str)) = t := by cases t <;> decide +kernel
end L3

namespace L3
open PySem PySem.Spec L2
section
variable {X : Cx} {ad : AD} {ad2 : List Addr} {σ : L2.St} {H H' : Hp} {ρ ρ' : Env} {μ μ1 μ2 μ' : Mem} {p q r : PV} {e e2 a b c tg : Expr} {es : List Expr} {pos cp : Pos} {k : Nat} {D : AEnds} {Dc : Ends} {st : Stmt} {sts : List Stmt}
  {P : Program} {w : World} {K : PySem.W.Frag} {mg : Str → Option Value} {base : Heap} {N : List Str} {sc : Scope} {x : Str}
/-! ### zip, enumerate -/
def zipP (xs ys : List PV) : List PV := List.zipWith (fun p q => .tup [p, q]) xs ys
theorem zipP_get {xs ys : List PV} {i : Nat} {r : PV} (h : (zipP xs ys)[i]? = some r) : ∃ p q, xs[i]? = some p ∧ ys[i]? = some q ∧ r = .tup [p, q] := by
  unfold zipP at h
  rw [List.getElem?_zipWith] at h
  cases hx : xs[i]? with
  | none => rw [hx] at h; cases h
  | some u =>
    cases hy : ys[i]? with
    | none => rw [hx, hy] at h; cases h
    | some v => rw [hx, hy] at h; exact ⟨u, v, rfl, rfl, (Option.some.inj h).symm⟩
theorem Rp.pair {T : Addr} {u v : V} (hT : H T = none) (m : Mst ad K H μ) (r1 : Rp ad K H p u) (r2 : Rp ad K H q v) : Rp ad K (upd H T (.tup [u, v])) (.tup [p, q]) (.ref T) := by
  unfold Rp
  refine ⟨T, [u, v], rfl, .inl ⟨upd_same, m.notIn hT⟩, ?_⟩
  have := RpL.mono (K := K) (Stp.data (o := .tup [u, v]) hT) [p, q] [u, v] (RpL.cons r1 (RpL.cons r2 RpL.nil))
  rwa [AD.append_nil] at this
theorem Keep.fresh {T : Addr} {o : HO} (hT : H T = none) : Keep K ad H ad (upd H T o) := fun p v r => by
  have := Rp.mono (K := K) (Stp.data (o := o) hT) p v r
  rwa [AD.append_nil] at this
theorem WalkD.zip {M : Mem → Prop} {l1 l2 : Addr} {xs ys : List PV}
    (h : ∀ ad' H1 μ1, Keep K ad H ad' H1 → Mst ad' K H1 μ1 → M μ1 → (∃ vs, SqL K H1 l1 vs ∧ RpL ad' K H1 xs vs) ∧ (∃ vs, SqL K H1 l2 vs ∧ RpL ad' K H1 ys vs)) : WalkD K ad H (Itz K l1 l2) (zipP xs ys) M := fun adx H1 μ1 s m hM => by
  obtain ⟨⟨us, h1, r1⟩, ⟨vs, h2, r2⟩⟩ := h adx H1 μ1 s m hM
  have hz : (zipP xs ys).length = min xs.length ys.length := by simp [zipP]
  refine ⟨fun i hi => ?_, ⟨us, vs, h1, h2, by rw [hz, ← r1.length, ← r2.length]; omega⟩, fun i p x H2 e y => ?_⟩
  · rw [hz] at hi
    obtain ⟨u, hu, _⟩ := r1.get (i := i) (List.getElem?_eq_getElem (by omega))
    obtain ⟨v, hv, _⟩ := r2.get (i := i) (List.getElem?_eq_getElem (by omega))
    exact ⟨us, vs, u, v, h1, h2, hu, hv⟩
  · obtain ⟨p1, p2, e1, e2, e3⟩ := zipP_get e
    obtain ⟨T, u, v, hx, hT, hH, hu, hv⟩ := y
    obtain ⟨u', hu', ru⟩ := r1.get e1
    obtain ⟨v', hv', rv⟩ := r2.get e2
    have := hu us h1
    rw [hu'] at this
    cases this
    have := hv vs h2
    rw [hv'] at this
    cases this
    subst hx hH e3
    exact ⟨Stp.data hT, m.data hT, Rp.pair hT m ru rv, Keep.fresh hT⟩
theorem RpL.inv2z {vs : List V} (r : RpL ad K H [p, q] vs) : ∃ u v, vs = [u, v] ∧ Rp ad K H p u ∧ Rp ad K H q v := by
  unfold RpL at r
  obtain ⟨u, t, e1, r1, r2⟩ := r
  obtain ⟨v, e2, r3⟩ := RpL.inv1 r2
  exact ⟨u, v, by rw [e1, e2], r1, r3⟩
theorem DI.zip {elts : List Expr} {kk : Nat} {tpos : Pos} {xs ys : List PV} (cx : CxD X P w K mg base N sc k) (hx : sc.names.lookup ("zip" : Str) = some .globalImplicit) (hm : mg "zip" = none) (h : DA X [e, e2] ρ μ [p, q] μ1) (h1 : asL μ1 p = some xs) (h2 : asL μ1 q = some ys)
    (hs : starEach [e, e2] X.env = (false, eval e X.env) :: starEach [e2] X.env := by rfl) (hpl : (backTo pos (starEach [e2] X.env)).any (·.1) = false := by rfl) :
    DI X (.Tuple elts kk tpos) (.Call (.Name "zip" cp) [e, e2] [] pos) ρ μ (zipP xs ys) (fun m => Keeps p xs m ∧ Keeps q ys m) μ1 :=
  ⟨_, RZ.pi_zipA (cx.gl _ hx) (by rw [cx.emg]; exact hm) (pa_w [e, e2]) hs hpl, fun ad σ H Q R hQ => h ad σ H _ R fun ad2 vs H' s m r => by
    obtain ⟨u, v, ev, ru, rv⟩ := r.inv2z
    obtain ⟨l1, e1, ⟨us, q1⟩, k1⟩ := ru.seq_stays h1 m
    obtain ⟨l2, e2', ⟨ws, q2⟩, k2⟩ := rv.seq_stays h2 m
    refine ⟨l1, l2, us, ws, by rw [ev, e1, e2'], .inl ⟨q1, q2, hQ ad2 _ H' s m (WalkD.zip fun ad' H1 μ1 s m hM => ⟨k1 ad' H1 μ1 s m hM.1, k2 ad' H1 μ1 s m hM.2⟩)⟩⟩⟩
/-! ### len(set(xs)) -/
theorem RpL.tups {ks : List (List Int)} : ∀ {vs : List V}, RpL ad K H (ks.map fun k => PV.tup (k.map PV.int)) vs → ∃ qs : List (Addr × List Int), vs = qs.map (fun p => V.ref p.1) ∧ qs.map (·.2) = ks ∧ ∀ p ∈ qs, SqT K H p.1 (p.2.map V.int) := by
  induction ks with
  | nil => intro vs r; exact ⟨[], by unfold RpL at r; exact r, rfl, fun _ h => nomatch h⟩
  | cons k ks ih =>
    intro vs r
    rw [List.map_cons] at r
    unfold RpL at r
    obtain ⟨v, t, e1, r1, r2⟩ := r
    obtain ⟨qs, e2, e3, e4⟩ := ih r2
    obtain ⟨l, us, e5, h5, r5⟩ := r1.tup_inv
    rw [r5.ints'] at h5
    refine ⟨(l, k) :: qs, by rw [e1, e2, e5]; rfl, by rw [List.map_cons, e3], fun p hp => ?_⟩
    rcases List.mem_cons.mp hp with z | z
    · rw [z]; exact h5
    · exact e4 p z
end
end L3

namespace L3
open PySem PySem.Spec L2
section
variable {X : Cx} {ad : AD} {ad2 : List Addr} {σ : L2.St} {H H' : Hp} {ρ ρ' : Env} {μ μ1 μ2 μ' : Mem} {p q r : PV} {e e2 a b c tg : Expr} {es : List Expr} {pos cp : Pos} {k : Nat} {D : AEnds} {Dc : Ends} {st : Stmt} {sts : List Stmt}
  {P : Program} {w : World} {K : PySem.W.Frag} {mg : Str → Option Value} {base : Heap} {N : List Str} {sc : Scope} {x : Str}
/-! ### open-ended calls of built-ins, items drawn -/
def rwC (X : Cx) (f : Value) : List V → Hp → VK → Prop := fun xs H Q => ∀ (pins : List (Addr × Obj)) (s : Shared) (σ : St) (us : List Value), Inv X pins σ H s → Vals xs us → wpAny (model X.prog X.w) X.A (call f us) (EP X pins σ Q) X.xe s
theorem call_w {f : Value} : CallR X f (rwC X f) := fun pins s σ H xs us Q I r h => h pins s σ us I r
theorem WE.callB {id : String} {Qa : PV → Mem → Prop} (cx : CxD X P w K mg base N sc k) (hx : sc.names.lookup x = some .globalImplicit) (hm : mg x = none) (hv : bootBuiltins x = some (.builtin id)) (h : WA X (e :: es) ρ μ fun ps m => ∃ p, CallA X (.builtin id) ps m p ∧ Qa p m)
    (hn : x ≠ "__name__" := by decide) (hdb : (x == ("__debug__" : Str)) = false := by decide) (he : starEach (e :: es) X.env = (false, eval e X.env) :: starEach es X.env := by rfl) (hpl : (backTo pos (starEach es X.env)).any (·.1) = false := by rfl) :
    WE X (.Call (.Name x cp) (e :: es) [] pos) ρ μ Qa := fun ad σ H Q R f =>
  wE.of (pe_callB call_w (cx.gl x hx) (by rw [cx.emg]; exact hm) hv (pa_w _) hn hdb he hpl) (h ad σ H _ R fun ad1 vs H1 ps μ1 s1 m1 r1 q1 => by
    obtain ⟨p, ⟨rr, ho, hr⟩, qp⟩ := q1
    exact fun pins s σ' us I r2 => ho pins s σ' H1 vs us Q I r2 (hr (ad ++ ad1) H1 vs Q m1 r1 fun ad3 w' H3 s3 m3 r3 =>
      f (ad1 ++ ad3) w' H3 p μ1 (s1.trans s3) (by rw [← AD.append_assoc]; exact m3) (by rw [← AD.append_assoc]; exact r3) qp))
theorem WE.callTy {T : String} {Qa : PV → Mem → Prop} (cx : CxD X P w K mg base N sc k) (hx : sc.names.lookup x = some .globalImplicit) (hm : mg x = none) (hv : bootBuiltins x = some (.type T)) (h : WA X (e :: es) ρ μ fun ps m => ∃ p, CallA X (.type T) ps m p ∧ Qa p m)
    (hn : x ≠ "__name__" := by decide) (hdb : (x == ("__debug__" : Str)) = false := by decide) (he : starEach (e :: es) X.env = (false, eval e X.env) :: starEach es X.env := by rfl) (hpl : (backTo pos (starEach es X.env)).any (·.1) = false := by rfl) :
    WE X (.Call (.Name x cp) (e :: es) [] pos) ρ μ Qa := fun ad σ H Q R f =>
  wE.of (pe_callTy call_w (cx.gl x hx) (by rw [cx.emg]; exact hm) hv (pa_w _) hn hdb he hpl) (h ad σ H _ R fun ad1 vs H1 ps μ1 s1 m1 r1 q1 => by
    obtain ⟨p, ⟨rr, ho, hr⟩, qp⟩ := q1
    exact fun pins s σ' us I r2 => ho pins s σ' H1 vs us Q I r2 (hr (ad ++ ad1) H1 vs Q m1 r1 fun ad3 w' H3 s3 m3 r3 =>
      f (ad1 ++ ad3) w' H3 p μ1 (s1.trans s3) (by rw [← AD.append_assoc]; exact m3) (by rw [← AD.append_assoc]; exact r3) qp))
/-- all are whole numbers from lo to hi -/
def AllI (lo hi : Int) : List PV → Prop
  | [] => True
  | .int n :: t => (lo ≤ n ∧ n ≤ hi) ∧ AllI lo hi t
  | _ => False
def AnyI : List PV → Prop
  | [] => True
  | .int _ :: t => AnyI t
  | _ => False
/-- all are pairs of whole numbers from lo to hi -/
def AllPt (lo hi : Int) : List PV → Prop
  | [] => True
  | .tup [.int n, .int m] :: t => (lo ≤ n ∧ n ≤ hi ∧ lo ≤ m ∧ m ≤ hi) ∧ AllPt lo hi t
  | _ => False
theorem AllI.mem {lo hi : Int} : ∀ {xs : List PV}, AllI lo hi xs → ∀ p ∈ xs, ∃ n, p = .int n ∧ lo ≤ n ∧ n ≤ hi
  | [], _, p, hp => nomatch hp
  | .int n :: t, h, p, hp => by
    rcases List.mem_cons.mp hp with z | z
    · exact ⟨n, z, h.1.1, h.1.2⟩
    · exact AllI.mem (xs := t) h.2 p z
theorem AnyI.mem : ∀ {xs : List PV}, AnyI xs → ∀ p ∈ xs, ∃ n, p = .int n
  | [], _, p, hp => nomatch hp
  | .int n :: t, h, p, hp => by
    rcases List.mem_cons.mp hp with z | z
    · exact ⟨n, z⟩
    · exact AnyI.mem (xs := t) h p z
theorem AllPt.mem {lo hi : Int} : ∀ {xs : List PV}, AllPt lo hi xs → ∀ p ∈ xs, ∃ n m, p = .tup [.int n, .int m] ∧ lo ≤ n ∧ n ≤ hi ∧ lo ≤ m ∧ m ≤ hi
  | [], _, p, hp => nomatch hp
  | .tup [.int n, .int m] :: t, h, p, hp => by
    rcases List.mem_cons.mp hp with z | z
    · exact ⟨n, m, z, h.1⟩
    · exact AllPt.mem (xs := t) h.2 p z
theorem at_mem {xs : List PV} {i : Int} (h0 : 0 ≤ i) (h1 : i < xs.length) : ∃ p, p ∈ xs ∧ atI xs i = some p := by
  obtain ⟨k, rfl⟩ := Int.eq_ofNat_of_zero_le h0
  have hk : k < xs.length := by omega
  exact ⟨xs[k], List.getElem_mem hk, atI_nat (by simp [hk])⟩
theorem ixW {xs : List PV} {i : Int} {Qz : PV → Prop} (hl : asL μ p = some xs) (h0 : 0 ≤ i) (h1 : i < xs.length) (h : ∀ z ∈ xs, Qz z) : ∃ z, IxA X p (.int i) μ z ∧ Qz z := by
  obtain ⟨z, hz, e⟩ := at_mem h0 h1
  exact ⟨z, ia_lst hl e, h z hz⟩
theorem ixWI {xs : List PV} {i lo hi : Int} {Qz : PV → Prop} (hl : asL μ p = some xs) (h0 : 0 ≤ i) (h1 : i < xs.length) (ha : AllI lo hi xs) (h : ∀ z, lo ≤ z → z ≤ hi → Qz (.int z)) : ∃ z, IxA X p (.int i) μ z ∧ Qz z :=
  ixW hl h0 h1 fun z hz => by
    obtain ⟨n, e, l, u⟩ := ha.mem z hz
    rw [e]; exact h n l u
theorem ixWP {xs : List PV} {i lo hi : Int} {Qz : PV → Prop} (hl : asL μ p = some xs) (h0 : 0 ≤ i) (h1 : i < xs.length) (ha : AllPt lo hi xs) (h : ∀ n m, lo ≤ n → n ≤ hi → lo ≤ m → m ≤ hi → Qz (.tup [.int n, .int m])) : ∃ z, IxA X p (.int i) μ z ∧ Qz z :=
  ixW hl h0 h1 fun z hz => by
    obtain ⟨n, m, e, l, u, l2, u2⟩ := ha.mem z hz
    rw [e]; exact h n m l u l2 u2
/-! ### x in a list or tuple of flat items -/
def flatP : PV → Bool
  | .non => true
  | .bl _ => true
  | .int _ => true
  | .str _ => true
  | _ => false
def pvV : PV → V
  | .bl b => .bl b
  | .int i => .int i
  | .str z => .str z
  | _ => .non
theorem Rp.flat {ad : AD} {H : Hp} {v : V} (h : flatP p = true) (r : Rp ad K H p v) : v = pvV p := by
  cases p with
  | non => exact r.non_inv
  | bl b => exact r.bl_inv
  | int i => exact r.int_inv
  | str z => exact r.str_inv
  | _ => cases h
theorem RpL.flat {ad : AD} {H : Hp} : ∀ {ps : List PV} {vs : List V}, ps.all flatP = true → RpL ad K H ps vs → vs = ps.map pvV
  | [], vs, _, r => by unfold RpL at r; exact r
  | p :: ps, vs, h, r => by
    unfold RpL at r
    obtain ⟨v, t, e, r1, r2⟩ := r
    rw [List.all_cons, Bool.and_eq_true] at h
    rw [e, r1.flat h.1, RpL.flat h.2 r2, List.map_cons]
/-! ### pairs -/
/-! ### headings and turns, found and turned -/
theorem CxF.setP (cx : CxF X P w K mg base N sc k) (i : Nat) (hN : N[i]? = some x) (hs : stoB sc x = true) {pos pos' : Pos} (h : DE X e ρ μ q μ1) (hn : DSs X sts (ρ.set i (some q)) μ1 D)
    (hsw : swapsWith e (some (.Name x pos')) pos.line X.env = pure false := by rfl) : DSs X (.Assign [.Name x pos'] e pos :: sts) ρ μ D := DSs.cons (cx.set i hN hs h hn hsw)
end
end L3

namespace L3
open PySem PySem.Spec L2 PyProof.Rows
/-! ### max, min of a tuple of ints; of three and more ints -/
section
variable {prog : Program} {w : World} {A : Around} {E : Value → Shared → Prop} {s : Shared} {l : Addr} {its : List Value} {ns : List Int}
theorem args_max4 (a b c d : Value) : argsOk "max" ⟨[a, b, c, d], []⟩ := by unfold argsOk; kernel_rfl
theorem call_max_many {a b : Value} {cs : List Value} {Q : Value → Shared → Prop} (ha : argsOk "max" ⟨a :: b :: cs, []⟩) (hz : (a :: b :: cs).length ≤ sizeLine)
    (h : wpAny (model prog w) A.in1 (pyIter (.ref s.heap.objs.size)) (fun it s₂ => ∃ I fp wr n P St bt, it = .ref I ∧ Walks prog w A.in1 I fp wr n P St ∧ St 0 s₂.heap ∧ (∀ b ∈ fp, b < s₂.heap.objs.size) ∧ 0 < n ∧ CmpOf prog w A.in1 .Gt P bt ∧
      ∀ v h' tk, P (argBest bt (n - 1)) v → (∀ b o, b ∉ wr → s₂.heap.get? b = some o → h'.get? b = some o) → Q v { s₂ with heap := h', toks := tk }) E
      { s with heap := s.heap.push { cls := .type "tuple", data := .seq (a :: b :: cs).toArray } }) :
    wpAny (model prog w) A (call (.builtin "max") (a :: b :: cs)) Q E s := by
  have hname : (toString "max" ++ toString ".loop" : String) = "max.loop" := by decide
  refine call_function_tree F.kind_max F.plain_max F.entry_max ha ?_
  show wpAny _ A.in1 (Builtin.Builtins.bindParams "max" ["key", "default"] 0 ⟨[], []⟩ >>= _) _ _ s
  refine wpAny_bind (wpAny_of_eq (show Builtin.Builtins.bindParams "max" ["key", "default"] 0 ⟨[], []⟩ = pure [none, none] from rfl) ?_)
  show wpAny _ A.in1 (newTuple (a :: b :: cs) >>= _) _ _ s
  refine wpAny_bind (wpAny_newObj_type ?_ (by show (a :: b :: cs).toArray.size ≤ sizeLine; simpa using hz))
  refine wpAny_bind (wpAny_mono h (fun it s₂ h₂ => ?_) fun _ _ e => e)
  obtain ⟨I, fp, wr, n, P, St, bt, rfl, W, hst, hfp, hn, hcmp, hQ⟩ := h₂
  refine wpAny_bind (wpAny_newObj_type ?_)
  have hSf : s₂.heap.objs.size ∉ fp := fun hm => Nat.lt_irrefl _ (hfp _ hm)
  rw [hname]
  refine wpAny_pure ⟨plainId_quiet F.plain_max_loop _, codeAny_max_loop_first W bt hcmp s₂.heap.objs.size hSf hn (W.frame _ _ _ hst fun b _ o e => Heap.get?_push_of_some _ e) (Heap.get?_push_size _ rfl) fun v h' tk hP hk => ?_⟩
  exact hQ v h' tk hP fun b o hbw e => hk b o hbw (Nat.ne_of_lt (Heap.lt_size e)) (Heap.get?_push_of_some _ e)
theorem many_fp {T : Addr} {o1 o2 : Obj} (hT : T = s.heap.objs.size) : ∀ c ∈ [(s.heap.push o1).objs.size, T], c < ((s.heap.push o1).push o2).objs.size := fun c hc => by
  subst hT
  rw [Heap.size_push, Heap.size_push]
  rcases List.mem_cons.mp hc with rfl | hc
  · rw [Heap.size_push]; exact Nat.lt_succ_self _
  · rcases List.mem_cons.mp hc with rfl | hc
    · exact Nat.lt_succ_of_lt (Nat.lt_succ_self _)
    · cases hc
theorem many_old {h' : Heap} {o1 o2 : Obj} (hk : ∀ b o, b ∉ [(s.heap.push o1).objs.size] → ((s.heap.push o1).push o2).get? b = some o → h'.get? b = some o) : ∀ c o, s.heap.get? c = some o → h'.get? c = some o := fun c o e => by
  refine hk c o (fun hm => ?_) (Heap.get?_push_of_some _ (Heap.get?_push_of_some _ e))
  rcases List.mem_cons.mp hm with e1 | hm
  · have := Heap.lt_size e; rw [e1, Heap.size_push] at this; exact Nat.lt_irrefl _ (Nat.lt_of_succ_lt this)
  · cases hm
theorem max_many_raw {Q : Value → Shared → Prop} {a b : Value} {cs : List Value} (ha : argsOk "max" ⟨a :: b :: cs, []⟩) (hz : (a :: b :: cs).length ≤ sizeLine) (hh : A.handled = none) (hi : IntsAre (a :: b :: cs) ns)
    (h : ∀ h' tk M t', (∀ b o, s.heap.get? b = some o → h'.get? b = some o) → M ∈ ns → (∀ a, a ∈ ns → a ≤ M) → Q (.int M t') { s with heap := h', toks := tk }) : wpAny (model prog w) A (call (.builtin "max") (a :: b :: cs)) Q E s := by
  obtain ⟨xs, e⟩ := hi.allInts.items
  have hn : numsOf (intItems xs).toList = ns := by rw [← e]; exact hi.numsOf
  rw [nums_intItems] at hn
  subst hn
  have hsz : 0 < xs.size := by
    have := congrArg Array.size e
    simp [intItems] at this
    omega
  have hT : (s.heap.push { cls := .type "tuple", data := .seq (a :: b :: cs).toArray }).IsTuple s.heap.objs.size (intItems xs) := ⟨_, Heap.get?_push_size _ rfl, rfl, 0, by rw [← e]⟩
  refine call_max_many ha hz (wpAny_pyIter_tuple hT ?_)
  refine ⟨_, [_, s.heap.objs.size], [_], _, _, _, _, rfl, Walks.tuple (A := A.in1) hh _ s.heap.objs.size (by rw [Heap.size_push]; exact Nat.ne_of_lt (Nat.lt_succ_self _)) (intItems xs),
    ⟨⟨_, Heap.get?_push_size _ rfl, rfl, rfl⟩, hT.push _⟩, many_fp rfl, by simpa [intItems] using hsz, CmpOf.ints_gt (numAt xs) (fun _ _ => intItems_at), fun v h' tk hP hk => ?_⟩
  have hv : (intItems xs)[argBest (fun i j => decide (numAt xs i > numAt xs j)) (xs.size - 1)]? = some v := by simpa [intItems] using hP
  obtain ⟨t, rfl⟩ := intItems_at hv
  obtain ⟨h1, h2⟩ := argBest_gt (numAt xs) (xs.size - 1)
  refine h h' tk _ t (many_old hk) ?_ fun a ha => ?_
  · rw [numAt_eq]; exact PySem.getD_mem (by rw [List.length_map, Array.length_toList]; omega)
  · obtain ⟨j, hj, rfl⟩ := mem_getD ha
    rw [List.length_map, Array.length_toList] at hj
    rw [← numAt_eq]; exact h2 j (by omega)
end
section
variable {X : Cx} {μ : Mem} {p : PV}
theorem vals_ints : ∀ {ns : List Int} {us : List Value}, Vals (ns.map V.int) us → IntsAre us ns := fun r => r.ints
theorem Vals.cons4 {x y z q : V} {us : List Value} (r : Vals [x, y, z, q] us) : ∃ u v t o, us = [u, v, t, o] := by
  cases r with
  | cons a r => cases r with
    | cons b r => cases r with
      | cons c r => cases r with
        | cons d r => cases r; exact ⟨_, _, _, _, rfl⟩
theorem mx4 {i j k l m : Int} (h : m ∈ [i, j, k, l]) (h' : ∀ y, y ∈ [i, j, k, l] → y ≤ m) : m = max (max (max i j) k) l := by
  have := h' i (by simp); have := h' j (by simp); have := h' k (by simp); have := h' l (by simp)
  simp at h; omega
theorem cr_max4 (hc : X.calm = true) : CallR X (.builtin "max") (fun vs H Q => ∃ i j k l : Int, vs = [.int i, .int j, .int k, .int l] ∧ Q (.int (max (max (max i j) k) l)) H) := by
  intro pins s σ H vs us Q I r h
  obtain ⟨i, j, k, l, rfl, q⟩ := h
  have ri := vals_ints (ns := [i, j, k, l]) r
  obtain ⟨u, v, t, o, rfl⟩ := Vals.cons4 r
  exact max_many_raw (args_max4 _ _ _ _) (le_line (Nat.le_of_ble_eq_true rfl)) (I.ok.hd hc) ri fun h' tk m t' hk h1 h2 => ⟨.int _, H, I.kept hk, ⟨_, rfl⟩, by rw [mx4 h1 h2]; exact q⟩
theorem ca_max4 {i j k l : Int} (hc : X.calm = true) : CallA X (.builtin "max") [.int i, .int j, .int k, .int l] μ (.int (max (max (max i j) k) l)) :=
  ⟨_, cr_max4 hc, fun ad H vs Q m r f => by
    have := r.ints' (ns := [i, j, k, l])
    exact ⟨i, j, k, l, this, f [] _ H Stp.refl (by rwa [AD.append_nil]) (Rp.int' _)⟩⟩
end
end L3

namespace L3
open PySem PySem.Spec L2
/-! ### the four beside, rings, corners -/
/-- 1 where a is less than n -/
def ls (n a : Int) : Int := if a < n then 1 else 0
theorem ring_max (x y : Int) : ringF x y = max ((x.natAbs : Nat) : Int) ((y.natAbs : Nat) : Int) := rfl
end L3

namespace L3
open PySem PySem.Spec L2
/-! ### the four beside, in the world -/
theorem unW_fst (h : Fin 4) (t : Bool) (x y : Int) : unW h t (x, y) = match h, t with
    | 0, false => (x, y)
    | 0, true => (x, 0 - y)
    | 1, false => (y, 0 - x)
    | 1, true => (y, x)
    | 2, false => (0 - x, 0 - y)
    | 2, true => (0 - x, y)
    | 3, false => (0 - y, x)
    | 3, true => (0 - y, 0 - x) := by
  match h, t with
  | 0, false => simp [unW, mirP, lefN, lefP]
  | 0, true => simp [unW, mirP, lefN, lefP]
  | 1, false => simp [unW, mirP, lefN, lefP]
  | 1, true => simp [unW, mirP, lefN, lefP]
  | 2, false => simp [unW, mirP, lefN, lefP]
  | 2, true => simp [unW, mirP, lefN, lefP]
  | 3, false => simp [t43, unW, mirP, lefN, lefP]
  | 3, true => simp [t43, unW, mirP, lefN, lefP]
theorem ring_un (h : Fin 4) (t : Bool) (p : Int × Int) : ringF (unW h t p).1 (unW h t p).2 = ringF p.1 p.2 := by
  obtain ⟨x, y⟩ := p
  rw [unW_fst, ring_max, ring_max]
  match h, t with
  | 0, false => rfl
  | 0, true => simp only []; omega
  | 1, false => simp only []; omega
  | 1, true => simp only []; omega
  | 2, false => simp only []; omega
  | 2, true => simp only []; omega
  | 3, false => simp only []; omega
  | 3, true => simp only []; omega
theorem side_W (h : Fin 4) (t : Bool) (p : Int × Int) : Side (ringF p.1 p.2) (unW h t p).1 (unW h t p).2 (nuW h t p) := by
  have := side_of (unW h t p).1 (unW h t p).2
  rwa [ring_un] at this
/-! ### tuples of ints, truths compared -/
theorem toDL_ints {ns : List Int} : toDL (ns.map PV.int) = ns.map PyData.int := by
  induction ns with
  | nil => rfl
  | cons n ns ih => rw [List.map_cons, List.map_cons, toDL, ih]; rfl
theorem okDL_ints {ns : List Int} : okDL (ns.map PV.int) = true := by
  induction ns with
  | nil => rfl
  | cons n ns ih => rw [List.map_cons, okDL, ih]; rfl
theorem lay_ints : ∀ {ns : List Int}, PyData.canLayAll0 (ns.map PyData.int) = true
  | [] => by simp [PyData.canLayAll0]
  | n :: ns => by rw [List.map_cons]; simp [PyData.canLayAll0, PyData.canLay0, lay_ints (ns := ns)]
theorem dep_ints : ∀ {ns : List Int}, PyData.depthAll (ns.map PyData.int) = 0
  | [] => by simp [PyData.depthAll]
  | n :: ns => by rw [List.map_cons]; simp [PyData.depthAll, PyData.depth, dep_ints (ns := ns)]
theorem eqv_ints : ∀ {ns ms : List Int}, PyData.eqvAll (ns.map PyData.int) (ms.map PyData.int) = decide (ns = ms)
  | [], [] => by simp [PyData.eqvAll]
  | [], m :: ms => by simp [PyData.eqvAll]
  | n :: ns, [] => by simp [PyData.eqvAll]
  | n :: ns, m :: ms => by
    rw [List.map_cons, List.map_cons]
    simp only [PyData.eqvAll, PyData.eqv, eqv_ints (ns := ns) (ms := ms)]
    by_cases e1 : n = m <;> by_cases e2 : ns = ms <;> simp [e1, e2]
section
variable {X : Cx} {μ : Mem} {ns ms : List Int}
theorem ti_shaped (h : ns.length ≤ 1000 := by exact Nat.le_of_ble_eq_true rfl) : SeqAt.shaped (toD (vw μ (.tup (ns.map PV.int)))) = true := by
  show SeqAt.shaped (toD (.tup (ns.map PV.int))) = true
  unfold toD
  rw [toDL_ints]
  unfold SeqAt.shaped
  simp [PyData.canLay0, PyData.depth, lay_ints, dep_ints]
theorem ti_eqv : PyData.eqv (toD (vw μ (.tup (ns.map PV.int)))) (toD (vw μ (.tup (ms.map PV.int)))) = decide (ns = ms) := by
  show PyData.eqv (toD (.tup (ns.map PV.int))) (toD (.tup (ms.map PV.int))) = decide (ns = ms)
  unfold toD
  rw [toDL_ints, toDL_ints]
  simp only [PyData.eqv, eqv_ints]
theorem oa_neTI (hu : X.A.units + 64 < cLine) (h1 : ns.length ≤ 1000 := by exact Nat.le_of_ble_eq_true rfl) (h2 : ms.length ≤ 1000 := by exact Nat.le_of_ble_eq_true rfl) : OpA X (compareOp .NotEq) (.tup (ns.map PV.int)) (.tup (ms.map PV.int)) μ (.bl (!decide (ns = ms))) := by
  have := oa_neD (X := X) (μ := μ) (p := .tup (ns.map PV.int)) (q := .tup (ms.map PV.int)) hu (by show okD (.tup _) = true; unfold okD; exact okDL_ints) (by show okD (.tup _) = true; unfold okD; exact okDL_ints) (ti_shaped h1) (ti_shaped h2)
  rwa [ti_eqv] at this
end
end L3

namespace L3
open PySem PySem.Spec L2
/-! ### rings' ends, corners' numbers -/
def fstR (r : Int) : Int := if r = 0 then 0 else (2 * r - 1) * (2 * r - 1)
theorem sq_exp (r : Int) : (2 * r + 1) * (2 * r + 1) = 4 * r * (r + 1) + 1 := by
  have e1 : (2 * r + 1) * (2 * r + 1) = 4 * (r * r) + 4 * r + 1 := by
    rw [Int.add_mul, Int.mul_add, show 2 * r * (2 * r) = 4 * (r * r) by rw [Int.mul_assoc, Int.mul_left_comm r 2 r, ← Int.mul_assoc] <;> rfl]; omega
  have e2 : 4 * r * (r + 1) = 4 * (r * r) + 4 * r := by rw [Int.mul_add, Int.mul_assoc]; omega
  omega
theorem ends_in {r x y n : Int} (S : Side r x y n) : fstR r ≤ n ∧ n ≤ 4 * r * (r + 1) := by
  have r0 := S.r0
  by_cases z : r = 0
  · have : n = 0 := by cases S <;> omega
    subst z this
    decide
  · obtain ⟨a, b⟩ := S.span (by omega)
    rw [sq_exp] at b
    unfold fstR
    rw [if_neg z]
    omega
end L3

namespace L3
open PySem PySem.Spec L2
/-! ### the deck of the laws 9 to 11, 20 to 28 -/
structure DeckB where
  g : Int
  m : Int
  c : Int
structure DbOk (d : DeckB) (n : Int) : Prop where
  g0 : 0 ≤ d.g
  m0 : 0 ≤ d.m
  m1 : d.m ≤ 2000000000
  c0 : 0 ≤ d.c
  c1 : d.c ≤ n
theorem DbOk.mono {d : DeckB} {n m : Int} (h : DbOk d n) (l : n ≤ m) : DbOk d m := ⟨h.g0, h.m0, h.m1, h.c0, Int.le_trans h.c1 l⟩
section
variable {X : Cx} {μ : Mem}
end
end L3

namespace L3
open PySem PySem.Spec L2
section
variable {X : Cx} {ad : AD} {σ : L2.St} {H : Hp} {ρ : Env} {μ μ1 : Mem} {p q r : PV} {e : Expr} {pos cp : Pos} {k : Nat}
  {P : Program} {w : World} {K : PySem.W.Frag} {mg : Str → Option Value} {base : Heap} {N : List Str} {sc : Scope} {x : Str}
/-! ### a dict of the module, texts as keys -/
/-- at the module's name x stands a dict that gives v at the key z -/
def KTab (K : PySem.W.Frag) (w : World) (mg : Str → Option Value) (x z : Str) (v : V) : Prop := ∃ a, mg x = some (.ref a) ∧ KDct K w a z v
theorem KTab.of {K : PySem.W.Frag} {w : World} {mg : Str → Option Value} {x z : Str} {v : V} {a : Addr} {ks : List Str} {u : Value} (h1 : mg x = some (.ref a)) (h2 : He.dicW K a = some (He.keysIn w.params ks)) (h3 : PySem.W.nsIn K a z = some (some u)) (r : RelV v u) : KTab K w mg x z v := by
  obtain ⟨es, n, D⟩ := He.dicW_ok h2
  exact ⟨a, h1, es, n, u, D.at_, D.lit, h3, r⟩
/-! ### tuples cut and joined, a list taken apart -/
theorem DG.lst {tg : List Expr} {ps : List PV} {j : Nat} {ρ' : Env} (hc : X.calm = true) (h : DGs X tg ps ρ μ ρ') (hn : (assignEach tg X.env).length = ps.length := by rfl) (hst : (assignEach tg X.env).findIdx? (·.1) = none := by rfl) : DG X (.Tuple tg j pos) (.lst ps) ρ μ ρ' := by
  obtain ⟨tt, hp, ht⟩ := h
  intro ad σ H v Q R r hQ
  obtain ⟨a, vs, e1, h1, r1⟩ := r.asL_inv (show asL μ (.lst ps) = some ps from rfl) R.m
  exact wG.of (pg_unl (n := ps.length) hc hp hn hst) ⟨a, vs, e1, h1, r1.length.symm, ht ad σ H vs Q R r1 hQ⟩
end
end L3

namespace L3
open PySem PySem.Spec L2
/-! ### one spiral led to another -/
theorem hf4 : ∀ h : Fin 4, h = 0 ∨ h = 1 ∨ h = 2 ∨ h = 3 := by decide
theorem v3 : ((3 : Fin 4) : Nat) = 3 := rfl
section
variable {X : Cx} {ad : AD} {σ : L2.St} {H : Hp} {ρ : Env} {μ μ1 : Mem} {p q r : PV} {a b : Expr} {pos cp : Pos} {k : Nat}
  {P : Program} {w : World} {K : PySem.W.Frag} {mg : Str → Option Value} {base : Heap} {N : List Str} {sc : Scope}
/-! ### list(range(n)) -/
end
theorem hd_idx (h : Fin 4) : Builtin.Str.occurrences ("enws" : Str) (hdS h) 0 ("enws" : Str).length 1 = h.val :: [] := by
  rcases hf4 h with rfl | rfl | rfl | rfl <;> decide +kernel
section
variable {X : Cx} {ρ : Env} {μ μ1 : Mem} {o e : Expr} {cp : Pos}
/-- o.append(e), e whatever it promises -/
theorem WE.append {n : Nat} {ys : List PV} {apos : Pos} {Qa : PV → Mem → Prop} (ho : DE X o ρ μ (.obj n) μ1) (h1 : asL μ1 (.obj n) = some ys)
    (he : WE X e ρ μ1 fun p μ2 => ∃ xs, μ2[n]? = some (.lst xs) ∧ xs.length < sizeLine ∧ Qa .non (μ2.set n (.lst (xs ++ [p]))))
    (hbase : attributeBase o "append" X.env (eval o X.env) = eval o X.env := by rfl)
    (hfew : ((backTo cp (starEach [e] X.env)).all (fun x => !x.1) && (backToKw cp (keywordEach [] X.env)).all (fun x => x.1.isSome)
      && decide (([e] : List Expr).length + ([] : List Keyword).length + (if ([] : List Keyword).isEmpty then 0 else 1) < 30)) = true := by rfl)
    (hline : (apos.endLine == cp.line) = true := by rfl) (hs : starEach [e] X.env = (false, eval e X.env) :: starEach [] X.env := by rfl) (hplain : (backTo cp (starEach [] X.env)).any (·.1) = false := by rfl) :
    WE X (.Call (.Attribute o "append" apos) [e] [] cp) ρ μ Qa := fun ad σ H Q R f => by
  refine wE.of (pe_bm PySem.F.plainAttrs_list PySem.F.slot_list_append PySem.F.type_list_append mt_append (pe_w o) (pa_w [e]) hbase hfew hline hs hplain) ?_
  refine ho ad σ H _ R fun ad1 v H1 s1 m1 r1 => ⟨r1.tyL m1 h1, ?_⟩
  refine (WA.cons (es := []) (Qa := fun ps m2 => ∃ p xs, ps = [p] ∧ m2[n]? = some (.lst xs) ∧ xs.length < sizeLine ∧ Qa .non (m2.set n (.lst (xs ++ [p])))) (WE.mono he fun p m q => WA.nil (by obtain ⟨xs, q1, q2, q3⟩ := q; exact ⟨p, xs, rfl, q1, q2, q3⟩)) hs) (ad ++ ad1) σ H1 _ (R.mono s1 m1) fun ad2 vs H2 ps μ2 s2 m2 r2 q => ?_
  obtain ⟨p, xs, rfl, h2, hl, hQ⟩ := q
  obtain ⟨u, e2, ru⟩ := r2.inv1
  obtain ⟨l, e3, hl3⟩ := (r1.mono s2).obj_inv
  obtain ⟨ws, hw, rw'⟩ := m2.mem n l _ hl3 h2
  refine ⟨l, ws, u, e3, e2, hw, by rw [← rw'.length]; exact hl, ?_⟩
  have s3 : Stp (ad ++ ad1 ++ ad2) [] H2 (upd H2 l (.lst (ws ++ [u]))) := Stp.write hl3
  have m3 := m2.write (o := .lst (ws ++ [u])) (m := .lst (xs ++ [p])) hl3 ⟨_, upd_same, (rw'.append (RpL.cons ru RpL.nil)).wr hl3⟩
  refine f (ad1 ++ (ad2 ++ [])) .non _ .non _ (s1.trans (s2.trans s3)) ?_ Rp.non' hQ
  rw [List.append_nil, ← AD.append_assoc]; exact m3
end
end L3

namespace L3
open PySem PySem.Spec L2
section
variable {X : Cx} {ad : AD} {σ : L2.St} {H : Hp} {ρ : Env} {μ μ1 : Mem} {p q r : PV} {a b e tg : Expr} {pos cp : Pos} {D : AEnds}
/-! ### a for over what is drawn -/
def DIW (X : Cx) (tg iter : Expr) (ρ : Env) (μ : Mem) (Qa : List PV → (Mem → Prop) → Mem → Prop) : Prop :=
  ∃ wi, PI X tg iter wi ∧ ∀ ad σ H (R : It → Hp → Prop), Rst ad X.K H σ ρ μ → (∀ ad2 J H' xs M μ', Stp ad ad2 H H' → Mst (ad ++ ad2) X.K H' μ' → WalkD X.K (ad ++ ad2) H' J xs M → Qa xs M μ' → R J H') → wi σ H R
theorem DIW.list {Qa : List PV → (Mem → Prop) → Mem → Prop} (h : WE X e ρ μ fun p m => ∃ xs, asL m p = some xs ∧ Qa xs (Keeps p xs) m) : DIW X tg e ρ μ Qa :=
  ⟨_, pi_list (pe_w e), fun ad σ H Q R hQ => h ad σ H _ R fun ad2 v H' p m' s m r q => by
    obtain ⟨xs, hl, q⟩ := q
    obtain ⟨l, e1, h1, h2⟩ := r.seq_stays hl m
    exact ⟨l, e1, h1, hQ ad2 _ H' xs _ m' s m (WalkD.list h2) q⟩⟩
theorem DS.forW {body : List Stmt} {iter : Expr} (po : PassesOwn (model X.prog X.w) X.A X.env X.xe) (hc : X.calm = true)
    (hi : DIW X tg iter ρ μ fun xs M μ1 => ∃ Iv : Nat → Env → Mem → Prop, Iv 0 ρ μ1 ∧ (∀ i ρ μ, i ≤ xs.length → Iv i ρ μ → M μ) ∧
      (∀ (i : Nat) p ρ μ, xs[i]? = some p → Iv i ρ μ → ∃ ρ', DG X tg p ρ μ ρ' ∧ DSs X body ρ' μ { nx := Iv (i + 1), ct := Iv (i + 1), bk := D.nx, rt := D.rt, xx := D.xx }) ∧
      (∀ ρ μ, Iv xs.length ρ μ → D.nx ρ μ))
    (hfs : ∀ x, foldedSetIterable iter X.env x = pure x := by intro _; rfl) : DS X (.For tg iter body [] pos) ρ μ D := fun ad σ H Dc R C => by
  obtain ⟨wi, hpi, hwi⟩ := hi
  refine wS.of (ps_for po hc hpi (pg_w tg) (pss_w body) hfs) (hwi ad σ H _ R fun ad1 J H1 xs M μ1 s1 m1 w hq => ?_)
  obtain ⟨Iv, h0, hM, hs, hd⟩ := hq
  have C1 := C.step s1
  refine ⟨fun i m σ' H' => m = xs.length - i ∧ i ≤ xs.length ∧ ∃ adx ρ' μ', Stp (ad ++ ad1) adx H1 H' ∧ Rst (ad ++ ad1 ++ adx) X.K H' σ' ρ' μ' ∧ Iv i ρ' μ', ⟨_, rfl, Nat.zero_le _, [], ρ, μ1, Stp.refl, by rw [AD.append_nil]; exact R.mono s1 m1, h0⟩, ?_⟩
  rintro i m σ' H' ⟨rfl, hle, adx, ρ2, μ2, s2, R2, i2⟩
  obtain ⟨w1, w2, w3⟩ := w _ H' μ2 s2.kept R2.m (hM i ρ2 μ2 hle i2)
  by_cases hlt : i < xs.length
  · refine .inr ⟨w1 i hlt, fun σ3 H3 => ∃ adx ρ' μ', Stp (ad ++ ad1) adx H1 H3 ∧ Rst (ad ++ ad1 ++ adx) X.K H3 σ3 ρ' μ' ∧ Iv (i + 1) ρ' μ', fun σ3 H3 ⟨adz, ρ3, μ3, s3, R3, i3⟩ => ⟨xs.length - (i + 1), by omega, rfl, hlt, adz, ρ3, μ3, s3, R3, i3⟩, fun x H2 y => ?_⟩
    have e : xs[i]? = some xs[i] := by simp [hlt]
    obtain ⟨s3, m3, r3, _⟩ := w3 i _ x H2 e y
    obtain ⟨ρ3, hg, hbody⟩ := hs i _ ρ2 μ2 e i2
    have R3 : Rst (ad ++ ad1 ++ adx) X.K H2 σ' ρ2 μ2 := by
      have := R2.mono s3 (by rw [AD.append_nil]; exact m3)
      rwa [AD.append_nil] at this
    refine hg _ σ' H2 x _ R3 r3 fun σ4 R4 => ?_
    have C2 : Cov X (ad ++ ad1 ++ adx) H2 D Dc := by
      have := (C1.step s2).step s3
      rwa [AD.append_nil] at this
    have s23 : Stp (ad ++ ad1) adx H1 H2 := by
      have := s2.trans s3
      rwa [List.append_nil] at this
    refine hbody _ σ4 H2 _ R4 ⟨fun ad3 σ3 H3 ρ3 μ3 s3 R3 d3 => ?_, fun ad3 σ3 H3 ρ3 μ3 s3 R3 d3 => C2.nx ad3 σ3 H3 ρ3 μ3 s3 R3 d3, fun ad3 σ3 H3 ρ3 μ3 s3 R3 d3 => ?_, C2.rt, C2.xx⟩
    · exact ⟨adx ++ ad3, ρ3, μ3, s23.trans s3, by rw [← AD.append_assoc]; exact R3, d3⟩
    · exact ⟨adx ++ ad3, ρ3, μ3, s23.trans s3, by rw [← AD.append_assoc]; exact R3, d3⟩
  · have e : i = xs.length := by omega
    subst e
    exact .inl ⟨w2, C1.nx adx σ' H' ρ2 μ2 s2 R2 (hd _ _ i2)⟩
end
/-! ### the store with one more object -/
theorem app_get {μ : Mem} {xs : Mem} {k : Nat} {m : MO} (h : μ[k]? = some m) : (μ ++ xs)[k]? = some m := by
  rw [List.getElem?_append_left (List.getElem?_eq_some_iff.mp h).1]; exact h
theorem app_last {μ : Mem} {m : MO} : (μ ++ [m])[μ.length]? = some m := by simp
theorem app_setl {μ : Mem} {m m' : MO} : (μ ++ [m]).set μ.length m' = μ ++ [m'] := by simp
theorem chg_set {μ : Mem} {k : Nat} {m : MO} (hb : belowM μ.length m = true) : Chg μ (μ.set k m) := Chg.refl.set hb
/-! ### the place of a number -/
noncomputable def plN (h : Fin 4) (t : Bool) (k : Int) : Int × Int := if hk : 0 ≤ k then Classical.choose (nuW_surj h t k hk) else (0, 0)
theorem plN_nu {h : Fin 4} {t : Bool} {k : Int} (hk : 0 ≤ k) : nuW h t (plN h t k) = k := by
  unfold plN
  rw [dif_pos hk]
  exact Classical.choose_spec (nuW_surj h t k hk)
theorem plN_of {h : Fin 4} {t : Bool} {k : Int} {p : Int × Int} (e : nuW h t p = k) : plN h t k = p := nuW_inj (h := h) (t := t) (by rw [e, plN_nu (by rw [← e]; exact nuW_nonneg _ _ _)])
theorem plN_pl {h : Fin 4} {t : Bool} {k : Int} {u : Int × Int} (e : nuF u.1 u.2 = k) : plN h t k = plW h t u := plN_of (by rw [nuW_pl]; exact e)
/-! ### ways of one spiral to another -/
/-! ### the numbers whose places are one -/
def keepF (g : Int → Bool) : PV → Option PV := fun q => match q with
  | .int n => if g n = true then some (PV.int n) else none
  | _ => none
theorem keepF_no {g : Int → Bool} {n : Int} (h : g n = false) : keepF g (.int n) = none := by
  show (if g n = true then some (PV.int n) else none) = none
  rw [h]; rfl
theorem keepF_yes {g : Int → Bool} {n : Int} (h : g n = true) : keepF g (.int n) = some (.int n) := by
  show (if g n = true then some (PV.int n) else none) = some (.int n)
  rw [h]; rfl
theorem fm_filter {g : Int → Bool} : ∀ {ns : List Int}, (ns.map PV.int).filterMap (keepF g) = (ns.filter g).map PV.int
  | [] => rfl
  | n :: ns => by
    rw [List.map_cons, List.filterMap_cons, List.filter_cons, fm_filter (ns := ns)]
    cases hg : g n with
    | false => rw [keepF_no hg]; rfl
    | true => rw [keepF_yes hg]; rfl
theorem KTab.at {K : PySem.W.Frag} {w : World} {mg : Str → Option Value} {x z : Str} {v : V} {a : Addr} {es : Array DictEntry} {n : Nat} {u : Value} (h1 : mg x = some (.ref a)) (h2 : K.lookup a = some ⟨.type "dict", none, .dict es n, #[]⟩) (hl : PySem.W.KeysLit w.params es.toList)
    (h3 : PySem.W.nsIn K a z = some (some u)) (r : RelV v u) : KTab K w mg x z v := ⟨a, h1, es, n, u, h2, hl, h3, r⟩
section
variable {X : Cx} {P : Program} {w : World} {K : PySem.W.Frag} {mg : Str → Option Value} {base : Heap} {N : List Str} {sc scope : Scope} {k : Nat} {ρ : Env} {μ μ1 : Mem} {tg : Expr} {pos : Pos} {D : AEnds} {sts : List Stmt}
/-- name = [elt for .. if ..], the store as it was -/
theorem CxF.setLcD {elt iter : Expr} {ifs : List Expr} {own : List (Str × Nat)} {is : List Nat} {ff : PV → Option (List PV)} {xs : List PV} {M : Mem → Prop} {y : Str} {py spos : Pos} (i : Nat) (cx : CxF X P w K mg base N sc k)
    (hy : N[i]? = some y) (hyl : sc.names.lookup y = some .local) (hl : (py.line == pos.line) = true) (hsc : (scope.names.any fun (n, k) => n == y && (k == .local || k == .cell)) = false)
    (hi : DI X tg iter ρ μ xs M μ1) (ok : blkC N sc scope own = true) (tgt : Tgt P w K mg base N scope k tg is ff) (his : ∀ i ∈ is, i ∈ own.map (·.2)) (f : PV → Option PV) (hM : M μ1) (hl2 : xs.length ≤ sizeLine)
    (turn : ∀ p, p ∈ xs → ∃ qs, ff p = some qs ∧
      ((f p = none ∧ ∀ X', CxD X' P w K mg base N scope k → WTs X' ifs (setE (wipeE ρ (own.map (·.2))) is qs) μ1 fun b m => b = false ∧ m = μ1) ∨
       (∃ y, f p = some y ∧ (∀ X', CxD X' P w K mg base N scope k → WTs X' ifs (setE (wipeE ρ (own.map (·.2))) is qs) μ1 fun b m => b = true ∧ m = μ1) ∧ ∀ X', CxD X' P w K mg base N scope k → DE X' elt (setE (wipeE ρ (own.map (·.2))) is qs) μ1 y μ1)))
    (fin : DSs X sts (ρ.set i (some (.lst (xs.filterMap f)))) μ1 D)
    (hs : ∀ x, foldedSetIterable iter X.env x = pure x := by intro _; rfl) : DSs X (.Assign [.Name y py] (.ListComp elt [⟨tg, iter, ifs, 0⟩] scope pos) spos :: sts) ρ μ D := by
  refine CxF.setLc i cx hy hyl hl hsc hi ok tgt his (fun i ys m => m = μ1 ∧ ys = (xs.take i).filterMap f) ⟨rfl, rfl⟩ (fun _ _ _ h => by rw [h.1]; exact hM) ?_ ?_ hs
  · rintro i p ys m hp ⟨rfl, rfl⟩
    have hi : i < xs.length := (List.getElem?_eq_some_iff.mp hp).1
    have ht : xs.take (i + 1) = xs.take i ++ [p] := by rw [List.take_succ, hp]; rfl
    have hlen : ((xs.take i).filterMap f).length < sizeLine := by
      have h1 := List.length_filterMap_le f (xs.take i)
      rw [List.length_take] at h1
      omega
    obtain ⟨qs, hq, h⟩ := turn p (List.mem_of_getElem? hp)
    refine ⟨qs, hq, fun X' cx' => ?_⟩
    rcases h with ⟨hf, h1⟩ | ⟨y, hf, h1, h2⟩
    · intro ad σ H Q R hQ
      refine h1 X' cx' ad σ H Q R fun ad2 b H' μ' s mm hb => hQ ad2 b H' μ' s mm ?_
      rw [hb.1, hb.2]
      show if false = true then _ else _
      rw [if_neg (by decide)]
      exact ⟨rfl, by rw [ht, List.filterMap_append]; simp [hf]⟩
    · intro ad σ H Q R hQ
      refine h1 X' cx' ad σ H Q R fun ad2 b H' μ' s mm hb => hQ ad2 b H' μ' s mm ?_
      rw [hb.1, hb.2]
      show if true = true then _ else _
      rw [if_pos rfl]
      intro X2 cx2
      exact WE.of (h2 X2 cx2) ⟨hlen, rfl, by rw [ht, List.filterMap_append]; simp [hf]⟩
  · rintro ys m ⟨hm, rfl⟩
    rw [List.take_length, hm]
    exact fin
end
end L3

namespace L3
open PySem PySem.Spec L2
/-! ### the legs of the plain spiral -/
def lg (m : Int) : Int := if m % 2 = 0 then 0 - m / 2 else (m + 1) / 2
def csF (r : Int) : Int := (r + 1) * (r + 1) / 4
theorem r4 (r : Int) : ∃ k, r = 4 * k ∨ r = 4 * k + 1 ∨ r = 4 * k + 2 ∨ r = 4 * k + 3 := ⟨r / 4, by omega⟩
end L3

namespace L3
open PySem PySem.Spec L2 PyProof.Rows
/-! ### a caught exception is kept as data -/
section
variable {X : Cx} {pins : List (Addr × Obj)} {σ : L2.St} {H : Hp} {s s' sI : Shared} {B : Heap} {a : Addr} {o : HO}
end
section
variable {X : Cx} {x n : Str} {c : Value} {i : Nat} {body suite : List Stmt} {b₀ : Stmt} {np pos pos' : Pos} {tb : WX → TS} {ts : Addr → TS} {Wout : WX}
end
end L3

namespace L3
open PySem PySem.Spec L2 PyProof.Rows
section
variable {X : Cx} {P : Program} {w : World} {K : PySem.W.Frag} {mg : Str → Option Value} {base : Heap} {N : List Str} {sc : Scope} {k j : Nat} {x : Str} {A : ASp} {ρ ρ' : Env} {μ μ1 μ2 μ' : Mem} {p q r : PV} {e a b tg : Expr} {es : List Expr} {pos cp : Pos} {D : AEnds} {st : Stmt} {sts : List Stmt} {z : EX}
/-! ### what surely lets out an exception -/
def DX (X : Cx) (e : Expr) (ρ : Env) (μ : Mem) (z : EX) (μ1 : Mem) : Prop :=
  ∀ ad σ H (Q : VK), Rst ad X.K H σ ρ μ → (∀ ad2 H' cls d, Stp ad ad2 H H' → Rst (ad ++ ad2) X.K H' σ ρ μ1 → RpX (ad ++ ad2) X.K H' z cls d → X0 X cls d σ H') → wE X e σ H Q
theorem DX.call (cx : CxD X P w K mg base N sc k) {ps : List PV} (F : FnA P w K mg base j x A) (hj : j ≤ k) (hx : sc.names.lookup x = some .globalImplicit) (ha : DA X (e :: es) ρ μ ps μ1)
    (hA : A ps μ1 (fun _ _ => False) (fun y m => y = z ∧ m = μ2))
    (hdb : (x == ("__debug__" : Str)) = false := by decide) (he : starEach (e :: es) X.env = (false, eval e X.env) :: starEach es X.env := by rfl) (hpl : (backTo pos (starEach es X.env)).any (·.1) = false := by rfl) :
    DX X (.Call (.Name x cp) (e :: es) [] pos) ρ μ z μ2 := fun ad σ H Q R f => by
  obtain ⟨fa, fd, pn, F1, hm, hk, hb⟩ := cx.fn F
  refine wE.of (pe_callS (E := L2.WE (X0 X)) F1 (cx.room.mono hj) (cx.gl x hx) hm hk hb (fun σ => passAt takesX0 σ) (pa_w _) hdb he hpl) (ha ad σ H _ R fun ad1 vs H1 s1 m1 r1 => ?_)
  refine ⟨ad ++ ad1, μ1, ps, _, _, m1, r1, hA, fun _ _ _ _ _ _ _ _ hq => hq.elim, fun ad2 H' μ' y cls d s m rx hz => ?_⟩
  obtain ⟨rfl, rfl⟩ := hz
  have m' : Mst (ad ++ (ad1 ++ ad2)) X.K H' μ' := by rwa [← AD.append_assoc]
  exact f (ad1 ++ ad2) H' cls d (s1.trans s) (R.mono (s1.trans s) m') (by rwa [← AD.append_assoc])
/-! ### a def that may raise -/
/-! ### try: body, except C as e: c = e -/
def excP (z : EX) : PV := .exc z.C z.fs z.vs
theorem RpX.rp {ad : AD} {H : Hp} {a : Addr} {cls : Value} {d : Option Addr} (h : RpX ad K H z cls d) (ha : H a = none) (hn : a ∉ ad) : Rp ad K (upd H a (exH a cls d)) (excP z) (.ref a) := by
  obtain ⟨ws, rfl, hd, hl, r⟩ := h
  have s : StpW ad [] H (upd H a (exH a (.ref z.C) d)) := ⟨fun b o q _ => by rw [upd_ne (ne_of_none q ha)]; exact q, fun _ q => nomatch q⟩
  unfold excP Rp
  refine ⟨a, d, ws, rfl, ⟨upd_same, hn⟩, ?_, hl, ?_⟩
  · cases d with
    | none => exact hd
    | some dd => exact ⟨by rw [upd_ne (ne_of_none hd.1 ha)]; exact hd.1, hd.2⟩
  · have := RpL.monoW s _ _ r
    rwa [AD.append_nil] at this
/-! ### an exception of one's own, made by its __init__ -/
end
section
variable {P : Program} {w : World} {K : PySem.W.Frag} {mg : Str → Option Value} {base : Heap} {st : Stmt} {C C0 : Addr} {k : Nat}
end
section
variable {X : Cx} {P : Program} {w : World} {K : PySem.W.Frag} {mg : Str → Option Value} {base : Heap} {N : List Str} {sc : Scope} {k j : Nat} {ρ ρ' : Env} {μ μ1 μ2 μ' : Mem} {p q r : PV} {e a b : Expr} {pos cp p2 p3 : Pos} {D : AEnds} {st : Stmt} {C C0 : Addr} {n : Int} {y : Str}
/-! ### isinstance of it, its field -/
end
end L3

namespace L3
open PySem PySem.Spec L2 PyProof.Rows
/-! ### list.count of truths -/
section
variable {X : Cx} {μ : Mem} {p : PV}
end
/-! ### ways of the law: headings, legs -/
theorem lookD_hit {k : Key} {v : PV} {ks : List Key} {vs : List PV} : lookD (k :: ks) (v :: vs) k = some v := by
  show (if k = k then some v else lookD ks vs k) = some v
  rw [if_pos rfl]
theorem lookD_miss {k q : Key} {v : PV} {ks : List Key} {vs : List PV} (h : k ≠ q) : lookD (k :: ks) (v :: vs) q = lookD ks vs q := by
  show (if k = q then some v else lookD ks vs q) = lookD ks vs q
  rw [if_neg h]
end L3
namespace L3
open PySem PySem.Spec L2
theorem fin_drop {μ ex : Mem} {p r : PV} {Q : PV → Mem → Prop} (h : Q r μ) (e : p = r) (b : below μ.length r = true) : ∃ r' μ', Done μ p (μ ++ ex) r' μ' ∧ Q r' μ' := ⟨r, μ, by rw [e]; exact .drop _ _ _ Chg.refl b, h⟩
def clsBody : Stmt → List Stmt
  | .ClassDef (body := b) .. => b
  | _ => []
section
variable {X : Cx} {P : Program} {w : World} {K : PySem.W.Frag} {mg : Str → Option Value} {base : Heap} {N : List Str} {sc : Scope} {k j : Nat} {ρ ρ' : Env} {μ μ1 μ2 μ' : Mem} {a b : Expr} {pos cp : Pos} {st : Stmt} {C C0 : Addr} {n : Int} {y : Str}
end
end L3
namespace L3
open PySem PySem.Spec L2
end L3

namespace L3
open PySem PySem.Spec L2
end L3
namespace L3
open PySem PySem.Spec L2
section
variable {X : Cx} {ρ : Env} {μ : Mem} {p1 p2 p3 p4 q1 q2 q3 q4 q5 q6 q7 q8 q9 q10 t1 t2 t3 t4 pos : Pos} {j1 j2 j3 j4 i1 i2 i3 i4 i5 i6 i7 i8 n1 n2 n3 n4 : Nat}
theorem DE.dispE {e : Expr} {keys : List (Option Expr)} {values : List Expr} {ks : List Key} {ps : List PV} {pos : Pos} (he : e = .Dict keys values pos) (h : DPs X pos keys values ρ μ ks ps μ) (hn : ks.Nodup) (hl : ks.length ≤ 15) (hall : keys.all (·.isSome) = true) (hkl : keys.length = values.length) (h0 : keys ≠ []) (h15 : keys.length ≤ 15) : DE X e ρ μ (.dct ks ps) μ := by
  subst he
  exact DE.disp h hn hl hall hkl h0 h15
end
end L3

namespace L3
open PySem PySem.Spec L2
section
variable {X : Cx} {μ : Mem} {ns ms : List Int}
end
/-! ### corners by turning -/
theorem sq2 (z : Int) : 2 * z * (2 * z) = 4 * (z * z) := by rw [Int.mul_assoc, Int.mul_left_comm z 2 z, ← Int.mul_assoc]; rfl
theorem csE (m : Int) : csF (2 * m) = m * m + m := by
  unfold csF
  have : (2 * m + 1) * (2 * m + 1) = 4 * (m * m) + 4 * m + 1 := by rw [Int.add_mul, Int.mul_add, sq2]; omega
  rw [this]; omega
theorem csO (m : Int) : csF (2 * m + 1) = (m + 1) * (m + 1) := by
  unfold csF
  rw [show 2 * m + 1 + 1 = 2 * (m + 1) by omega, sq2]; omega
theorem summed (k : Int) (h : 0 ≤ k) : (k + 1) / 2 * ((k + 1) / 2 + 1) + (k + 1) % 2 * ((k + 1) / 2 + 1) = (k + 2) * (k + 2) / 4 := by
  obtain ⟨m, e | e⟩ : ∃ m, k + 1 = 2 * m ∨ k + 1 = 2 * m + 1 := ⟨(k + 1) / 2, by omega⟩
  · have := csE m
    unfold csF at this
    rw [show k + 2 = 2 * m + 1 by omega, this, e, show 2 * m / 2 = m by omega, show 2 * m % 2 = 0 by omega, Int.zero_mul, Int.mul_add]; omega
  · have := csO m
    unfold csF at this
    rw [show k + 2 = 2 * m + 1 + 1 by omega, this, e, show (2 * m + 1) / 2 = m by omega, show (2 * m + 1) % 2 = 1 by omega, Int.one_mul, Int.add_mul m 1 (m + 1)]; omega
/-! ### the first corners -/
end L3
namespace L3
open PySem PySem.Spec L2
end L3
namespace L3
end L3

namespace L3
open PySem PySem.Spec L2
/-! ### the number of a place by the law's legs -/
def ixL (y : Int) : Int := if 0 < y then 2 * y - 1 else 0 - 2 * y
/-! ### the numbers beside -/
end L3
namespace L3
end L3

namespace L3
open PySem PySem.Spec L2
/-! ### laid step by step -/
def dirR (r : Int) : Int × Int := if r % 4 = 0 then (1, 0) else if r % 4 = 1 then (0, 1) else if r % 4 = 2 then (-1, 0) else (0, -1)
theorem plN_zero (h : Fin 4) (t : Bool) : plN h t 0 = (0, 0) := by
  have e : nuF ((0, 0) : Int × Int).1 ((0, 0) : Int × Int).2 = 0 := by decide
  rw [plN_pl e]
  revert h t; decide
end L3

namespace L3
end L3

namespace L3
open PySem PySem.Spec L2
/-! ### the legs as the laws of the deck B reckon them, arms (1, 1) -/
end L3

namespace L3
open PySem PySem.Spec L2
section
variable {ad : AD} {K : PySem.W.Frag} {H : Hp}
theorem RpL.rep {ps : List PV} {vs : List V} (r : RpL ad K H ps vs) : ∀ n : Nat, RpL ad K H (List.replicate n ps).flatten (List.replicate n vs).flatten
  | 0 => RpL.nil
  | n + 1 => by
    rw [List.replicate_succ, List.replicate_succ, List.flatten_cons, List.flatten_cons]
    exact r.append (RpL.rep r n)
end
section
variable {X : Cx} {P : Program} {w : World} {K : PySem.W.Frag} {mg : Str → Option Value} {base : Heap} {N : List Str} {sc : Scope} {k j : Nat} {ρ ρ' : Env} {μ μ1 μ2 μ' : Mem} {p q : PV} {a b : Expr} {pos cp : Pos} {st : Stmt} {C C0 : Addr} {n : Int} {y : Str}
/-! ### isinstance(e, (C1, C2, C3)) -/
end
/-! ### {'l': a, 'r': b} by the turn -/
def lrK : List Key := [.inr ("l" : Str), .inr ("r" : Str)]
theorem lr_at (p q : PV) (t : Bool) : lookD lrK [p, q] (.inr (tnS t)) = some (if t = true then q else p) := by
  have h1 : tnS false = ("l" : Str) := by decide +kernel
  have h2 : tnS true = ("r" : Str) := by decide +kernel
  cases t
  · rw [h1]; exact lookD_hit
  · rw [h2]
    unfold lrK
    rw [lookD_miss (by decide +kernel)]
    exact lookD_hit
section
variable {X : Cx} {P : Program} {w : World} {K : PySem.W.Frag} {mg : Str → Option Value} {base : Heap} {N : List Str} {sc : Scope} {k : Nat} {ρ : Env} {μ : Mem} {p q : PV} {e a b va vb : Expr} {pos p1 p2 pp : Pos} {j1 j2 : Nat} {t : Bool}
theorem DE.lrE (he : e = .Dict [some (.Constant (.str "l") j1 p1), some (.Constant (.str "r") j2 p2)] [va, vb] pos) (h1 : DE X va ρ μ p μ) (h2 : DE X vb ρ μ q μ) : DE X e ρ μ (.dct lrK [p, q]) μ :=
  DE.dispE (ks := lrK) (ps := [p, q]) he (DPs.cons (kk := .inr ("l" : Str)) DE.str h1 (DPs.cons (kk := .inr ("r" : Str)) DE.str h2 DPs.nil)) (by decide +kernel) (Nat.le_of_ble_eq_true rfl) rfl rfl (List.cons_ne_nil _ _) (Nat.le_of_ble_eq_true rfl)
theorem DE.lr (cx : CxD X P w K mg base N sc k) (h1 : DE X va ρ μ p μ) (h2 : DE X vb ρ μ q μ) (hi : DE X b ρ μ (.str (tnS t)) μ) (hs : NoSl b := by exact fun _ _ => rfl) :
    DE X (.Subscript (.Dict [some (.Constant (.str "l") j1 p1), some (.Constant (.str "r") j2 p2)] [va, vb] pos) b pp) ρ μ (if t = true then q else p) μ := by
  generalize he : Expr.Dict [some (.Constant (.str "l") j1 p1), some (.Constant (.str "r") j2 p2)] [va, vb] pos = e
  exact DE.dget (kk := .inr (tnS t)) cx (DE.lrE he.symm h1 h2) hi (lr_at p q t) hs
end
/-! ### runs told -/
def hdR (h : Fin 4) (t : Bool) (r : Int) : Fin 4 := ⟨((((h.val : Nat) : Int) + r * (if t = true then -1 else 1)) % 4).toNat, by omega⟩
theorem hdR_val (h : Fin 4) (t : Bool) (r : Int) : (((h.val : Nat) : Int) + r * (if t = true then -1 else 1)) % 4 = (((hdR h t r).val : Nat) : Int) := by
  show _ = (((((((h.val : Nat) : Int) + r * (if t = true then -1 else 1)) % 4).toNat : Nat)) : Int)
  omega
theorem hdR_val3 (h : Fin 4) (t : Bool) (r : Int) : (((h.val : Nat) : Int) + r * (if t = true then 3 else 1)) % 4 = (((hdR h t r).val : Nat) : Int) := by
  rw [← hdR_val]
  cases t
  · rfl
  · simp only [if_true]; omega
theorem hd_ix (g : Fin 4) : atI ("enws" : Str).cps.toList ((g.val : Nat) : Int) = some (hdC g) := by revert g; decide +kernel
/-! ### _law_same of what is the same -/
end L3

namespace L3
open PySem PySem.Spec L2
/-! ### spirals with arms: so many whole runs' steps, the place of a number -/
theorem r2 (r : Int) : ∃ m, r = 2 * m ∨ r = 2 * m + 1 := ⟨r / 2, by omega⟩
theorem dir0 {r : Int} (e : r % 4 = 0) : dirR r = (1, 0) := by unfold dirR; rw [if_pos e]
theorem dir1 {r : Int} (e : r % 4 = 1) : dirR r = (0, 1) := by unfold dirR; rw [if_neg (by omega), if_pos e]
theorem dir2 {r : Int} (e : r % 4 = 2) : dirR r = (-1, 0) := by unfold dirR; rw [if_neg (by omega), if_neg (by omega), if_pos e]
theorem dir3 {r : Int} (e : r % 4 = 3) : dirR r = (0, -1) := by unfold dirR; rw [if_neg (by omega), if_neg (by omega), if_neg (by omega)]
def dT (h : Fin 4) (t : Bool) (r : Int) : Int × Int := plW h t (dirR r)
end L3

namespace L3
open PySem PySem.Spec L2
section
variable {X : Cx} {μ : Mem} {p : PV}
end
/-! ### turned to the right -/
/-! ### by streets -/
theorem fm_some {α β : Type} {f : α → Option β} {g : α → β} : ∀ (l : List α), (∀ i ∈ l, f i = some (g i)) → l.filterMap f = l.map g
  | [], _ => rfl
  | a :: l, h => by rw [List.filterMap_cons, h a (by simp), List.map_cons, fm_some l fun i hi => h i (by simp [hi])]
end L3

namespace L3
open PySem PySem.Spec L2
/-! ### place_by_arms: by whole rounds, then side by side -/
section
variable {X : Cx} {μ : Mem}
theorem oa_nePt (hu : X.A.units + 64 < cLine) (p : Int × Int) : OpA X (compareOp .NotEq) (ptP p) (ptP p) μ (.bl false) := by
  have := oa_neTI (X := X) (μ := μ) (ns := [p.1, p.2]) (ms := [p.1, p.2]) hu
  rwa [decide_eq_true rfl] at this
end
end L3

namespace L3
open PySem PySem.Spec L2 PyProof.Rows
/-! ### dicts with tuples as keys: objects of the store -/
section
variable {K : PySem.W.Frag} {ad : AD} {H : Hp}
end
section
variable {X : Cx} {P : Program} {w : World} {K : PySem.W.Frag} {mg : Str → Option Value} {base : Heap} {N : List Str} {sc : Scope} {k j : Nat} {ρ ρ' : Env} {μ μ1 μ2 μ' : Mem} {p q r : PV} {e o a b : Expr} {pos cp : Pos} {st : Stmt} {D : AEnds} {n : Nat}
end
section
variable {X : Cx} {P : Program} {w : World} {K : PySem.W.Frag} {mg : Str → Option Value} {base : Heap} {N : List Str} {sc : Scope} {k j : Nat} {x : Str} {A : ASp} {ρ : Env} {μ μ1 μ2 : Mem} {p : PV} {a b : Expr} {pos cp : Pos} {z : EX}
theorem WT.mono {Qa Qb : Bool → Mem → Prop} (h : WT X a ρ μ Qa) (q : ∀ b m, Qa b m → Qb b m) : WT X a ρ μ Qb := fun ad σ H Q R f => h ad σ H Q R fun ad2 b H' μ' s m z => f ad2 b H' μ' s m (q b μ' z)
/-- an if by what is drawn, both ways come together -/
theorem DSs.ifJ {c : Expr} {A' B' sts : List Stmt} {D : AEnds} (Mid : Env → Mem → Prop) (hc : WT X c ρ μ fun z m => if z = true then DSs X A' ρ m { D with nx := Mid } else DSs X B' ρ m { D with nx := Mid }) (rest : ∀ ρ μ, Mid ρ μ → DSs X sts ρ μ D) : DSs X (.If c A' B' pos :: sts) ρ μ D := by
  refine DSs.ifcW (WT.mono hc fun b m h => ?_)
  cases b with
  | true => exact DSs.mono h rest (fun _ _ q => q) (fun _ _ q => q) (fun _ _ q => q) (fun _ _ _ q => q)
  | false => exact DSs.mono h rest (fun _ _ q => q) (fun _ _ q => q) (fun _ _ q => q) (fun _ _ _ q => q)
end
end L3

namespace L3
open PySem PySem.Spec L2
/-! ### one spiral's numbers in another one -/
end L3

namespace L3
open PySem PySem.Spec L2
/-! ### number_by_arms: by the four sides of a round -/
end L3

namespace L3
open PySem PySem.Spec L2
/-! ### spirals with arms as a whole -/
end L3

namespace L3
open PySem PySem.Spec L2
section
variable {X : Cx} {ρ : Env} {μ μ1 : Mem} {pos : Pos}
end
end L3

namespace L3
open PySem PySem.Spec L2
section
variable {X : Cx} {P : Program} {w : World} {K : PySem.W.Frag} {mg : Str → Option Value} {base : Heap} {N : List Str} {sc : Scope} {k : Nat} {ρ : Env} {μ μ1 μ2 : Mem} {p : PV} {o e : Expr} {apos cp : Pos} {n : Nat} {s : Int}
end
/-! ### by the four runs on whose lines a place may be -/
end L3

namespace L3
open PySem PySem.Spec L2 PyProof.Rows
/-! ### ranges of any whole numbers -/
/-- the long iterator at its turn j -/
def LgAt (lo : Int) (n : Nat) (it : Addr) (j : Nat) (h : Heap) : Prop := IsLongIter h it (lo + (j : Nat) * 1) ((n : Int) - (j : Nat)) 1
theorem LgAt.turn {P : Program} {w : World} {K : PySem.W.Frag} {tg : Expr} (lo : Int) (n : Nat) (it : Addr) : Turn P w K tg (Itr lo n) [it] it (LgAt lo n it) where
  mem := List.mem_singleton.mpr rfl
  keep := fun j h h2 q k => k it (List.mem_singleton.mpr rfl) _ q
  self := fun A j s Q E q z => wpAny_pyIter_longiter q z
  obj := fun j h q b hb => by
    cases List.mem_singleton.mp hb
    exact ⟨_, q, fun v z => nomatch (show Data.fields _ = Data.cell v from z)⟩
  item := by
    intro X e1 e2 e3 hcalm j pn s τ G E J hfree q hlt
    subst e1
    subst e2
    subst e3
    obtain ⟨g0, g1, g2, g3, g4, g5⟩ := hfree it (List.mem_singleton.mpr rfl)
    refine (Walks.longrange (prog := X.prog) (w := X.w) (J.ok.hd hcalm) it lo 1 n).item j s _ _ hlt q fun v h2 t2 hv q2 kp => ?_
    obtain ⟨t, ev⟩ := hv
    have J2 : Inv X pn τ G { s with heap := h2, toks := t2 } := J.turned (fun b o nb e => kp b o (fun z => nb (List.mem_singleton.mp z)) e) g0 g1 g3 g4 g5
    have hnum : RelV (.int (lo + (j : Nat))) v := ⟨t, by rw [ev, Int.mul_one]⟩
    refine ⟨v, by rw [ev], ?_⟩
    exact go_of (s := { s with heap := h2, toks := t2 }) (n := "longrange_iterator") q2 rfl rfl (by decide) ⟨.int (lo + (j : Nat)), G, J2, hnum, ⟨rfl, rfl⟩, q2, fun b nb => (hfree b nb).1⟩
  done := by
    intro X e1 e2 e3 hcalm j pn s τ G E J hfree q hstop
    subst e1
    subst e2
    subst e3
    obtain ⟨g0, g1, g2, g3, g4, g5⟩ := hfree it (List.mem_singleton.mpr rfl)
    have hle : n ≤ j := hstop
    refine wpAny_pyNext_long_end (J.ok.hd hcalm) q (by omega) fun h2 ext => ⟨rfl, ?_⟩
    exact J.turned (t' := s.toks) (fun b o nb e => ext b o nb e) g0 g1 g3 g4 g5
section
variable {X : Cx} {tg : Expr}
end
section
variable {X : Cx} {ρ : Env} {μ μ1 μ2 : Mem} {a b tg : Expr} {np cp : Pos}
end
end L3

namespace L3
open PySem PySem.Spec L2
/-! ### the same places in two spirals, from any number on -/
end L3

namespace L3
open PySem PySem.Spec L2
section
variable {X : Cx} {P : Program} {w : World} {K : PySem.W.Frag} {mg : Str → Option Value} {base : Heap} {N : List Str} {sc : Scope} {k : Nat} {ρ : Env} {μ μ1 : Mem} {p q : PV} {e : Expr} {pos cp : Pos} {n : Nat}
end
end L3

namespace L3
open PySem PySem.Spec L2
/-! ### places just so far, ring by ring -/
end L3

namespace L3
open PySem PySem.Spec L2
/-! ### how many of the first so many are just so far -/
theorem nu_lt {h : Fin 4} {t : Bool} {p : Int × Int} {R : Int} (hr : ringF p.1 p.2 ≤ R) : nuW h t p < (2 * R + 1) * (2 * R + 1) := by
  obtain ⟨e1, e2⟩ := ends_in (side_W h t p)
  have r0 : 0 ≤ ringF p.1 p.2 := by unfold ringF; omega
  have e3 := sq_exp (ringF p.1 p.2)
  have := sq_le (show 0 ≤ 2 * ringF p.1 p.2 + 1 by omega) (show 2 * ringF p.1 p.2 + 1 ≤ 2 * R + 1 by omega)
  omega
theorem nu_ge {h : Fin 4} {t : Bool} {p : Int × Int} {R : Int} (r0 : 0 ≤ R) (hr : R + 1 ≤ ringF p.1 p.2) : (2 * R + 1) * (2 * R + 1) ≤ nuW h t p := by
  obtain ⟨e1, e2⟩ := ends_in (side_W h t p)
  unfold fstR at e1
  rw [if_neg (by omega)] at e1
  have := sq_le (show 0 ≤ 2 * R + 1 by omega) (show 2 * R + 1 ≤ 2 * ringF p.1 p.2 - 1 by omega)
  omega
/-! ### the law's lines -/
end L3
namespace L3
open PySem PySem.Spec L2
end L3

namespace L3
open PySem PySem.Spec L2
/-! ### counted by streets: what the law lays, its lines, what is due -/
end L3
namespace L3
end L3

namespace L3
open PySem PySem.Spec L2
/-! ### whole streets: one more, the first so far, other spirals, all together -/
end L3
namespace L3
end L3

namespace L3
open PySem PySem.Spec L2 PyProof.Rows
/-! ### zip of a list and a tuple: two feeds, each of its own kind -/
section
variable {P : Program} {W : World} {B : Around} {F : Value → Shared → Prop} {q : Shared} {z T1 T2 i1 i2 l1 l2 : Addr} {k : Nat} {xs ys : Array Value} {J1 J2 : Heap → Nat → Prop} {x y a b : Value}
end
end L3

namespace L3
open PySem PySem.Spec L2 PyProof.Rows
section
variable {P : Program} {W : World} {B : Around} {F : Value → Shared → Prop} {q : Shared} {z T1 T2 i1 i2 l1 l2 : Addr} {k : Nat} {xs ys : Array Value} {J1 J2 : Heap → Nat → Prop} {x y a b : Value}
end
section
variable {X : Cx} {ad : AD} {σ : L2.St} {H H' : Hp} {ρ ρ' : Env} {μ μ1 μ2 μ' : Mem} {p q r : PV} {e e2 a b c tg : Expr} {pos cp : Pos} {k : Nat}
  {P : Program} {w : World} {K : PySem.W.Frag} {mg : Str → Option Value} {base : Heap} {N : List Str} {sc : Scope}
end
end L3

namespace L3
open PySem PySem.Spec L2
/-! ### tuples of the module -/
theorem Rp.wtp_inv {ad : AD} {K : PySem.W.Frag} {H : Hp} {xs : List PV} {v : V} (h : Rp ad K H (.wtp xs) v) : ∃ a vs, v = .ref a ∧ SqT K H a vs ∧ RpL ad K H xs vs := by
  unfold Rp at h
  obtain ⟨a, vs, e, h1, h2⟩ := h
  exact ⟨a, vs, e, h1.sq, h2⟩
section
variable {X : Cx} {ad : AD} {σ : L2.St} {H H' : Hp} {ρ ρ' : Env} {μ μ1 μ2 μ' : Mem} {p q r : PV} {e e2 a b c tg : Expr} {es : List Expr} {pos cp : Pos} {k : Nat} {i : Int} {D : AEnds}
  {P : Program} {w : World} {K : PySem.W.Frag} {mg : Str → Option Value} {base : Heap} {N : List Str} {sc : Scope} {x : Str}
theorem DE.ixV {xs : List PV} (ha : DE X a ρ μ (.wtp xs) μ1) (hb : DE X b ρ μ1 (.int i) μ2) (h : atI xs i = some r) (hs : PlainIx b := by exact fun _ _ => rfl) : DE X (.Subscript a b pos) ρ μ r μ2 :=
  DE.ixR ix_tup ha hb (fun ad H vx vy Q m rx ry f => by
    obtain ⟨l, vs, e1, h1, r1⟩ := rx.wtp_inv
    obtain ⟨v, e2, r2⟩ := atI_rp r1 h
    exact ⟨l, vs, i, v, e1, ry.int_inv, h1, e2, f [] v H Stp.refl (by rwa [AD.append_nil]) (by rwa [AD.append_nil])⟩) hs
theorem DG.wtp {ps : List PV} {j : Nat} (hc : X.calm = true) (h : DGs X es ps ρ μ ρ') (hn : (assignEach es X.env).length = ps.length := by rfl) (hst : (assignEach es X.env).findIdx? (·.1) = none := by rfl) : DG X (.Tuple es j pos) (.wtp ps) ρ μ ρ' := by
  obtain ⟨tt, hp, ht⟩ := h
  intro ad σ H v Q R r hQ
  obtain ⟨a, vs, e1, h1, r1⟩ := r.wtp_inv
  exact wG.of (pg_tup (n := ps.length) hc hp hn hst) ⟨a, vs, e1, h1, r1.length.symm, ht ad σ H vs Q R r1 hQ⟩
theorem DI.wtp {xs : List PV} (h : DE X e ρ μ (.wtp xs) μ1) : DI X tg e ρ μ xs (fun _ => True) μ1 :=
  ⟨_, pi_tup (pe_w e), fun ad σ H Q R hQ => h ad σ H _ R fun ad2 v H' s m r => by
    obtain ⟨l, vs, e1, h1, r1⟩ := r.wtp_inv
    refine ⟨l, e1, ⟨vs, h1⟩, hQ ad2 _ H' s m (WalkD.tuple fun ad' H1 μ1 s1 m1 _ => ?_)⟩
    obtain ⟨l', vs', e2, h2, r2⟩ := (s1 _ _ r).wtp_inv
    rw [e1] at e2
    cases e2
    exact ⟨vs', h2, r2⟩⟩
/-- a tuple that stands at the module's name -/
def KTup (K : PySem.W.Frag) (mg : Str → Option Value) (x : Str) (xs : List PV) : Prop := ∃ a, mg x = some (.ref a) ∧ ∀ ad H, Rp ad K H (.wtp xs) (.ref a)
theorem DE.gtup {xs : List PV} (cx : CxD X P w K mg base N sc k) (hx : sc.names.lookup x = some .globalImplicit) (hm : KTup K mg x xs) (hd : (x == ("__debug__" : Str)) = false := by decide) : DE X (.Name x pos) ρ μ (.wtp xs) μ := by
  obtain ⟨a, h1, h2⟩ := hm
  exact DE.glob (v := .ref a) cx hx h1 (show RelV (.ref a) (.ref a) from rfl) (by rw [cx.eK]; exact h2) hd
end
end L3

namespace L3
open PySem PySem.Spec L2
/-! ### rows and rays -/
def stpW (g : Fin 4) : Int × Int := plW g false (1, 0)
/-! rays -/
end L3

namespace L3
open PySem PySem.Spec L2 PyProof.Rows
/-! ### whole runs -/
/-- headings -/
theorem hdR_4 (h : Fin 4) (t : Bool) (r : Int) : hdR h t r = hdR h t (r % 4) := by
  apply Fin.ext
  have e1 := hdR_val h t r
  have e2 := hdR_val h t (r % 4)
  cases t
  · simp only [Bool.false_eq_true, if_false, Int.mul_one] at e1 e2; omega
  · simp only [if_true] at e1 e2; omega
theorem dT_stp (h : Fin 4) (t : Bool) (r : Int) : plW h t (dirR r) = stpW (hdR h t r) := by
  have hr : r % 4 = 0 ∨ r % 4 = 1 ∨ r % 4 = 2 ∨ r % 4 = 3 := by omega
  have hd : dirR r = dirR (r % 4) := by unfold dirR; rw [show r % 4 % 4 = r % 4 by omega]
  rw [hd, hdR_4]
  clear hd
  rcases hr with e | e | e | e <;> rw [e] <;> clear e <;> revert h t <;> decide
section
variable {X : Cx} {ρ : Env} {μ μ1 μ2 : Mem} {a b : Expr} {pos cp : Pos} {k : Nat}
  {P : Program} {w : World} {K : PySem.W.Frag} {mg : Str → Option Value} {base : Heap} {N : List Str} {sc : Scope}
end
/-! runs compared -/
section
variable {X : Cx} {μ : Mem} {s r : Int} {h : Fin 4} {t : Bool}
end
end L3

namespace L3
open PySem PySem.Spec L2 PyProof.Rows
/-! ### dicts with texts or whole numbers as keys: objects of the store -/
section
variable {K : PySem.W.Frag} {ad : AD} {H : Hp}
/-- pairs of keys and values -/
def pairsP (ks : List Key) (vs : List PV) : List PV := List.zipWith (fun k v => PV.tup [keyPV k, v]) ks vs
end
section
variable {X : Cx} {P : Program} {w : World} {K : PySem.W.Frag} {mg : Str → Option Value} {base : Heap} {N : List Str} {sc : Scope} {k j : Nat} {ρ ρ' : Env} {μ μ1 μ2 μ' : Mem} {p q r : PV} {e o a b : Expr} {pos cp : Pos} {st : Stmt} {D : AEnds} {n : Nat}
end
theorem bits_b {n : Int} {k : Nat} (h : B k n) : Builtin.Int.intBits n ≤ k := PyProof.Rows.intBits_le h
theorem B.top {n z : Int} (bn : B 200 n) (h1 : 0 ≤ z) (h2 : z ≤ 2 ^ 110 + n + 1) : B 202 z := by
  have e : (2 : Int) ^ 110 ≤ 1606938044258990275541962092341162602522202993782792835301376 := by decide +kernel
  unfold B at bn ⊢
  have e2 : (2 : Nat) ^ 200 = 1606938044258990275541962092341162602522202993782792835301376 := by decide +kernel
  have e3 : (2 : Nat) ^ 202 = 6427752177035961102167848369364650410088811975131171341205504 := by decide +kernel
  omega
theorem rp_wtpI4 {K : PySem.W.Frag} {a : Addr} {n : Nat} {x y z v : Int} {t1 t2 t3 t4 : Tok} (h : K.lookup a = some ⟨.type "tuple", none, .seq #[.int x t1, .int y t2, .int z t3, .int v t4] n, #[]⟩) (ad : AD) (H : Hp) : Rp ad K H (.wtp [.int x, .int y, .int z, .int v]) (.ref a) := by
  unfold Rp
  refine ⟨a, [.int x, .int y, .int z, .int v], rfl, ⟨_, _, n, h, rfl, rfl, le_line (Nat.le_of_ble_eq_true rfl), .cons ⟨t1, rfl⟩ (.cons ⟨t2, rfl⟩ (.cons ⟨t3, rfl⟩ (.cons ⟨t4, rfl⟩ .nil)))⟩, RpL.cons (Rp.int' _) (RpL.cons (Rp.int' _) (RpL.cons (Rp.int' _) (RpL.cons (Rp.int' _) RpL.nil)))⟩
/-! ### the deck of the laws 12 to 19 -/
structure DeckC where
  g : Int
  f : Int
  c : Int
  m : Int
def seMO (d : DeckC) : MO := .lst [.int d.g, .int d.f, .int d.c, .int d.m]
structure ScOk (d : DeckC) (n : Int) : Prop where
  g0 : 0 ≤ d.g
  m0 : 0 ≤ d.m
  m1 : d.m ≤ 2000000000
  c0 : 0 ≤ d.c
  c1 : d.c ≤ n
theorem ScOk.mono {d : DeckC} {n m : Int} (h : ScOk d n) (l : n ≤ m) : ScOk d m := ⟨h.g0, h.m0, h.m1, h.c0, Int.le_trans h.c1 l⟩
/-! ### the four headings as a text -/
def ordS (t : Bool) : Str := if t = true then "eswn" else "enws"
def atO (h : Fin 4) (t : Bool) : Nat := if t = true then (4 - h.val) % 4 else h.val
theorem or_idx (h : Fin 4) (t : Bool) : Builtin.Str.occurrences (ordS t) (hdS h) 0 (ordS t).length 1 = atO h t :: [] := by
  rcases hf4 h with rfl | rfl | rfl | rfl <;> cases t <;> decide +kernel
def hsS (h : Fin 4) (t : Bool) : Str := cutS (ordS t) (some ((atO h t : Nat) : Int)) none ++ cutS (ordS t) none (some ((atO h t : Nat) : Int))
theorem hs_at (h : Fin 4) (t : Bool) (r : Int) : atI (hsS h t).cps.toList (r % 4) = some (hdC (hdR h t r)) := by
  have hr : r % 4 = 0 ∨ r % 4 = 1 ∨ r % 4 = 2 ∨ r % 4 = 3 := by omega
  rw [hdR_4]
  rcases hr with e | e | e | e <;> rw [e] <;> clear e <;> rcases hf4 h with rfl | rfl | rfl | rfl <;> cases t <;> decide +kernel
theorem hs_len (h : Fin 4) (t : Bool) : (hsS h t).length ≤ 4 := by
  rcases hf4 h with rfl | rfl | rfl | rfl <;> cases t <;> decide +kernel
theorem or_len (t : Bool) : (ordS t).length ≤ 4 := by cases t <;> decide +kernel
theorem or_cat (h : Fin 4) (t : Bool) : (cutS (ordS t) (some ((atO h t : Nat) : Int)) none).length + (cutS (ordS t) none (some ((atO h t : Nat) : Int))).length ≤ 100 := by
  rcases hf4 h with rfl | rfl | rfl | rfl <;> cases t <;> decide +kernel
theorem at_ord (t : Bool) : atI [PV.str "enws", .str "eswn"] (if t = true then 1 else 0) = some (.str (ordS t)) := by cases t <;> rfl
/-- the four headings as a list -/
def hdsL (h : Fin 4) (t : Bool) : List PV := [.str (hdS (hdR h t 0)), .str (hdS (hdR h t 1)), .str (hdS (hdR h t 2)), .str (hdS (hdR h t 3))]
def hdsF (h : Fin 4) (t : Bool) : PV → Option PV := fun q => match q with
  | .int k => some (.str (hdS (hdR h t k)))
  | _ => none
theorem hdsF_all (h : Fin 4) (t : Bool) : (rngL 0 (Int.toNat 4)).filterMap (hdsF h t) = hdsL h t := rfl
theorem hds_at (h : Fin 4) (t : Bool) {k : Nat} (k4 : k < 4) : atI (hdsL h t) ((k : Nat) : Int) = some (.str (hdS (hdR h t k))) := by
  have : k = 0 ∨ k = 1 ∨ k = 2 ∨ k = 3 := by omega
  rcases this with rfl | rfl | rfl | rfl <;> rfl
theorem hds_at4 (h : Fin 4) (t : Bool) (r : Int) : atI (hdsL h t) (r % 4) = some (.str (hdS (hdR h t r))) := by
  have hr : r % 4 = 0 ∨ r % 4 = 1 ∨ r % 4 = 2 ∨ r % 4 = 3 := by omega
  rw [hdR_4]
  rcases hr with e | e | e | e <;> rw [e] <;> rfl
/-! ### rings by sides -/
def moreF (k d : Int) : Int := 4 * d * d + (2 * k - 3) * d
theorem more_sq (k d : Int) : moreF k d = (2 * d - 1) * (2 * d - 1) + (2 * k + 1) * d - 1 := by
  unfold moreF
  have e1 : (2 * d - 1) * (2 * d - 1) = 4 * (d * d) - 4 * d + 1 := by
    rw [Int.sub_mul, Int.mul_sub, Int.mul_one, Int.one_mul, sq2]
    omega
  have e2 : (2 * k - 3) * d = 2 * (k * d) - 3 * d := by rw [Int.sub_mul, Int.mul_assoc]
  have e3 : (2 * k + 1) * d = 2 * (k * d) + d := by rw [Int.add_mul, Int.one_mul, Int.mul_assoc]
  rw [e1, e2, e3, Int.mul_assoc 4 d d]
  omega
theorem at_more {k : Nat} (k4 : k < 4) : atI [PV.int (-3), .int (-1), .int 1, .int 3] ((k : Nat) : Int) = some (.int (2 * ((k : Nat) : Int) - 3)) := by
  have : k = 0 ∨ k = 1 ∨ k = 2 ∨ k = 3 := by omega
  rcases this with rfl | rfl | rfl | rfl <;> rfl
/-- side k, so far out, so far aside -/
def sideP (k d a : Int) : Int × Int := ((dirR k).1 * d + (dirR (k + 1)).1 * a, (dirR k).2 * d + (dirR (k + 1)).2 * a)
theorem side_nu {k : Nat} {d a : Int} (k4 : k < 4) (d1 : 1 ≤ d) (a0 : -d < a) (a1 : a ≤ d) : nuF (sideP k d a).1 (sideP k d a).2 = moreF k d + a := by
  have e := more_sq ((k : Nat) : Int) d
  have : k = 0 ∨ k = 1 ∨ k = 2 ∨ k = 3 := by omega
  rcases this with rfl | rfl | rfl | rfl
  · rw [show sideP ((0 : Nat) : Int) d a = (d, a) by unfold sideP; rw [dir0 (by decide), dir1 (by decide)]; refine Prod.ext ?_ ?_ <;> dsimp only <;> omega, e, (Side.nu (r := d) (.e d1 (by omega) (by omega) (by omega) rfl)).1]
    omega
  · rw [show sideP ((1 : Nat) : Int) d a = (0 - a, d) by unfold sideP; rw [dir1 (by decide), dir2 (by decide)]; refine Prod.ext ?_ ?_ <;> dsimp only <;> omega, e, (Side.nu (r := d) (.n d1 (by omega) (by omega) (by omega) rfl)).1]
    omega
  · rw [show sideP ((2 : Nat) : Int) d a = (0 - d, 0 - a) by unfold sideP; rw [dir2 (by decide), dir3 (by decide)]; refine Prod.ext ?_ ?_ <;> dsimp only <;> omega, e, (Side.nu (r := d) (.w d1 (by omega) (by omega) (by omega) rfl)).1]
    omega
  · rw [show sideP ((3 : Nat) : Int) d a = (a, 0 - d) by unfold sideP; rw [dir3 (by decide), dir0 (by decide)]; refine Prod.ext ?_ ?_ <;> dsimp only <;> omega, e, (Side.nu (r := d) (.s d1 (by omega) (by omega) (by omega) rfl)).1]
    omega
theorem pl_lin (h : Fin 4) (t : Bool) (u v : Int × Int) (x y : Int) : plW h t (u.1 * x + v.1 * y, u.2 * x + v.2 * y) = ((plW h t u).1 * x + (plW h t v).1 * y, (plW h t u).2 * x + (plW h t v).2 * y) := by
  have e : ∀ z w : Int, 0 - (z * x + w * y) = (0 - z) * x + (0 - w) * y := fun z w => by rw [Int.sub_mul, Int.sub_mul, Int.zero_mul, Int.zero_mul]; omega
  have e2 : ∀ z w : Int, -(z * x + w * y) = -z * x + -w * y := fun z w => by rw [Int.neg_mul, Int.neg_mul]; omega
  rcases hf4 h with rfl | rfl | rfl | rfl <;> cases t <;> simp [plW, mirP, lefN, lefP, e, e2, v3]
/-- the place of a number, by side -/
theorem side_pl {h : Fin 4} {t : Bool} {k : Nat} {d a : Int} (k4 : k < 4) (d1 : 1 ≤ d) (a0 : -d < a) (a1 : a ≤ d) :
    plN h t (moreF k d + a) = ((stpW (hdR h t k)).1 * d + (stpW (hdR h t (k + 1))).1 * a, (stpW (hdR h t k)).2 * d + (stpW (hdR h t (k + 1))).2 * a) := by
  rw [plN_pl (side_nu k4 d1 a0 a1)]
  unfold sideP
  rw [pl_lin, dT_stp, dT_stp]
end L3

namespace L3
open PySem PySem.Spec L2 PyProof.Rows
/-! ### boxes -/
abbrev Bx := Int × Int × Int × Int
def bxP (b : Bx) : PV := .tup [.int b.1, .int b.2.1, .int b.2.2.1, .int b.2.2.2]
/-! sides begun -/
end L3

namespace L3
open PySem PySem.Spec L2 PyProof.Rows
section
variable {X : Cx} {ρ : Env} {μ : Mem} {tg a : Expr} {np pos : Pos}
/-- range(n), n whatever it promises -/
theorem DIW.range1 {Qa : List PV → (Mem → Prop) → Mem → Prop} (hg : Gl X "range") (hm : X.mg "range" = none)
    (h : WE X a ρ μ fun p m => ∃ j, p = .int j ∧ -(2 ^ 62) ≤ j ∧ j < 2 ^ 62 ∧ Qa (rngL 0 j.toNat) (fun _ => True) m) (hs : starEach [a] X.env = [(false, eval a X.env)] := by rfl) :
    DIW X tg (.Call (.Name "range" np) [a] [] pos) ρ μ Qa :=
  ⟨_, pi_range1 hg hm (pa_w [a]) hs, fun ad σ H Q R hQ => (WA.cons (es := []) (Qa := fun ps m2 => ∃ j, ps = [PV.int j] ∧ -(2 ^ 62) ≤ j ∧ j < 2 ^ 62 ∧ Qa (rngL 0 j.toNat) (fun _ => True) m2)
    (WE.mono h fun p m q => WA.nil (by obtain ⟨j, e, q1, q2, q3⟩ := q; exact ⟨j, by rw [e], q1, q2, q3⟩)) (by rw [hs]; rfl)) ad σ H _ R fun ad2 vs H' ps m' s m r q => by
      obtain ⟨j, e, q1, q2, q3⟩ := q
      subst e
      exact ⟨j, r.one_int, q1, q2, hQ ad2 _ H' _ _ m' s m WalkD.range q3⟩⟩
end
theorem cut_mem {α : Type} {xs : List α} {lo hi : Option Int} {x : α} (h : x ∈ cutP xs lo hi) : x ∈ xs := List.mem_of_mem_drop (List.mem_of_mem_take h)
theorem cut_len {α : Type} {xs : List α} {lo hi : Option Int} : (cutP xs lo hi).length ≤ xs.length := by
  unfold cutP
  rw [List.length_take, List.length_drop]
  omega
theorem cell_of {ns : List Int} {f : Int} {lo hi : Option Int} (hb : ∀ z ∈ ns, Builtin.Int.intBits z ≤ 1048576) (f0 : 0 ≤ f) (f1 : f < 2147483647) {i : Nat} {p : PV} (h : (cutP (ns.map PV.int) lo hi ++ [.int f])[i]? = some p) : ∃ c : Int, p = .int c ∧ Builtin.Int.intBits c ≤ 1048576 := by
  rcases List.mem_append.mp (List.mem_of_getElem? h) with z | z
  · obtain ⟨c, hc, rfl⟩ := List.mem_map.mp (cut_mem z)
    exact ⟨c, rfl, hb c hc⟩
  · rw [List.mem_singleton] at z
    subst z
    exact ⟨f, rfl, Nat.le_trans (bits_b (show B 31 f from B.rng (a := 2147483647) (by omega) (by omega) (by decide))) (by decide)⟩
theorem cells_len {ns : List Int} {f : Int} {lo hi : Option Int} (hl : ns.length ≤ 63) : (cutP (ns.map PV.int) lo hi).length + [PV.int f].length ≤ sizeLine := by
  have := cut_len (xs := ns.map PV.int) (lo := lo) (hi := hi)
  rw [List.length_map] at this
  rw [sizeLine_eq]
  simp
  omega
end L3

namespace L3
open PySem PySem.Spec L2 PyProof.Rows
/-! ### instances: fields, making, methods -/
def putFk (f : Str) : List Str → List Str
  | [] => [f]
  | g :: r => if g = f then g :: r else g :: putFk f r
def putFv {α : Type} (f : Str) (v : α) : List Str → List α → List α
  | [], _ => [v]
  | g :: r, x :: xs => if g = f then v :: xs else x :: putFv f v r xs
  | _ :: _, [] => []
theorem putF_zip (f : Str) (v : V) : ∀ (fs : List Str) (vs : List V), fs.length = vs.length → putF f v (fs.zip vs) = (putFk f fs).zip (putFv f v fs vs) ∧ (putFk f fs).length = (putFv f v fs vs).length
  | [], [], _ => ⟨rfl, rfl⟩
  | [], _ :: _, h => by simp at h
  | _ :: _, [], h => by simp at h
  | g :: r, x :: xs, h => by
    obtain ⟨i1, i2⟩ := putF_zip f v r xs (by simpa using h)
    show (if g = f then (g, v) :: r.zip xs else (g, x) :: putF f v (r.zip xs)) = _ ∧ _
    unfold putFk putFv
    by_cases e : g = f
    · rw [if_pos e, if_pos e, if_pos e]
      exact ⟨rfl, by simpa using h⟩
    · rw [if_neg e, if_neg e, if_neg e, i1]
      exact ⟨rfl, by simp [i2]⟩
section
variable {K : PySem.W.Frag} {ad : AD} {H : Hp}
theorem RpL.putFv {p : PV} {v : V} {f : Str} (rp : Rp ad K H p v) : ∀ {fs : List Str} {ps : List PV} {vs : List V}, RpL ad K H ps vs → fs.length = vs.length → RpL ad K H (L3.putFv f p fs ps) (L3.putFv f v fs vs)
  | [], ps, vs, _, _ => by
    have e1 : L3.putFv f p [] ps = [p] := by cases ps <;> rfl
    have e2 : L3.putFv f v [] vs = [v] := by cases vs <;> rfl
    rw [e1, e2]
    exact RpL.cons rp RpL.nil
  | g :: r, [], vs, h, hl => by unfold RpL at h; subst h; simp at hl
  | g :: r, q :: ps, vs, h, hl => by
    unfold RpL at h
    obtain ⟨u, us, e, h1, h2⟩ := h
    subst e
    show RpL ad K H (if g = f then p :: ps else q :: L3.putFv f p r ps) (if g = f then v :: us else u :: L3.putFv f v r us)
    by_cases e : g = f
    · rw [if_pos e, if_pos e]; exact RpL.cons rp h2
    · rw [if_neg e, if_neg e]; exact RpL.cons h1 (RpL.putFv rp h2 (by simpa using hl))
theorem fld_rp {f : Str} : ∀ {fs : List Str} {ps : List PV} {vs : List V} {p : PV}, RpL ad K H ps vs → fs.length = vs.length → (fs.zip ps).lookup f = some p → ∃ v, (fs.zip vs).lookup f = some v ∧ Rp ad K H p v
  | [], ps, vs, p, _, _, h => by simp at h
  | g :: r, [], vs, p, hr, hl, h => by simp at h
  | g :: r, q :: ps, vs, p, hr, hl, h => by
    unfold RpL at hr
    obtain ⟨u, us, e, h1, h2⟩ := hr
    subst e
    rw [List.zip_cons_cons, List.lookup_cons] at h ⊢
    cases hb : f == g with
    | true => rw [hb] at h; cases h; exact ⟨u, rfl, h1⟩
    | false => rw [hb] at h; exact fld_rp h2 (by simpa using hl) h
theorem fld_no {f : Str} : ∀ {fs : List Str} {ps : List PV} {vs : List V}, RpL ad K H ps vs → fs.length = vs.length → (fs.zip ps).lookup f = none → (fs.zip vs).lookup f = none
  | [], ps, vs, _, _, h => by simp
  | g :: r, [], vs, hr, hl, h => by unfold RpL at hr; subst hr; simp at hl
  | g :: r, q :: ps, vs, hr, hl, h => by
    unfold RpL at hr
    obtain ⟨u, us, e, h1, h2⟩ := hr
    subst e
    rw [List.zip_cons_cons, List.lookup_cons] at h ⊢
    cases hb : f == g with
    | true => rw [hb] at h; cases h
    | false => rw [hb] at h; exact fld_no h2 (by simpa using hl) h
end
/-- the method m of the class at C keeps A, at level k -/
structure MethA (P : Program) (w : World) (K : PySem.W.Frag) (mg : Str → Option Value) (base : Heap) (k : Nat) (C : Addr) (m : Str) (A : ASp) : Prop where
  ex : ∃ (f : Addr) (fd : FuncData) (ps : List Str), FnOk P w K mg base (L2.CX P w) k f fd ps (conc K A) ∧ Meth K C m f ∧ Binds K fd ps []
/-- the class of the module's name x, at C, is made by an __init__ that keeps A -/
structure InitA (P : Program) (w : World) (K : PySem.W.Frag) (mg : Str → Option Value) (base : Heap) (k : Nat) (x : Str) (C : Addr) (A : ASp) : Prop where
  ex : ∃ (f : Addr) (fd : FuncData) (ps : List Str), FnOk P w K mg base (L2.CX P w) k f fd ps (conc K A) ∧ Mk K C f ∧ mg x = some (.ref C) ∧ Binds K fd ps []
structure MDef (K : PySem.W.Frag) (C : Addr) (m qual : Str) (st : Stmt) (ps : List Str) : Prop where
  ex : ∃ f fd, Fun K m qual st f fd ∧ Meth K C m f ∧ Binds K fd ps []
structure IDef (K : PySem.W.Frag) (mg : Str → Option Value) (C : Addr) (x qual : Str) (st : Stmt) (ps : List Str) : Prop where
  ex : ∃ f fd, Fun K "__init__" qual st f fd ∧ Mk K C f ∧ mg x = some (.ref C) ∧ Binds K fd ps []
section
variable {X : Cx} {P : Program} {w : World} {K : PySem.W.Frag} {mg : Str → Option Value} {base : Heap} {N : List Str} {sc : Scope} {k j n : Nat} {x m qual f : Str} {A : ASp} {C : Addr} {ρ ρ' : Env} {μ μ1 μ2 μ' : Mem} {p q r : PV} {e o a b : Expr} {es : List Expr} {pos cp apos : Pos} {D : AEnds} {st : Stmt} {ps : List Str}
theorem MDef.ok (d : MDef K C m qual st ps) (S : FnScope N ps (defScope st)) (len : ∀ args μ Q E, A args μ Q E → args.length = ps.length)
    (body : ∀ (X : Cx) (args : List PV) (μ : Mem) (Q : PV → Mem → Prop) (E : EX → Mem → Prop), CxF X P w K mg base N (defScope st) k → A args μ Q E → DSs X (defBody st) (entry N args) μ (fnEnds μ Q)) : MethA P w K mg base (k + 1) C m A := by
  obtain ⟨f, fd, F, M, B⟩ := d.ex
  exact ⟨f, fd, ps, FnOk.ofA F S len body, M, B⟩
theorem IDef.ok (d : IDef K mg C x qual st ps) (S : FnScope N ps (defScope st)) (len : ∀ args μ Q E, A args μ Q E → args.length = ps.length)
    (body : ∀ (X : Cx) (args : List PV) (μ : Mem) (Q : PV → Mem → Prop) (E : EX → Mem → Prop), CxF X P w K mg base N (defScope st) k → A args μ Q E → DSs X (defBody st) (entry N args) μ (fnEnds μ Q)) : InitA P w K mg base (k + 1) x C A := by
  obtain ⟨f, fd, F, M, h, B⟩ := d.ex
  exact ⟨f, fd, ps, FnOk.ofA F S len body, M, h, B⟩
/-- o.f -/
theorem DE.fld {fs : List Str} {vs : List PV} (cx : CxD X P w K mg base N sc k) (c : Cls K C) (na : NoAttr K C f) (ho : DE X o ρ μ (.obj n) μ1) (hm : μ1[n]? = some (.ins C fs vs)) (hl : (fs.zip vs).lookup f = some p)
    (hb : attributeBase o f X.env (eval o X.env) = eval o X.env := by rfl) : DE X (.Attribute o f pos) ρ μ p μ1 := fun ad σ H Q R g => by
  refine wE.of (pe_fld (pe_w o) hb) (ho ad σ H _ R fun ad1 v H1 s1 m1 r1 => ?_)
  obtain ⟨l, e1, h1⟩ := r1.obj_inv
  obtain ⟨dx, ws, hws, hlen, rl⟩ := m1.mem n l _ h1 hm
  obtain ⟨w', hw, rw'⟩ := fld_rp rl hlen hl
  exact ⟨l, C, dx, _, w', e1, hws, by rw [cx.eK]; exact c, by rw [cx.eK]; exact na, hw, (Fin1.step s1 g) [] w' H1 Stp.refl (by rwa [AD.append_nil]) (by rwa [AD.append_nil])⟩
/-- o.f = e -/
theorem DS.fld {fs : List Str} {vs : List PV} {pos' : Pos} (cx : CxD X P w K mg base N sc k) (c : Cls K C) (na : NoAttr K C f) (hv : DE X e ρ μ p μ1) (ho : DE X o ρ μ1 (.obj n) μ2) (hm : μ2[n]? = some (.ins C fs vs)) (hl : fs.length < 1000)
    (hn : D.nx ρ (μ2.set n (.ins C (putFk f fs) (putFv f p fs vs)))) (hs : swapsWith e (some (.Attribute o f pos')) pos.line X.env = pure false := by rfl) : DS X (.Assign [.Attribute o f pos'] e pos) ρ μ D := fun ad σ H Dc R Ce => by
  refine wS.of (ps_fld (pe_w o) (pe_w e) hs) (hv ad σ H _ R fun ad1 v H1 s1 m1 r1 => ?_)
  refine ho (ad ++ ad1) σ H1 _ (R.mono s1 m1) fun ad2 u H2 s2 m2 r2 => ?_
  obtain ⟨l, e1, h1⟩ := r2.obj_inv
  obtain ⟨dx, ws, hws, hlen, rl⟩ := m2.mem n l _ h1 hm
  obtain ⟨z1, z2⟩ := putF_zip f v fs ws hlen
  refine ⟨l, C, dx, _, e1, hws, by rw [cx.eK]; exact c, by rw [cx.eK]; exact na, by rw [List.length_zip]; omega, ?_⟩
  rw [z1]
  have s3 : Stp (ad ++ ad1 ++ ad2) [] H2 (upd H2 l (.ins C dx ((putFk f fs).zip (putFv f v fs ws)))) := Stp.write h1
  have m3 := m2.write (o := .ins C dx ((putFk f fs).zip (putFv f v fs ws))) (m := .ins C (putFk f fs) (putFv f p fs vs)) h1 ⟨dx, _, upd_same, z2, (RpL.putFv (r1.mono s2) rl hlen).wr h1⟩
  have R2 : Rst (ad ++ ad1 ++ ad2) X.K H2 σ ρ μ2 := (R.mono s1 m1).mono s2 m2
  have m3' : Mst (ad ++ ad1 ++ ad2 ++ ([] : List Addr)) X.K (upd H2 l (.ins C dx ((putFk f fs).zip (putFv f v fs ws)))) (μ2.set n (.ins C (putFk f fs) (putFv f p fs vs))) := by rw [AD.append_nil]; exact m3
  exact ((Ce.step s1).step s2).nx [] σ _ ρ _ s3 (R2.mono s3 m3') hn
/-- C(e, ..): a new instance -/
theorem DE.make {ps : List PV} (cx : CxD X P w K mg base N sc k) (I : InitA P w K mg base j x C A) (hj : j + 1 ≤ k) (hx : sc.names.lookup x = some .globalImplicit) (ha : DA X (e :: es) ρ μ ps μ1)
    (hA : A (.obj μ1.length :: ps) (μ1 ++ [.ins C [] []]) (fun r m => r = .non ∧ m = μ2) (fun _ _ => False))
    (hdb : (x == ("__debug__" : Str)) = false := by decide) (he : starEach (e :: es) X.env = (false, eval e X.env) :: starEach es X.env := by rfl) (hpl : (backTo pos (starEach es X.env)).any (·.1) = false := by rfl) :
    DE X (.Call (.Name x cp) (e :: es) [] pos) ρ μ (.obj μ1.length) μ2 := fun ad σ H Q R g => by
  obtain ⟨fI, fd, pn, F, M, hm, B⟩ := I.ex
  rw [← cx.eP, ← cx.ew, ← cx.eK, ← cx.emg, ← cx.eb] at F
  rw [← cx.eK] at M B
  rw [← cx.emg] at hm
  refine wE.of (pe_make M F (cx.room.mono hj) (cx.gl x hx) hm B .nil passE0 (pa_w _) hdb he hpl) (ha ad σ H _ R fun ad1 vs H1 s1 m1 r1 => ?_)
  intro l dx hl hdx ne
  rw [List.append_nil]
  have sd : Stp (ad ++ ad1) [] H1 (upd H1 dx (.own l)) := Stp.data hdx
  have md : Mst (ad ++ ad1) X.K (upd H1 dx (.own l)) μ1 := m1.data hdx
  have hl2 : upd H1 dx (.own l) l = none := by rw [upd_ne (Ne.symm ne)]; exact hl
  have sn : Stp (ad ++ ad1 ++ ([] : List Addr)) [l] (upd H1 dx (.own l)) (upd (upd H1 dx (.own l)) l (.ins C dx [])) := Stp.fresh hl2
  have mn : Mst (ad ++ ad1 ++ [l]) X.K (upd (upd H1 dx (.own l)) l (.ins C dx [])) (μ1 ++ [.ins C [] []]) := md.push hl2 ⟨dx, [], upd_same, rfl, RpL.nil⟩
  have st : Stp (ad ++ ad1) [l] H1 (upd (upd H1 dx (.own l)) l (.ins C dx [])) := by
    have := sd.trans sn
    simpa using this
  have ro : Rp (ad ++ ad1 ++ [l]) X.K (upd (upd H1 dx (.own l)) l (.ins C dx [])) (.obj μ1.length) (.ref l) := by
    unfold Rp
    exact ⟨l, rfl, AD.at_snoc md.len⟩
  refine ⟨ad ++ ad1 ++ [l], μ1 ++ [.ins C [] []], .obj μ1.length :: ps, _, _, mn, RpL.cons ro (RpL.mono (K := X.K) st ps vs r1), hA, fun ad2 H' μ' r v s m rr hq => ?_, fun _ _ _ _ _ _ _ _ _ h => h.elim⟩
  obtain ⟨rfl, rfl⟩ := hq
  refine ⟨rr.non_inv, ?_⟩
  refine g (ad1 ++ [l] ++ ad2) _ H' ?_ ?_ ?_
  · have := (s1.trans (st.trans s))
    simpa using this
  · have e : ad ++ (ad1 ++ [l] ++ ad2) = ad ++ ad1 ++ [l] ++ ad2 := by rw [AD.append_assoc, AD.append_assoc, List.append_assoc]
    rw [e]
    exact m
  · have e : ad ++ (ad1 ++ [l] ++ ad2) = ad ++ ad1 ++ [l] ++ ad2 := by rw [AD.append_assoc, AD.append_assoc, List.append_assoc]
    rw [e]
    exact ro.mono s
/-- o.m(e, ..) -/
theorem DE.meth {ps : List PV} {fs : List Str} {vs : List PV} {pl : Sem Bool} (cx : CxD X P w K mg base N sc k) (c : Cls K C) (I : MethA P w K mg base j C m A) (hj : j ≤ k) (ho : DE X o ρ μ (.obj n) μ1) (hm : μ1[n]? = some (.ins C fs vs)) (hl : (fs.zip vs).lookup m = none)
    (ha : DA X (e :: es) ρ μ1 ps μ2) (hA : A (.obj n :: ps) μ2 (fun r m => r = p ∧ m = μ') (fun _ _ => False))
    (he : starEach (e :: es) X.env = (false, eval e X.env) :: starEach es X.env := by rfl) (hpl : (backTo pos (starEach es X.env)).any (·.1) = false := by rfl)
    (ht : eval (.Call (.Attribute o m apos) (e :: es) [] pos) X.env = (do
      let ov ← eval o X.env
      standAt apos.atName
      let (f, first) ← holding [ov] (getMethod ov m pl)
      callWith pos f first (backTo pos (starEach (e :: es) X.env)) (backToKw pos (keywordEach [] X.env))) := by rfl) :
    DE X (.Call (.Attribute o m apos) (e :: es) [] pos) ρ μ p μ' := fun ad σ H Q R g => by
  obtain ⟨f, fd, pn, F, M, B⟩ := I.ex
  rw [← cx.eP, ← cx.ew, ← cx.eK, ← cx.emg, ← cx.eb] at F
  rw [← cx.eK] at M B c
  refine wE.of (pe_meth (pe_w o) c M F (cx.room.mono hj) B .nil passE0 (pa_w _) he hpl ht) (ho ad σ H _ R fun ad1 v H1 s1 m1 r1 => ?_)
  obtain ⟨l, e1, h1⟩ := r1.obj_inv
  obtain ⟨dx, ws, hws, hlen, rl⟩ := m1.mem n l _ h1 hm
  refine ⟨l, dx, _, e1, hws, fld_no rl hlen hl, ?_⟩
  refine ha (ad ++ ad1) σ H1 _ (R.mono s1 m1) fun ad2 us H2 s2 m2 r2 => ?_
  rw [List.append_nil]
  refine ⟨ad ++ ad1 ++ ad2, μ2, .obj n :: ps, _, _, m2, RpL.cons (r1.mono s2) r2, hA, fun ad3 H' μ3 r v s m rr hq => ?_, fun _ _ _ _ _ _ _ _ _ h => h.elim⟩
  obtain ⟨rfl, rfl⟩ := hq
  have e : ad ++ (ad1 ++ (ad2 ++ ad3)) = ad ++ ad1 ++ ad2 ++ ad3 := by rw [AD.append_assoc, AD.append_assoc]
  refine g (ad1 ++ (ad2 ++ ad3)) v H' (s1.trans (s2.trans s)) ?_ ?_
  · rw [e]; exact m
  · rw [e]; exact rr
end
end L3

namespace L3
open PySem PySem.Spec L2 PyProof.Rows
/-! ### list(zip(xs, ys)), xs and ys lists -/
theorem zl_len : typeLookup (.type "zip") "__len__" = pure none := am_miss_of_fast (by decide +kernel)
theorem zl_hint : typeLookup (.type "zip") "__length_hint__" = pure none := am_miss_of_fast (by decide +kernel)
/-- while the pairs are being gathered at S -/
structure ZlSt (z TI TO i1 i2 l1 l2 S base : Addr) (xs ys acc : Array Value) (k : Nat) (g : Heap) : Prop where
  ti : PySem.IsPair g TI (.ref i1) (.ref i2)
  w1 : g.IsListIter i1 l1 k
  w2 : g.IsListIter i2 l2 k
  s1 : g.IsList l1 xs
  s2 : g.IsList l2 ys
  zz : (PySem.IsZip g z TI TO .none ∧ ∃ a b, PySem.IsPair g TO a b) ∨ ∃ T f oT, PySem.IsZipHeld g z TI TO T f ∧ g.get? T = some oT ∧ T ≠ z ∧ T ≠ i1 ∧ T ≠ i2 ∧ T ≠ S
  sz : acc.size = k
  lo : TO < g.objs.size
  out : ∀ (j : Nat) (v : Value), acc[j]? = some v → ∃ T x y, v = .ref T ∧ xs[j]? = some x ∧ ys[j]? = some y ∧ PySem.IsPair g T x y ∧ base ≤ T ∧ T ≠ z ∧ T ≠ TO ∧ T ≠ i1 ∧ T ≠ i2 ∧ T ≠ S
  nd : ∀ (i j : Nat) (T : Addr), acc[i]? = some (.ref T) → acc[j]? = some (.ref T) → i = j
section
variable {P : Program} {W : World} {B : Around} {z TI TO i1 i2 l1 l2 S base : Addr} {xs ys acc : Array Value} {k : Nat}
theorem ZlSt.off {g g' : Heap} (D : ZipApart z TI TO i1 i2 l1 l2) (n1 : S ≠ z) (n2 : S ≠ TI) (n3 : S ≠ TO) (n4 : S ≠ i1) (n5 : S ≠ i2) (n6 : S ≠ l1) (n7 : S ≠ l2) (st : ZlSt z TI TO i1 i2 l1 l2 S base xs ys acc k g) (stay : ∀ c o, c ≠ S → g.get? c = some o → g'.get? c = some o) (le : g.objs.size ≤ g'.objs.size) : ZlSt z TI TO i1 i2 l1 l2 S base xs ys acc k g' where
  ti := stay _ _ (Ne.symm n2) st.ti
  w1 := st.w1.at fun o => stay _ o (Ne.symm n4)
  w2 := st.w2.at fun o => stay _ o (Ne.symm n5)
  s1 := st.s1.at fun o => stay _ o (Ne.symm n6)
  s2 := st.s2.at fun o => stay _ o (Ne.symm n7)
  zz := by
    rcases st.zz with ⟨e, a, b, e2⟩ | ⟨T, f, oT, e, e2, q1, q2, q3, q4⟩
    · exact .inl ⟨stay _ _ (Ne.symm n1) e, a, b, stay _ _ (Ne.symm n3) e2⟩
    · exact .inr ⟨T, f, oT, stay _ _ (Ne.symm n1) e, stay _ _ q4 e2, q1, q2, q3, q4⟩
  sz := st.sz
  lo := Nat.lt_of_lt_of_le st.lo le
  out := fun j v hj => by
    obtain ⟨T, x, y, e1, e2, e3, e4, e5, q1, q2, q3, q4, q5⟩ := st.out j v hj
    exact ⟨T, x, y, e1, e2, e3, stay _ _ q5 e4, e5, q1, q2, q3, q4, q5⟩
  nd := st.nd
theorem zl_next {F : Value → Shared → Prop} {q : Shared} {R : Option Value → Shared → Prop} (D : ZipApart z TI TO i1 i2 l1 l2) (st : ZlSt z TI TO i1 i2 l1 l2 S base xs ys acc k q.heap) (hb : base ≤ q.heap.objs.size) (hS : S < q.heap.objs.size) (h1 : k < xs.size) (h2 : k < ys.size)
    (hR : ∀ T g, ZlSt z TI TO i1 i2 l1 l2 S base xs ys (acc.push (.ref T)) (k + 1) g → (∀ c o, c ≠ z → c ≠ TO → c ≠ i1 → c ≠ i2 → q.heap.get? c = some o → g.get? c = some o) → g.objs.size = q.heap.objs.size + 1 → R (some (.ref T)) { q with heap := g }) :
    wpAny (model P W) B (pyNext (.ref z)) R F q := by
  have ex := Array.getElem?_eq_getElem h1
  have ey := Array.getElem?_eq_getElem h2
  have up : ∀ {c o}, q.heap.get? c = some o → q.heap.objs.size ≠ c := fun e => Nat.ne_of_gt (Heap.lt_size e)
  have u1 : q.heap.objs.size ≠ i1 := let ⟨_, e, _⟩ := st.w1; up e
  have u2 : q.heap.objs.size ≠ i2 := let ⟨_, e, _⟩ := st.w2; up e
  have u3 : q.heap.objs.size ≠ S := Nat.ne_of_gt hS
  have grow : ∀ g, PySem.IsPair g q.heap.objs.size xs[k] ys[k] → (∀ c o, c ≠ z → c ≠ TO → c ≠ i1 → c ≠ i2 → q.heap.get? c = some o → g.get? c = some o) → q.heap.objs.size ≠ z → q.heap.objs.size ≠ TO →
      (∀ (j : Nat) (v : Value), (acc.push (.ref q.heap.objs.size))[j]? = some v → ∃ T x y, v = .ref T ∧ xs[j]? = some x ∧ ys[j]? = some y ∧ PySem.IsPair g T x y ∧ base ≤ T ∧ T ≠ z ∧ T ≠ TO ∧ T ≠ i1 ∧ T ≠ i2 ∧ T ≠ S) ∧
      ∀ (i j : Nat) (T : Addr), (acc.push (.ref q.heap.objs.size))[i]? = some (.ref T) → (acc.push (.ref q.heap.objs.size))[j]? = some (.ref T) → i = j := fun g hp stay uz uo => by
    have old : ∀ (j : Nat) T, acc[j]? = some (.ref T) → T ≠ q.heap.objs.size := fun j T hj e => by
      obtain ⟨T', x, y, e1, _, _, e4, _⟩ := st.out j _ hj
      cases e1
      exact up e4 e.symm
    refine ⟨fun j v hj => ?_, fun i j T hi hj => ?_⟩
    · rw [Array.getElem?_push] at hj
      split at hj
      · rename_i e
        cases hj
        rw [st.sz] at e
        subst e
        exact ⟨_, _, _, rfl, ex, ey, hp, hb, uz, uo, u1, u2, u3⟩
      · obtain ⟨T, x, y, e1, e2, e3, e4, e5, q1, q2, q3, q4, q5⟩ := st.out j v hj
        exact ⟨T, x, y, e1, e2, e3, stay _ _ q1 q2 q3 q4 e4, e5, q1, q2, q3, q4, q5⟩
    · rw [Array.getElem?_push] at hi hj
      split at hi
      · split at hj
        · omega
        · cases hi
          exact absurd rfl (old _ _ hj)
      · split at hj
        · cases hj
          exact absurd rfl (old _ _ hi)
        · exact st.nd i j T hi hj
  rcases st.zz with ⟨e, a, b, e2⟩ | ⟨T, f, oT, e, e2, q1, q2, q3, q4⟩
  · refine wpAny_pyNext_zip_item D e st.ti e2 st.w1 st.w2 st.s1 st.s2 ex ey fun g b1 b2 b3 b4 b5 b6 stay => hR _ g ?_ stay b6
    obtain ⟨go, gn⟩ := grow g b5 stay (up e) (up e2)
    exact ⟨stay _ _ D.TIz D.TITO D.TIi1 D.TIi2 st.ti, b3, b4, st.s1.at fun o => stay _ o D.l1z D.l1TO D.l1i1 D.l1i2, st.s2.at fun o => stay _ o D.l2z D.l2TO D.l2i1 D.l2i2, .inr ⟨_, false, _, b1, b5, up e, u1, u2, u3⟩, by rw [Array.size_push, st.sz], by rw [b6]; exact Nat.lt_succ_of_lt st.lo, go, gn⟩
  · refine wpAny_pyNext_zip_item_held D e e2 st.ti st.w1 st.w2 st.s1 st.s2 ex ey fun g b1 b3 b4 b5 b6 stay => ?_
    have uo : q.heap.objs.size ≠ TO := Nat.ne_of_gt st.lo
    · obtain ⟨go, gn⟩ := grow g b5 (fun c o d1 _ d3 d4 => stay c o d1 d3 d4) (up e) uo
      exact hR _ g ⟨stay _ _ D.TIz D.TIi1 D.TIi2 st.ti, b3, b4, st.s1.at fun o => stay _ o D.l1z D.l1i1 D.l1i2, st.s2.at fun o => stay _ o D.l2z D.l2i1 D.l2i2, .inr ⟨T, true, oT, b1, stay _ _ q1 q2 q3 e2, q1, q2, q3, q4⟩, by rw [Array.size_push, st.sz], by rw [b6]; exact Nat.lt_succ_of_lt st.lo, go, gn⟩ (fun c o d1 _ d3 d4 => stay c o d1 d3 d4) b6
theorem zl_stop {F : Value → Shared → Prop} {q : Shared} {R : Option Value → Shared → Prop} (hh : B.handled = none) (D : ZipApart z TI TO i1 i2 l1 l2) (st : ZlSt z TI TO i1 i2 l1 l2 S base xs ys acc k q.heap) (he : xs[k]? = none ∨ ys[k]? = none)
    (hR : ∀ g, (∀ c o, c ≠ z → c ≠ TO → c ≠ i1 → c ≠ i2 → q.heap.get? c = some o → g.get? c = some o) → R none { q with heap := g }) : wpAny (model P W) B (pyNext (.ref z)) R F q := by
  rcases st.zz with ⟨e, a, b, e2⟩ | ⟨T, f, oT, e, e2, q1, q2, q3, q4⟩
  · exact wpAny_pyNext_zip_end hh D e st.ti e2 st.w1 st.w2 st.s1 st.s2 he fun g stay => hR g stay
  · exact wpAny_pyNext_zip_end_held hh D e e2 st.ti st.w1 st.w2 st.s1 st.s2 he fun g stay => hR g fun c o d1 _ d3 d4 => stay c o d1 d3 d4
end
/-- the addresses that stand apart from the list that is filled -/
structure ZlOff (z TI TO i1 i2 l1 l2 S : Addr) : Prop where
  n1 : S ≠ z
  n2 : S ≠ TI
  n3 : S ≠ TO
  n4 : S ≠ i1
  n5 : S ≠ i2
  n6 : S ≠ l1
  n7 : S ≠ l2
/-- what stands at the end -/
def ZlEnd (z TO i1 i2 S base : Addr) (xs ys acc : Array Value) (g0 g : Heap) : Prop :=
  (∃ c, g.get? S = some { cls := .type "list", dict := none, data := .seq acc c, slots := #[] }) ∧ acc.size = min xs.size ys.size ∧
  (∀ (j : Nat) (v : Value), acc[j]? = some v → ∃ T x y, v = .ref T ∧ xs[j]? = some x ∧ ys[j]? = some y ∧ PySem.IsPair g T x y ∧ base ≤ T ∧ T ≠ S) ∧
  (∀ (i j : Nat) (T : Addr), acc[i]? = some (.ref T) → acc[j]? = some (.ref T) → i = j) ∧
  ∀ c o, c ≠ z → c ≠ TO → c ≠ i1 → c ≠ i2 → c ≠ S → g0.get? c = some o → g.get? c = some o
section
variable {P : Program} {W : World} {B : Around} {z TI TO i1 i2 l1 l2 S base : Addr} {xs ys : Array Value} {R : Result → Shared → Prop} {res : Value}
theorem zl_loop (hh : B.handled = none) (D : ZipApart z TI TO i1 i2 l1 l2) (O : ZlOff z TI TO i1 i2 l1 l2 S) (hm : min xs.size ys.size ≤ sizeLine) (g0 : Heap) :
    ∀ (r k : Nat) (q : Shared) (acc : Array Value) (c : Nat), min xs.size ys.size - k = r → k ≤ min xs.size ys.size → ZlSt z TI TO i1 i2 l1 l2 S base xs ys acc k q.heap → base ≤ q.heap.objs.size →
      q.heap.get? S = some { cls := .type "list", dict := none, data := .seq acc c, slots := #[] } → (∀ c o, c ≠ z → c ≠ TO → c ≠ i1 → c ≠ i2 → c ≠ S → g0.get? c = some o → q.heap.get? c = some o) →
      (∀ g t acc', ZlEnd z TO i1 i2 S base xs ys acc' g0 g → R (.ok (.ret res)) { q with heap := g, toks := t }) →
      codeAny (model P W) B (.builtin "list.extend.loop" ⟨[.ref S, .ref z, res], []⟩) R q
  | 0, k, q, acc, c, hr, hk, st, hb, hS, stay, hR => by
    have ek : k = min xs.size ys.size := by omega
    have hd : xs[k]? = none ∨ ys[k]? = none := by
      rcases Nat.le_total xs.size ys.size with e | e
      · exact .inl (Array.getElem?_eq_none (by omega))
      · exact .inr (Array.getElem?_eq_none (by omega))
    refine codeAny_builtin PySem.F.entry_extend_loop ?_
    rw [Around.under_plainId PySem.F.plain_extend_loop _]
    show wpAny (model P W) B.in1 (pyNext (.ref z) >>= _) _ _ q
    refine wpAny_bind (zl_stop hh D st hd fun g up => wpAny_pure (hR g q.toks acc ⟨⟨c, up _ _ O.n1 O.n3 O.n4 O.n5 hS⟩, by rw [st.sz, ek], fun j v hj => ?_, st.nd, fun c o d1 d2 d3 d4 d5 e => up c o d1 d2 d3 d4 (stay c o d1 d2 d3 d4 d5 e)⟩))
    obtain ⟨T, x, y, e1, e2, e3, e4, e5, q1, q2, q3, q4, q5⟩ := st.out j v hj
    exact ⟨T, x, y, e1, e2, e3, up _ _ q1 q2 q3 q4 e4, e5, q5⟩
  | r + 1, k, q, acc, c, hr, hk, st, hb, hS, stay, hR => by
    refine codeAny_builtin PySem.F.entry_extend_loop ?_
    rw [Around.under_plainId PySem.F.plain_extend_loop _]
    show wpAny (model P W) B.in1 (pyNext (.ref z) >>= _) _ _ q
    refine wpAny_bind (zl_next D st hb (Heap.lt_size hS) (by omega) (by omega) fun T g st2 up gs => ?_)
    have hS2 := up _ _ O.n1 O.n3 O.n4 O.n5 hS
    show wpAny (model P W) B.in1 (updateSeq S (·.push (.ref T)) >>= _) _ _ _
    refine wpAny_bind ?_
    have aside : ∀ c o, c ≠ S → g.get? c = some o → (g.update S (Obj.mapSeq (·.push (.ref T)))).get? c = some o := fun c o d e => (Heap.get?_update_other _ _ (Ne.symm d)).trans e
    have sz2 : (g.update S (Obj.mapSeq (·.push (Value.ref T)))).objs.size = g.objs.size := Heap.size_update ..
    refine wpAny_updateSeq hS2 rfl (wpAny_pure ⟨plainId_quiet PySem.F.plain_extend_loop _, ?_⟩) (by rw [st.sz]; omega) (by show (acc.push (Value.ref T)).size ≤ sizeLine + 1; rw [Array.size_push, st.sz]; omega)
    refine zl_loop hh D O hm g0 r (k + 1) _ (acc.push (.ref T)) _ (by omega) (by omega) (st2.off D O.n1 O.n2 O.n3 O.n4 O.n5 O.n6 O.n7 aside (by rw [sz2]; exact Nat.le_refl _)) (by show base ≤ (g.update S _).objs.size; rw [sz2, gs]; exact Nat.le_trans hb (Nat.le_succ _)) (Heap.get?_update_self _ hS2 rfl)
      (fun c o d1 d2 d3 d4 d5 e => aside c o d5 (up c o d1 d2 d3 d4 (stay c o d1 d2 d3 d4 d5 e))) fun g' t acc' he => hR g' t acc' he
theorem zl_extend {q : Shared} {c0 : Nat} (hh : B.handled = none) (D : ZipApart z TI TO i1 i2 l1 l2) (O : ZlOff z TI TO i1 i2 l1 l2 S) (hm : min xs.size ys.size ≤ sizeLine) (hz : PySem.IsZip q.heap z TI TO .none) (st : ZlSt z TI TO i1 i2 l1 l2 S base xs ys #[] 0 q.heap) (hb : base ≤ q.heap.objs.size)
    (hS : q.heap.get? S = some { cls := .type "list", data := .seq #[] c0 }) (hR : ∀ g t acc, ZlEnd z TO i1 i2 S base xs ys acc q.heap g → R (.ok (.ret res)) { q with heap := g, toks := t }) :
    wpAny (model P W) B.in1 (Builtin.List.listExtendWith (.ref S) (.ref z) res)
      (fun fin s' => match fin with | .done f => R (.ok f) s' | .again c' => c'.quiet = true ∧ codeAny (model P W) B c' R s') (fun e s' => R (.error e) s') q := by
  have ht : q.TypeIs (.ref z) "zip" := ⟨_, hz, rfl⟩
  unfold Builtin.List.listExtendWith
  refine wpAny_bind (wpAny_typeOf ht ?_)
  have f1 : Builtin.List.listSameRef (.ref S) (.ref z) = false := by simp [Builtin.List.listSameRef, O.n1]
  have f2 : (Value.type "zip" == Value.type "list") = false := by decide
  have f3 : (Value.type "zip" == Value.type "tuple") = false := by decide
  simp only [f1, f2, f3, Bool.or_false, Bool.false_eq_true, if_false]
  refine wpAny_bind (wpAny_pyIter_zip hz (wpAny_bind (wpAny_holding ?_)))
  unfold Builtin.List.listLengthHint
  refine wpAny_bind (wpAny_specialOf ht zl_len ?_)
  show wpAny (model P W) B.in1 (specialOf (Value.ref z) (Str.ofString "__length_hint__") >>= _) _ _ _
  refine wpAny_bind (wpAny_specialOf ht zl_hint (wpAny_pure ?_))
  show wpAny (model P W) B.in1 (rule "list.extend.makes-room" >>= fun _ => Builtin.List.listTouch (.ref S) >>= fun _ => again (.builtin "list.extend.loop" ⟨[.ref S, .ref z, res], []⟩)) _ _ _
  refine wpAny_bind (wpAny_rule (wpAny_bind ?_))
  show wpAny (model P W) B.in1 (updateSeq S (·.push .none) >>= fun _ => updateSeq S (·.pop)) _ _ _
  refine wpAny_bind (wpAny_updateSeq hS rfl ?_)
  have p2 := Heap.get?_update_self (Obj.mapSeq (·.push Value.none)) hS rfl
  refine wpAny_updateSeq (hz := by seq_fits) p2 rfl ?_
  have p3 := Heap.get?_update_self (Obj.mapSeq (·.pop)) p2 rfl
  have aside : ∀ c o, c ≠ S → q.heap.get? c = some o → ((q.heap.update S (Obj.mapSeq (·.push Value.none))).update S (Obj.mapSeq (·.pop))).get? c = some o :=
    fun c o d e => (Heap.get?_update_other _ _ (Ne.symm d)).trans ((Heap.get?_update_other _ _ (Ne.symm d)).trans e)
  have sz2 : ((q.heap.update S (Obj.mapSeq (·.push Value.none))).update S (Obj.mapSeq (·.pop))).objs.size = q.heap.objs.size := by rw [Heap.size_update, Heap.size_update]
  refine wpAny_pure ⟨plainId_quiet PySem.F.plain_extend_loop _, ?_⟩
  exact zl_loop hh D O hm q.heap _ 0 { q with heap := (q.heap.update S (Obj.mapSeq (·.push Value.none))).update S (Obj.mapSeq (·.pop)) } #[] _ rfl (Nat.zero_le _) (st.off D O.n1 O.n2 O.n3 O.n4 O.n5 O.n6 O.n7 aside (by rw [sz2]; exact Nat.le_refl _)) (by show base ≤ _; rw [sz2]; exact hb) p3
    (fun c o _ _ _ _ d5 e => aside c o d5 e) fun g t acc he => hR g t acc he
theorem zl_call {q : Shared} {F : Value → Shared → Prop} {Q : Value → Shared → Prop} (hh : B.handled = none) (D : ZipApart z TI TO i1 i2 l1 l2) (hm : min xs.size ys.size ≤ sizeLine) (hz : PySem.IsZip q.heap z TI TO .none) (h1 : PySem.IsPair q.heap TI (.ref i1) (.ref i2)) (h2 : ∃ a b, PySem.IsPair q.heap TO a b)
    (h3 : q.heap.IsListIter i1 l1 0) (h4 : q.heap.IsListIter i2 l2 0) (h5 : q.heap.IsList l1 xs) (h6 : q.heap.IsList l2 ys)
    (hQ : ∀ g t acc, ZlEnd z TO i1 i2 q.heap.objs.size q.heap.objs.size xs ys acc q.heap g → Q (.ref q.heap.objs.size) { q with heap := g, toks := t }) : wpAny (model P W) B (call (.type "list") [.ref z]) Q F q := by
  refine callType_codes (Q₁ := fun obj s₁ => obj = .ref q.heap.objs.size ∧ s₁ = { q with heap := q.heap.push { cls := .type "list", data := .seq #[] } }) PySem.F.called_list (PySem.F.typeCall_list_1 _) PySem.F.entry_list_init (code_list_new _ ⟨rfl, rfl⟩) fun obj s₁ e => ?_
  obtain ⟨rfl, rfl⟩ := e
  have p0 : (q.heap.push { cls := .type "list", data := .seq #[] }).get? q.heap.objs.size = some { cls := .type "list", data := .seq #[] } := Heap.get?_push_size _ rfl
  have lt : ∀ {c o}, q.heap.get? c = some o → q.heap.objs.size ≠ c := fun e => Nat.ne_of_gt (Heap.lt_size e)
  obtain ⟨a, b, h2⟩ := h2
  have O : ZlOff z TI TO i1 i2 l1 l2 q.heap.objs.size := ⟨lt hz, lt h1, lt h2, let ⟨_, e, _⟩ := h3; lt e, let ⟨_, e, _⟩ := h4; lt e, let ⟨_, e, _⟩ := h5; lt e, let ⟨_, e, _⟩ := h6; lt e⟩
  refine ⟨⟨_, p0, rfl⟩, PySem.F.args_list_init_2 _ _, ?_⟩
  show wpAny (model P W) B.in1.in1 (do let old ← Builtin.List.listItems (.ref q.heap.objs.size); Builtin.List.listUpdate (.ref q.heap.objs.size) (fun _ => #[]); letGo old.toList.reverse; Builtin.List.listExtendWith (.ref q.heap.objs.size) (.ref z) .none) _ _ _
  refine wpAny_bind ?_
  unfold Builtin.List.listItems
  refine wpAny_bind (wpAny_seqItems p0 rfl (wpAny_pure ?_))
  show wpAny (model P W) B.in1.in1 (updateSeq q.heap.objs.size (fun _ => #[]) >>= fun _ => letGo (#[] : Array Value).toList.reverse >>= fun _ => Builtin.List.listExtendWith (.ref q.heap.objs.size) (.ref z) .none) _ _ _
  refine wpAny_bind (wpAny_updateSeq p0 rfl ?_)
  have p1 := Heap.get?_update_self (Obj.mapSeq (fun _ => (#[] : Array Value))) p0 rfl
  have aside : ∀ c o, c ≠ q.heap.objs.size → q.heap.get? c = some o → ((q.heap.push { cls := .type "list", data := .seq #[] }).update q.heap.objs.size (Obj.mapSeq (fun _ => (#[] : Array Value)))).get? c = some o :=
    fun c o d e => (Heap.get?_update_other _ _ (Ne.symm d)).trans (Heap.get?_push_of_some _ e)
  have sz2 : ((q.heap.push { cls := .type "list", data := .seq #[] }).update q.heap.objs.size (Obj.mapSeq (fun _ => (#[] : Array Value)))).objs.size = q.heap.objs.size + 1 := by rw [Heap.size_update, Heap.size_push]
  refine wpAny_bind (wpAny_letGo ?_)
  have st : ZlSt z TI TO i1 i2 l1 l2 q.heap.objs.size q.heap.objs.size xs ys #[] 0 q.heap := ⟨h1, h3, h4, h5, h6, .inl ⟨hz, a, b, h2⟩, rfl, Heap.lt_size h2, fun j v e => by simp at e, fun i j T e => by simp at e⟩
  refine zl_extend (base := q.heap.objs.size) (show B.in1.handled = none from hh) D O hm (aside _ _ (Ne.symm O.n1) hz) (st.off D O.n1 O.n2 O.n3 O.n4 O.n5 O.n6 O.n7 aside (by rw [sz2]; exact Nat.le_succ _)) (by show q.heap.objs.size ≤ _; rw [sz2]; exact Nat.le_succ _) p1 fun g t acc he => ⟨rfl, ?_⟩
  obtain ⟨e1, e2, e3, e4, e5⟩ := he
  exact hQ g t acc ⟨e1, e2, e3, e4, fun c o d1 d2 d3 d4 d5 e => e5 c o d1 d2 d3 d4 d5 (aside c o d5 e)⟩
end
end L3

namespace L3
open PySem PySem.Spec L2 PyProof.Rows
/-! ### new objects tracked on a heap that has them -/
theorem un_add {fs ex : List Addr} {H0 H : Hp} {h0 h : Heap} {a : Addr} {o : HO} (u : Un fs ex H0 H h0 h) (ha : h0.objs.size ≤ a) (hn : H a = none) : Un fs ex H0 (upd H a o) h0 h where
  keep := u.keep
  slot := u.slot
  free := fun b ob q n hx => by
    rw [upd_ne (Nat.ne_of_lt (Nat.lt_of_lt_of_le (Heap.lt_size q) ha))]
    exact u.free b ob q n hx
  there := u.there
  tups := fun b xs q => by rw [upd_ne (ne_of_none (u.tups b xs q) hn)]; exact u.tups b xs q
  frzs := fun b ob v q => by rw [upd_ne (ne_of_none (u.frzs b ob v q) hn)]; exact u.frzs b ob v q
  tbls := fun b ps q => by
    obtain ⟨more, e⟩ := u.tbls b ps q
    exact ⟨more, by rw [upd_ne (ne_of_none e hn)]; exact e⟩
theorem hok_add {P : Program} {w : World} {H : Hp} {h : Heap} {a : Addr} {o : HO} (x : HOk P w H h) (hn : H a = none) (new : ObjOk P w (upd H a o) h a o) : HOk P w (upd H a o) h := fun b u e => by
  by_cases hb : b = a
  · subst hb
    rw [upd_same] at e
    cases e
    exact new
  · rw [upd_ne hb] at e
    exact (x b u e).stay (fun c v _ q => q) (fun c q => by rw [upd_ne (ne_of_none q hn)]; exact q) fun c xs q => by rw [upd_ne (ne_of_none q hn)]; exact q
/-- pairs, each at its place -/
def addP (H : Hp) : List Addr → List V → List V → Hp
  | T :: Ts, u :: us, v :: vs => addP (upd H T (.tup [u, v])) Ts us vs
  | _, _, _ => H
theorem addP_old : ∀ {Ts : List Addr} {us vs : List V} {H : Hp} {a : Addr}, a ∉ Ts → addP H Ts us vs a = H a
  | [], _, _, _, _, _ => by unfold addP; rfl
  | T :: Ts, [], _, _, _, _ => by unfold addP; rfl
  | T :: Ts, u :: us, [], _, _, _ => by unfold addP; rfl
  | T :: Ts, u :: us, v :: vs, H, a, h => by
    show addP (upd H T _) Ts us vs a = H a
    rw [addP_old (fun z => h (List.mem_cons_of_mem _ z)), upd_ne (fun e => h (by rw [e]; exact List.mem_cons_self))]
theorem addP_ok {P : Program} {w : World} {fs ex : List Addr} {H0 : Hp} {h0 h : Heap} : ∀ {Ts : List Addr} {us vs : List V} {H : Hp}, Ts.Nodup → Un fs ex H0 H h0 h → HOk P w H h →
    (∀ (j : Nat) T, Ts[j]? = some T → h0.objs.size ≤ T ∧ H T = none ∧ ∃ u v x y, us[j]? = some u ∧ vs[j]? = some v ∧ RelV u x ∧ RelV v y ∧ PySem.IsPair h T x y) → Un fs ex H0 (addP H Ts us vs) h0 h ∧ HOk P w (addP H Ts us vs) h
  | [], _, _, _, _, u, k, _ => by unfold addP; exact ⟨u, k⟩
  | T :: Ts, [], _, _, _, u, k, _ => by unfold addP; exact ⟨u, k⟩
  | T :: Ts, _ :: _, [], _, _, u, k, _ => by unfold addP; exact ⟨u, k⟩
  | T :: Ts, u1 :: us, v1 :: vs, H, nd, u, k, hT => by
    obtain ⟨hb, hn, u2, v2, x, y, e1, e2, r1, r2, hp⟩ := hT 0 T rfl
    cases e1
    cases e2
    have nd2 := List.nodup_cons.mp nd
    show Un fs ex H0 (addP (upd H T (.tup [u1, v1])) Ts us vs) h0 h ∧ HOk P w (addP (upd H T (.tup [u1, v1])) Ts us vs) h
    refine addP_ok (Ts := Ts) (us := us) (vs := vs) (H := upd H T (.tup [u1, v1])) nd2.2 (un_add u hb hn) (hok_add k hn ⟨(by decide : 2 ≤ sizeLine), [x, y], .cons r1 (.cons r2 .nil), ⟨_, hp, rfl, _, rfl⟩⟩) fun j T' hj => ?_
    obtain ⟨b1, b2, b3⟩ := hT (j + 1) T' hj
    refine ⟨b1, ?_, b3⟩
    rw [upd_ne (fun e => nd2.1 (by rw [← e]; exact List.mem_of_getElem? hj))]
    exact b2
/-! ### the rule -/
def tListZip (K : PySem.W.Frag) (ta : TA) : TE := fun σ H Q => ta σ H fun rs H1 => ∃ a b us vs, rs = [.ref a, .ref b] ∧ SqL K H1 a us ∧ SqL K H1 b vs ∧
  ∀ S Ts, Ts.length = min us.length vs.length → (S :: Ts).Nodup → (∀ T ∈ S :: Ts, H1 T = none) → Q (.ref S) (upd (addP H1 Ts us vs) S (.lst (Ts.map V.ref)))
theorem refs_vals (as : List Addr) : Vals (as.map V.ref) (as.map Value.ref) := by
  induction as with
  | nil => exact .nil
  | cons a as ih => exact .cons rfl ih
theorem vals_back {xs : List V} {us : List Value} {i : Nat} {u : Value} (r : Vals xs us) (h : us[i]? = some u) : ∃ x, xs[i]? = some x ∧ RelV x u := by
  cases hx : xs[i]? with
  | none => rw [r.none_of hx] at h; cases h
  | some x =>
    obtain ⟨u', e, rr⟩ := r.get hx
    rw [h] at e
    cases e
    exact ⟨x, rfl, rr⟩
theorem acc_refs : ∀ {l : List Value}, (∀ (j : Nat) (v : Value), l[j]? = some v → ∃ T, v = .ref T) → ∃ Ts : List Addr, l = Ts.map Value.ref
  | [], _ => ⟨[], rfl⟩
  | v :: l, h => by
    obtain ⟨T, e⟩ := h 0 v rfl
    obtain ⟨Ts, e2⟩ := acc_refs (l := l) fun j u hj => h (j + 1) u hj
    exact ⟨T :: Ts, by rw [e, e2]; rfl⟩
theorem pe_listZip {X : Cx} {e e2 : Expr} {ta : TA} {p pz pp pos : Pos} (calm : X.calm = true) (hg : Gl X "list") (hm : X.mg "list" = none) (hg2 : Gl X "zip") (hm2 : X.mg "zip" = none) (ha : PA X [e, e2] ta)
    (hs : starEach [e, e2] X.env = (false, eval e X.env) :: starEach [e2] X.env := by rfl) (hpl : (backTo pp (starEach [e2] X.env)).any (·.1) = false := by rfl)
    (na : starEach [.Call (.Name "zip" pz) [e, e2] [] pp] X.env = (false, eval (.Call (.Name "zip" pz) [e, e2] [] pp) X.env) :: starEach [] X.env := by rfl) :
    PE X (.Call (.Name "list" p) [.Call (.Name "zip" pz) [e, e2] [] pp] [] pos) (tListZip X.K ta) := by
  refine ⟨fun pins s σ H Q I h => ?_⟩
  refine Call_ (ld_blt I hg hm boot_list (PyProof.Rows.callWith_type1 (args_cons (thn (Q := fun x s' => ∃ s0 H1 a b us vs xs ys z TI TO i1 i2 g, x = .ref z ∧ s' = { s0 with heap := g } ∧ Inv X pins σ H1 s0 ∧ SqL X.K H1 a us ∧ SqL X.K H1 b vs ∧ (∀ c o, s0.heap.get? c = some o → g.get? c = some o) ∧
    ZipApart z TI TO i1 i2 a b ∧ s0.heap.objs.size ≤ z ∧ s0.heap.objs.size ≤ TO ∧ s0.heap.objs.size ≤ i1 ∧ s0.heap.objs.size ≤ i2 ∧ PySem.IsZip g z TI TO .none ∧ PySem.IsPair g TI (.ref i1) (.ref i2) ∧ (∃ x y, PySem.IsPair g TO x y) ∧ g.IsListIter i1 a 0 ∧ g.IsListIter i2 b 0 ∧ g.IsList a xs ∧ g.IsList b ys ∧ Vals us xs.toList ∧ Vals vs ys.toList ∧ us.length ≤ sizeLine ∧ s0.heap.objs.size ≤ g.objs.size ∧
      ∀ S Ts, Ts.length = min us.length vs.length → (S :: Ts).Nodup → (∀ T ∈ S :: Ts, H1 T = none) → Q (.ref S) (upd (addP H1 Ts us vs) S (.lst (Ts.map V.ref)))) ?_ fun x s1 q => args_nil ?_) na) na))
  · refine Call_ (ld_blt I hg2 hm2 PyProof.Rows.boot_zip (PyProof.Rows.callWith_type1 (thn (ha.run pp pins s σ H _ I h) fun ws s0 ⟨rs, H1, I1, r1, a, b, us, vs, ex, qx, qy, q⟩ => ?_) hs hpl))
    subst ex
    cases r1 with
    | cons r rr =>
      cases rr with
      | cons r' rr =>
        cases rr
        cases r
        cases r'
        obtain ⟨ms, rm, pm, lm⟩ := I1.list qx
        obtain ⟨ns, rn, pn, ln⟩ := I1.list qy
        have la : a < s0.heap.objs.size := by obtain ⟨o, _, ho, _⟩ := pm; exact Heap.lt_size ho
        have lb : b < s0.heap.objs.size := by obtain ⟨o, _, ho, _⟩ := pn; exact Heap.lt_size ho
        refine call_zip_2 pm.isList pn.isList fun g z0 z1 z2 j1 j2 gs stay => ?_
        refine ⟨s0, H1, a, b, us, vs, ms.toArray, ns.toArray, _, _, _, _, _, g, rfl, rfl, I1, qx, qy, stay, ?_, Nat.le_add_right _ _, Nat.le_add_right _ _, Nat.le_refl _, Nat.le_add_right _ _, z0, z1, ⟨_, _, z2⟩, j1, j2, ?_, ?_, by simpa using rm, by simpa using rn, lm, by rw [gs]; exact Nat.le_add_right _ _, q⟩
        · constructor <;> (intro e; simp only [Addr] at *; omega)
        · exact pm.isList.at fun o => stay _ o
        · exact pn.isList.at fun o => stay _ o
  · obtain ⟨s0, H1, a, b, us, vs, xs, ys, z, TI, TO, i1, i2, g, rfl, rfl, I1, qx, qy, stay, D, lz, lTO, l1, l2, z0, z1, z2, j1, j2, p1, p2, r1, r2, lm, lg, q⟩ := q
    have e1 : us.length = xs.size := by have := r1.length; simpa using this
    have e2 : vs.length = ys.size := by have := r2.length; simpa using this
    refine zl_call (xs := xs) (ys := ys) (I1.ok.hd calm) D (Nat.le_trans (Nat.min_le_left _ _) (by rw [← e1]; exact lm)) z0 z1 z2 j1 j2 p1 p2 fun g2 t acc he => ?_
    obtain ⟨⟨c, hS⟩, hsz, hout, hnd, hkeep⟩ := he
    obtain ⟨Ts, hTs⟩ := acc_refs (l := acc.toList) fun j v hj => by
      obtain ⟨T, _, _, e, _⟩ := hout j v (by rw [← Array.getElem?_toList]; exact hj)
      exact ⟨T, e⟩
    have hacc : acc = (Ts.map Value.ref).toArray := by rw [← hTs]
    have hget : ∀ (j : Nat) T, Ts[j]? = some T → acc[j]? = some (Value.ref T) := fun j T hj => by rw [hacc]; simp [hj]
    have keep2 : ∀ c o, s0.heap.get? c = some o → g2.get? c = some o := fun c o e => by
      have lc := Heap.lt_size e
      exact hkeep c o (Nat.ne_of_lt (Nat.lt_of_lt_of_le lc lz)) (Nat.ne_of_lt (Nat.lt_of_lt_of_le lc lTO)) (Nat.ne_of_lt (Nat.lt_of_lt_of_le lc l1)) (Nat.ne_of_lt (Nat.lt_of_lt_of_le lc l2)) (Nat.ne_of_lt (Nat.lt_of_lt_of_le lc lg)) (stay c o e)
    have lenTs : Ts.length = min us.length vs.length := by
      have f1 : acc.size = Ts.length := by rw [hacc]; simp
      rw [← f1, hsz, e1, e2]
    have tfree : ∀ T, s0.heap.objs.size ≤ T → H1 T = none := fun T hT => I1.hok.fresh hT
    have tAt : ∀ (j : Nat) T, Ts[j]? = some T → s0.heap.objs.size ≤ T ∧ T ≠ g.objs.size ∧ ∃ x y, xs[j]? = some x ∧ ys[j]? = some y ∧ PySem.IsPair g2 T x y := fun j T hj => by
      obtain ⟨T', x, y, f1, f2, f3, f4, f5, f6⟩ := hout j _ (hget j T hj)
      cases f1
      exact ⟨Nat.le_trans lg f5, f6, x, y, f2, f3, f4⟩
    have ndTs : Ts.Nodup := by
      rw [List.nodup_iff_pairwise_ne, List.pairwise_iff_getElem]
      intro i j hi hj hij e
      have := hnd i j Ts[i] (hget i _ (List.getElem?_eq_getElem hi)) (by rw [e]; exact hget j _ (List.getElem?_eq_getElem hj))
      omega
    have nS : g.objs.size ∉ Ts := fun hmem => by
      obtain ⟨j, hj⟩ := List.getElem?_of_mem hmem
      exact (tAt j _ hj).2.1 rfl
    have ok1 := addP_ok (P := X.prog) (w := X.w) (us := us) (vs := vs) ndTs (Un.kept (fs := X.fs) (ex := []) (H := H1) keep2) (I1.hok.kept keep2) fun j T hj => by
      obtain ⟨b1, b2, x, y, f2, f3, f4⟩ := tAt j T hj
      obtain ⟨u, hu, ru⟩ := vals_back r1 (by rw [Array.getElem?_toList]; exact f2)
      obtain ⟨v, hv, rv⟩ := vals_back r2 (by rw [Array.getElem?_toList]; exact f3)
      exact ⟨b1, tfree T b1, u, v, x, y, hu, hv, ru, rv, f4⟩
    have nS2 : addP H1 Ts us vs g.objs.size = none := by rw [addP_old nS]; exact tfree _ lg
    have I2 := I1.un (t' := t) (un_add (o := .lst (Ts.map V.ref)) ok1.1 lg nS2) (hok_add ok1.2 nS2 ⟨by rw [List.length_map, lenTs]; omega, Ts.map Value.ref, c, refs_vals Ts, by rw [← hacc]; exact hS⟩)
    refine ⟨.ref g.objs.size, _, I2, rfl, q _ Ts lenTs (List.nodup_cons.mpr ⟨nS, ndTs⟩) fun T hT => ?_⟩
    rcases List.mem_cons.mp hT with rfl | hT
    · exact tfree _ lg
    · obtain ⟨j, hj⟩ := List.getElem?_of_mem hT
      exact tfree _ (tAt j _ hj).1
section
variable {X : Cx} {K : PySem.W.Frag} {ad : AD} {μ μ1 : Mem} {P : Program} {w : World} {mg : Str → Option Value} {base : Heap} {N : List Str} {sc : Scope} {k : Nat} {ρ : Env} {p q : PV} {e e2 : Expr} {pos cp pz pp : Pos}
theorem addP_rp : ∀ {Ts : List Addr} {us vs : List V} {H : Hp} {ps qs : List PV}, Mst ad K H μ → RpL ad K H ps us → RpL ad K H qs vs → Ts.length = min us.length vs.length → Ts.Nodup → (∀ T ∈ Ts, H T = none) →
    Stp ad [] H (addP H Ts us vs) ∧ Mst ad K (addP H Ts us vs) μ ∧ RpL ad K (addP H Ts us vs) (zipP ps qs) (Ts.map V.ref)
  | [], us, vs, H, ps, qs, m, r1, r2, hl, _, _ => by
    have e : addP H [] us vs = H := by unfold addP; rfl
    rw [e]
    refine ⟨Stp.refl, m, ?_⟩
    have e1 := r1.length
    have e2 := r2.length
    have hz : zipP ps qs = [] := by
      apply List.eq_nil_of_length_eq_zero
      unfold zipP
      rw [List.length_zipWith]
      simp at hl
      omega
    rw [hz]
    exact RpL.nil
  | T :: Ts, [], vs, H, ps, qs, m, r1, r2, hl, _, _ => by simp at hl
  | T :: Ts, _ :: _, [], H, ps, qs, m, r1, r2, hl, _, _ => by simp at hl
  | T :: Ts, u :: us, v :: vs, H, [], qs, m, r1, r2, hl, _, _ => by have := r1.length; simp at this
  | T :: Ts, u :: us, v :: vs, H, _ :: _, [], m, r1, r2, hl, _, _ => by have := r2.length; simp at this
  | T :: Ts, u :: us, v :: vs, H, p :: ps, q :: qs, m, r1, r2, hl, nd, hf => by
    unfold RpL at r1 r2
    obtain ⟨u', us', e1, ru, r1⟩ := r1
    cases e1
    obtain ⟨v', vs', e2, rv, r2⟩ := r2
    cases e2
    have hT := hf T List.mem_cons_self
    have nd2 := List.nodup_cons.mp nd
    have s1 : Stp ad [] H (upd H T (.tup [u, v])) := Stp.data hT
    have m1 : Mst ad K (upd H T (.tup [u, v])) μ := m.data hT
    have q1 := RpL.mono (K := K) s1 ps us r1
    have q2 := RpL.mono (K := K) s1 qs vs r2
    rw [AD.append_nil] at q1 q2
    obtain ⟨s2, m2, r3⟩ := addP_rp (Ts := Ts) m1 q1 q2 (by simp at hl; omega) nd2.2 fun T' h' => by rw [upd_ne (fun e => nd2.1 (by rw [← e]; exact h'))]; exact hf T' (List.mem_cons_of_mem _ h')
    have st : Stp ad [] H (addP (upd H T (.tup [u, v])) Ts us vs) := by
      have s2' : Stp (ad ++ ([] : List Addr)) [] (upd H T (.tup [u, v])) (addP (upd H T (.tup [u, v])) Ts us vs) := by rw [AD.append_nil]; exact s2
      have := s1.trans s2'
      simpa using this
    show Stp ad [] H (addP (upd H T (.tup [u, v])) Ts us vs) ∧ Mst ad K (addP (upd H T (.tup [u, v])) Ts us vs) μ ∧ RpL ad K (addP (upd H T (.tup [u, v])) Ts us vs) (PV.tup [p, q] :: zipP ps qs) (V.ref T :: Ts.map V.ref)
    refine ⟨st, m2, RpL.cons ?_ r3⟩
    have ru' := ru.mono st
    have rv' := rv.mono st
    rw [AD.append_nil] at ru' rv'
    unfold Rp
    refine ⟨T, [u, v], rfl, .inl ⟨?_, m.notIn hT⟩, RpL.cons ru' (RpL.cons rv' RpL.nil)⟩
    rw [addP_old nd2.1, upd_same]
theorem DE.listZip {xs ys : List PV} (cx : CxD X P w K mg base N sc k) (hx : sc.names.lookup ("list" : Str) = some .globalImplicit) (hm : mg "list" = none) (hx2 : sc.names.lookup ("zip" : Str) = some .globalImplicit) (hm2 : mg "zip" = none)
    (h : DA X [e, e2] ρ μ [p, q] μ1) (h1 : asL μ1 p = some xs) (h2 : asL μ1 q = some ys)
    (hs : starEach [e, e2] X.env = (false, eval e X.env) :: starEach [e2] X.env := by rfl) (hpl : (backTo pp (starEach [e2] X.env)).any (·.1) = false := by rfl)
    (na : starEach [.Call (.Name "zip" pz) [e, e2] [] pp] X.env = (false, eval (.Call (.Name "zip" pz) [e, e2] [] pp) X.env) :: starEach [] X.env := by rfl) :
    DE X (.Call (.Name "list" cp) [.Call (.Name "zip" pz) [e, e2] [] pp] [] pos) ρ μ (.lst (zipP xs ys)) μ1 := fun ad σ H Q R f => by
  refine wE.of (pe_listZip cx.calm (cx.gl _ hx) (by rw [cx.emg]; exact hm) (cx.gl _ hx2) (by rw [cx.emg]; exact hm2) (pa_w [e, e2]) hs hpl na) (h ad σ H _ R fun ad1 vs H1 s1 m1 r1 => ?_)
  unfold RpL at r1
  obtain ⟨v1, r', e1, rp, r1⟩ := r1
  unfold RpL at r1
  obtain ⟨v2, r'', e2', rq, r1⟩ := r1
  unfold RpL at r1
  subst r1
  subst e2'
  obtain ⟨l1, ws1, f1, q1, t1⟩ := rp.asL_inv h1 m1
  obtain ⟨l2, ws2, f2, q2, t2⟩ := rq.asL_inv h2 m1
  refine ⟨l1, l2, ws1, ws2, by rw [e1, f1, f2], q1, q2, fun S Ts hl nd hf => ?_⟩
  have nd2 := List.nodup_cons.mp nd
  obtain ⟨s2, m2, r2⟩ := addP_rp m1 t1 t2 hl nd2.2 fun T hT => hf T (List.mem_cons_of_mem _ hT)
  have g := Fin1.step s2 (Fin1.step s1 f)
  rw [AD.append_nil] at g
  exact g.lst m2 (by rw [addP_old nd2.1]; exact hf S List.mem_cons_self) r2
theorem ca_sorted {ns ms : List Int} (h : asL μ p = some (ns.map PV.int)) (hp : ms.Perm ns) (hs : ms.Pairwise (· ≤ ·)) : CallA X (.builtin "sorted") [p] μ (.lst (ms.map PV.int)) :=
  ⟨_, cr_sortedI, fun ad H vs Q m r f => by
    obtain ⟨v, e, rv⟩ := r.inv1
    obtain ⟨l, ws, e1, h1, r1⟩ := rv.asL_inv h m
    rw [e, e1]
    rw [r1.ints'] at h1
    refine ⟨l, ns, rfl, h1, fun ns' b pm so hb => ?_⟩
    have eq : ns' = ms := List.Perm.eq_of_pairwise (fun a b _ _ h1 h2 => Int.le_antisymm h1 h2) so hs (pm.trans hp.symm)
    subst eq
    exact f.lst m hb RpL.of_ints⟩
end
end L3

namespace L3
open PySem PySem.Spec L2 PyProof.Rows
/-! ### sums over stretches of whole numbers -/
def sumI (lo : Int) : Nat → (Int → Int) → Int
  | 0, _ => 0
  | n + 1, g => sumI lo n g + g (lo + ((n : Nat) : Int))
/-- from lo to hi, both taken in -/
def sumS (lo hi : Int) (g : Int → Int) : Int := sumI lo (hi + 1 - lo).toNat g
theorem sumI_add (lo : Int) (n : Nat) (g : Int → Int) : ∀ m : Nat, sumI lo (n + m) g = sumI lo n g + sumI (lo + ((n : Nat) : Int)) m g
  | 0 => by show sumI lo n g = sumI lo n g + 0; omega
  | m + 1 => by
    show sumI lo (n + m) g + g (lo + ((n + m : Nat) : Int)) = sumI lo n g + (sumI (lo + ((n : Nat) : Int)) m g + g (lo + ((n : Nat) : Int) + ((m : Nat) : Int)))
    rw [sumI_add lo n g m, show lo + ((n + m : Nat) : Int) = lo + ((n : Nat) : Int) + ((m : Nat) : Int) by omega]
    omega
theorem sumI_congr {lo : Int} {g g' : Int → Int} : ∀ {n : Nat}, (∀ i : Nat, i < n → g (lo + ((i : Nat) : Int)) = g' (lo + ((i : Nat) : Int))) → sumI lo n g = sumI lo n g'
  | 0, _ => rfl
  | n + 1, h => by
    show sumI lo n g + g _ = sumI lo n g' + g' _
    rw [sumI_congr fun i hi => h i (by omega), h n (by omega)]
theorem sumI_zero {lo : Int} {g : Int → Int} {n : Nat} (h : ∀ i : Nat, i < n → g (lo + ((i : Nat) : Int)) = 0) : sumI lo n g = 0 := by
  rw [sumI_congr (g' := fun _ => 0) h]
  clear h
  induction n with
  | zero => rfl
  | succ n ih => show sumI lo n _ + 0 = 0; omega
theorem sumS_congr {lo hi : Int} {g g' : Int → Int} (h : ∀ x, lo ≤ x → x ≤ hi → g x = g' x) : sumS lo hi g = sumS lo hi g' := sumI_congr fun i hi' => h _ (by omega) (by omega)
theorem sumS_zero {lo hi : Int} {g : Int → Int} (h : ∀ x, lo ≤ x → x ≤ hi → g x = 0) : sumS lo hi g = 0 := sumI_zero fun i hi' => h _ (by omega) (by omega)
theorem sumS_none {lo hi : Int} {g : Int → Int} (h : hi < lo) : sumS lo hi g = 0 := by
  unfold sumS
  rw [show (hi + 1 - lo).toNat = 0 by omega]
  rfl
theorem sumS_one {a : Int} {g : Int → Int} : sumS a a g = g a := by
  unfold sumS
  rw [show (a + 1 - a).toNat = 1 by omega]
  show 0 + g (a + ((0 : Nat) : Int)) = g a
  rw [show a + ((0 : Nat) : Int) = a by omega]
  omega
theorem sumS_split {lo c hi : Int} {g : Int → Int} (h1 : lo ≤ c) (h2 : c ≤ hi + 1) : sumS lo hi g = sumS lo (c - 1) g + sumS c hi g := by
  unfold sumS
  have := sumI_add lo (c - 1 + 1 - lo).toNat g (hi + 1 - c).toNat
  rw [show (c - 1 + 1 - lo).toNat + (hi + 1 - c).toNat = (hi + 1 - lo).toNat by omega, show lo + (((c - 1 + 1 - lo).toNat : Nat) : Int) = c by omega] at this
  exact this
theorem sumS_up {lo hi : Int} {g : Int → Int} (h : lo ≤ hi + 1) : sumS lo (hi + 1) g = sumS lo hi g + g (hi + 1) := by
  rw [sumS_split (c := hi + 1) h (by omega), sumS_one, show hi + 1 - 1 = hi by omega]
/-- only those in a stretch count -/
theorem sumS_in {lo hi l m : Int} {g : Int → Int} : sumS lo hi (fun x => if l ≤ x ∧ x ≤ m then g x else 0) = sumS (max lo l) (min hi m) g := by
  by_cases e : max lo l ≤ min hi m
  · rw [sumS_split (c := max lo l) (by omega) (by omega), sumS_zero (hi := max lo l - 1) fun x h1 h2 => if_neg (by omega), sumS_split (c := min hi m + 1) (by omega) (by omega), sumS_zero (lo := min hi m + 1) fun x h1 h2 => if_neg (by omega)]
    rw [show min hi m + 1 - 1 = min hi m by omega]
    rw [sumS_congr (g' := g) fun x h1 h2 => if_pos (by omega)]
    omega
  · rw [sumS_none (lo := max lo l) (by omega)]
    exact sumS_zero fun x h1 h2 => if_neg (by omega)
/-! ### a worth of the third degree, by differences -/
def Df (f : Int → Int) : Nat → Int → Int
  | 0, x => f x
  | i + 1, x => Df f i (x + 1) - Df f i x
def wyF (m : Int) : Nat → Int
  | 0 => m
  | i + 1 => wyF m i * (m - ((i : Nat) : Int) - 1) / (((i : Nat) : Int) + 2)
def foF (f : Int → Int) (a m : Int) : Nat → Int
  | 0 => 0
  | i + 1 => foF f a m i + wyF m i * Df f i a
/-- of the third degree at a -/
def Cub (f : Int → Int) (a : Int) : Prop := ∀ i : Int, 6 * f (a + i) = 6 * Df f 0 a + 6 * i * Df f 1 a + 3 * i * (i - 1) * Df f 2 a + i * (i - 1) * (i - 2) * Df f 3 a
theorem wy1 (m : Nat) : 2 * wyF m 1 = ((m : Nat) : Int) * (((m : Nat) : Int) - 1) := by
  show 2 * (((m : Nat) : Int) * (((m : Nat) : Int) - ((0 : Nat) : Int) - 1) / (((0 : Nat) : Int) + 2)) = _
  rw [show ((0 : Nat) : Int) + 2 = 2 from rfl, show ((m : Nat) : Int) - ((0 : Nat) : Int) - 1 = ((m : Nat) : Int) - 1 by omega]
  have : ((m : Nat) : Int) * (((m : Nat) : Int) - 1) % 2 = 0 := by
    have h : ((m : Nat) : Int) % 2 = 0 ∨ ((m : Nat) : Int) % 2 = 1 := by omega
    rcases h with h | h <;> rw [Int.mul_emod, Int.sub_emod, h] <;> rfl
  omega
theorem wy2 (m : Nat) : 6 * wyF m 2 = ((m : Nat) : Int) * (((m : Nat) : Int) - 1) * (((m : Nat) : Int) - 2) := by
  have h1 := wy1 m
  show 6 * (wyF m 1 * (((m : Nat) : Int) - ((1 : Nat) : Int) - 1) / (((1 : Nat) : Int) + 2)) = _
  rw [show ((1 : Nat) : Int) + 2 = 3 from rfl, show ((m : Nat) : Int) - ((1 : Nat) : Int) - 1 = ((m : Nat) : Int) - 2 by omega]
  have e : 2 * (wyF m 1 * (((m : Nat) : Int) - 2)) = ((m : Nat) : Int) * (((m : Nat) : Int) - 1) * (((m : Nat) : Int) - 2) := by rw [← Int.mul_assoc, h1]
  have : (((m : Nat) : Int) * (((m : Nat) : Int) - 1) * (((m : Nat) : Int) - 2)) % 3 = 0 := by
    have h : ((m : Nat) : Int) % 3 = 0 ∨ ((m : Nat) : Int) % 3 = 1 ∨ ((m : Nat) : Int) % 3 = 2 := by omega
    rcases h with h | h | h <;> rw [Int.mul_emod, Int.mul_emod ((m : Nat) : Int), Int.sub_emod, Int.sub_emod ((m : Nat) : Int) 2, h] <;> rfl
  generalize wyF m 1 * (((m : Nat) : Int) - 2) = u at *
  omega
theorem wy3 (m : Nat) : 24 * wyF m 3 = ((m : Nat) : Int) * (((m : Nat) : Int) - 1) * (((m : Nat) : Int) - 2) * (((m : Nat) : Int) - 3) := by
  have h1 := wy2 m
  show 24 * (wyF m 2 * (((m : Nat) : Int) - ((2 : Nat) : Int) - 1) / (((2 : Nat) : Int) + 2)) = _
  rw [show ((2 : Nat) : Int) + 2 = 4 from rfl, show ((m : Nat) : Int) - ((2 : Nat) : Int) - 1 = ((m : Nat) : Int) - 3 by omega]
  have e : 6 * (wyF m 2 * (((m : Nat) : Int) - 3)) = ((m : Nat) : Int) * (((m : Nat) : Int) - 1) * (((m : Nat) : Int) - 2) * (((m : Nat) : Int) - 3) := by rw [← Int.mul_assoc, h1]
  have : (((m : Nat) : Int) * (((m : Nat) : Int) - 1) * (((m : Nat) : Int) - 2) * (((m : Nat) : Int) - 3)) % 8 = 0 := by
    have h : ((m : Nat) : Int) % 8 = 0 ∨ ((m : Nat) : Int) % 8 = 1 ∨ ((m : Nat) : Int) % 8 = 2 ∨ ((m : Nat) : Int) % 8 = 3 ∨ ((m : Nat) : Int) % 8 = 4 ∨ ((m : Nat) : Int) % 8 = 5 ∨ ((m : Nat) : Int) % 8 = 6 ∨ ((m : Nat) : Int) % 8 = 7 := by omega
    rcases h with h | h | h | h | h | h | h | h <;> rw [Int.mul_emod, Int.mul_emod (((m : Nat) : Int) * (((m : Nat) : Int) - 1)), Int.mul_emod ((m : Nat) : Int), Int.sub_emod, Int.sub_emod ((m : Nat) : Int) 2, Int.sub_emod ((m : Nat) : Int) 3, h] <;> rfl
  generalize wyF m 2 * (((m : Nat) : Int) - 3) = u at *
  omega
theorem fo4 (f : Int → Int) (a : Int) (m : Nat) : 24 * foF f a m 4 = 24 * ((m : Nat) : Int) * Df f 0 a + 12 * (((m : Nat) : Int) * (((m : Nat) : Int) - 1)) * Df f 1 a + 4 * (((m : Nat) : Int) * (((m : Nat) : Int) - 1) * (((m : Nat) : Int) - 2)) * Df f 2 a + (((m : Nat) : Int) * (((m : Nat) : Int) - 1) * (((m : Nat) : Int) - 2) * (((m : Nat) : Int) - 3)) * Df f 3 a := by
  have h1 := wy1 m
  have h2 := wy2 m
  have h3 := wy3 m
  show 24 * (0 + wyF m 0 * Df f 0 a + wyF m 1 * Df f 1 a + wyF m 2 * Df f 2 a + wyF m 3 * Df f 3 a) = _
  show 24 * (0 + ((m : Nat) : Int) * Df f 0 a + wyF m 1 * Df f 1 a + wyF m 2 * Df f 2 a + wyF m 3 * Df f 3 a) = _
  rw [← h3, ← h2, ← h1]
  grind
theorem fo_sum {f : Int → Int} {a : Int} (hc : Cub f a) : ∀ m : Nat, foF f a m 4 = sumI a m f := by
  have key : ∀ m : Nat, 24 * sumI a m f = 24 * ((m : Nat) : Int) * Df f 0 a + 12 * (((m : Nat) : Int) * (((m : Nat) : Int) - 1)) * Df f 1 a + 4 * (((m : Nat) : Int) * (((m : Nat) : Int) - 1) * (((m : Nat) : Int) - 2)) * Df f 2 a + (((m : Nat) : Int) * (((m : Nat) : Int) - 1) * (((m : Nat) : Int) - 2) * (((m : Nat) : Int) - 3)) * Df f 3 a := by
    intro m
    induction m with
    | zero => show 24 * (0 : Int) = _; simp
    | succ m ih =>
      have h := hc ((m : Nat) : Int)
      show 24 * (sumI a m f + f (a + ((m : Nat) : Int))) = _
      rw [Int.mul_add, ih, show 24 * f (a + ((m : Nat) : Int)) = 4 * (6 * f (a + ((m : Nat) : Int))) by omega, h, show ((m + 1 : Nat) : Int) = ((m : Nat) : Int) + 1 by omega]
      generalize ((m : Nat) : Int) = x
      generalize Df f 0 a = d0
      generalize Df f 1 a = d1
      generalize Df f 2 a = d2
      generalize Df f 3 a = d3
      grind
  intro m
  have e1 := fo4 f a m
  have e2 := key m
  omega
/-- polynomials of the third degree -/
theorem cub_poly {f : Int → Int} {c0 c1 c2 c3 : Int} (hf : ∀ x, 6 * f x = c0 + c1 * x + c2 * (x * x) + c3 * (x * x * x)) (a : Int) : Cub f a := by
  intro i
  have e0 := hf a
  have e1 := hf (a + 1)
  have e2 := hf (a + 1 + 1)
  have e3 := hf (a + 1 + 1 + 1)
  have ei := hf (a + i)
  show 6 * f (a + i) = 6 * f a + 6 * i * (f (a + 1) - f a) + 3 * i * (i - 1) * (f (a + 1 + 1) - f (a + 1) - (f (a + 1) - f a)) + i * (i - 1) * (i - 2) * (f (a + 1 + 1 + 1) - f (a + 1 + 1) - (f (a + 1 + 1) - f (a + 1)) - (f (a + 1 + 1) - f (a + 1) - (f (a + 1) - f a)))
  generalize f a = v0 at *
  generalize f (a + 1) = v1 at *
  generalize f (a + 1 + 1) = v2 at *
  generalize f (a + 1 + 1 + 1) = v3 at *
  rw [ei]
  clear ei hf
  have key : 6 * (6 * v0 + 6 * i * (v1 - v0) + 3 * i * (i - 1) * (v2 - v1 - (v1 - v0)) + i * (i - 1) * (i - 2) * (v3 - v2 - (v2 - v1) - (v2 - v1 - (v1 - v0)))) =
      6 * (6 * v0) + 6 * i * (6 * v1 - 6 * v0) + 3 * i * (i - 1) * (6 * v2 - 6 * v1 - (6 * v1 - 6 * v0)) + i * (i - 1) * (i - 2) * (6 * v3 - 6 * v2 - (6 * v2 - 6 * v1) - (6 * v2 - 6 * v1 - (6 * v1 - 6 * v0))) := by
    clear e0 e1 e2 e3
    grind
  generalize 6 * v0 + 6 * i * (v1 - v0) + 3 * i * (i - 1) * (v2 - v1 - (v1 - v0)) + i * (i - 1) * (i - 2) * (v3 - v2 - (v2 - v1) - (v2 - v1 - (v1 - v0))) = LL at key ⊢
  rw [e0, e1, e2, e3] at key
  clear e0 e1 e2 e3
  have fin : 6 * (c0 + c1 * (a + i) + c2 * ((a + i) * (a + i)) + c3 * ((a + i) * (a + i) * (a + i))) = 6 * LL := by
    rw [key]
    clear key
    grind
  omega
end L3

namespace L3
open PySem PySem.Spec L2 PyProof.Rows
/-! ### the numbers of a box, by sides and rings -/
def inB (b : Bx) (p : Int × Int) : Prop := b.1 ≤ p.1 ∧ p.1 ≤ b.2.2.1 ∧ b.2.1 ≤ p.2 ∧ p.2 ≤ b.2.2.2
instance (b : Bx) (p : Int × Int) : Decidable (inB b p) := by unfold inB; exact inferInstance
def BxOk (b : Bx) : Prop := b.1 ≤ b.2.2.1 ∧ b.2.1 ≤ b.2.2.2
/-- the least and the greatest by a heading -/
def rch (b : Bx) (g : Fin 4) : Int × Int :=
  if g = 0 then (b.1, b.2.2.1) else if g = 1 then (b.2.1, b.2.2.2) else if g = 2 then (0 - b.2.2.1, 0 - b.1) else (0 - b.2.2.2, 0 - b.2.1)
theorem hdR_adj (h : Fin 4) (t : Bool) (k : Int) : hdR h t (k + 1) = (if t = true then hdR h t k + 3 else hdR h t k + 1) := by
  have hr : k % 4 = 0 ∨ k % 4 = 1 ∨ k % 4 = 2 ∨ k % 4 = 3 := by omega
  rw [hdR_4 h t k, hdR_4 h t (k + 1), show (k + 1) % 4 = (k % 4 + 1) % 4 by omega]
  rcases hr with e | e | e | e <;> rw [e] <;> clear e <;> revert h t <;> decide
theorem inB_side {b : Bx} {g g' : Fin 4} {d a : Int} (ad : g' = g + 1 ∨ g' = g + 3) : inB b ((stpW g).1 * d + (stpW g').1 * a, (stpW g).2 * d + (stpW g').2 * a) ↔ ((rch b g).1 ≤ d ∧ d ≤ (rch b g).2) ∧ (rch b g').1 ≤ a ∧ a ≤ (rch b g').2 := by
  have s0 : stpW 0 = (1, 0) := by decide
  have s1 : stpW 1 = (0, 1) := by decide
  have s2 : stpW 2 = (-1, 0) := by decide
  have s3 : stpW 3 = (0, -1) := by decide
  have r0 : rch b 0 = (b.1, b.2.2.1) := rfl
  have r1 : rch b 1 = (b.2.1, b.2.2.2) := rfl
  have r2 : rch b 2 = (0 - b.2.2.1, 0 - b.1) := rfl
  have r3 : rch b 3 = (0 - b.2.2.2, 0 - b.2.1) := rfl
  unfold inB
  rcases ad with rfl | rfl <;> rcases hf4 g with rfl | rfl | rfl | rfl
  · rw [show (0 : Fin 4) + 1 = 1 by decide, s0, s1, r0, r1]; dsimp only; omega
  · rw [show (1 : Fin 4) + 1 = 2 by decide, s1, s2, r1, r2]; dsimp only; omega
  · rw [show (2 : Fin 4) + 1 = 3 by decide, s2, s3, r2, r3]; dsimp only; omega
  · rw [show (3 : Fin 4) + 1 = 0 by decide, s3, s0, r3, r0]; dsimp only; omega
  · rw [show (0 : Fin 4) + 3 = 3 by decide, s0, s3, r0, r3]; dsimp only; omega
  · rw [show (1 : Fin 4) + 3 = 0 by decide, s1, s0, r1, r0]; dsimp only; omega
  · rw [show (2 : Fin 4) + 3 = 1 by decide, s2, s1, r2, r1]; dsimp only; omega
  · rw [show (3 : Fin 4) + 3 = 2 by decide, s3, s2, r3, r2]; dsimp only; omega
theorem side_in {h : Fin 4} {t : Bool} {b : Bx} {k : Nat} {d a : Int} (k4 : k < 4) (d1 : 1 ≤ d) (a0 : -d < a) (a1 : a ≤ d) :
    inB b (plN h t (moreF k d + a)) ↔ ((rch b (hdR h t k)).1 ≤ d ∧ d ≤ (rch b (hdR h t k)).2) ∧ (rch b (hdR h t (((k : Nat) : Int) + 1))).1 ≤ a ∧ a ≤ (rch b (hdR h t (((k : Nat) : Int) + 1))).2 := by
  rw [side_pl k4 d1 a0 a1]
  refine inB_side ?_
  rw [hdR_adj]
  cases t
  · exact .inl rfl
  · exact .inr rfl
theorem sumI_shift (lo c : Int) (g : Int → Int) : ∀ n : Nat, sumI lo n (fun a => g (c + a)) = sumI (c + lo) n g
  | 0 => rfl
  | n + 1 => by
    show sumI lo n _ + g (c + (lo + ((n : Nat) : Int))) = sumI (c + lo) n g + g (c + lo + ((n : Nat) : Int))
    rw [sumI_shift lo c g n, Int.add_assoc]
/-- all numbers of a side so far out -/
def sdS (g : Int → Int) (k : Nat) (d : Int) : Int := sumS (1 - d) d (fun a => g (moreF k d + a))
theorem ring_sum (g : Int → Int) (D : Nat) : sumI ((2 * ((D : Nat) : Int) + 1) * (2 * ((D : Nat) : Int) + 1)) (8 * (D + 1)) g = sdS g 0 (((D : Nat) : Int) + 1) + sdS g 1 (((D : Nat) : Int) + 1) + sdS g 2 (((D : Nat) : Int) + 1) + sdS g 3 (((D : Nat) : Int) + 1) := by
  have e : ∀ k : Nat, sdS g k (((D : Nat) : Int) + 1) = sumI ((2 * ((D : Nat) : Int) + 1) * (2 * ((D : Nat) : Int) + 1) + 2 * ((k : Nat) : Int) * (((D : Nat) : Int) + 1)) (2 * (D + 1)) g := fun k => by
    unfold sdS sumS
    rw [sumI_shift, more_sq, show 2 * (((D : Nat) : Int) + 1) - 1 = 2 * ((D : Nat) : Int) + 1 by omega, show (((D : Nat) : Int) + 1 + 1 - (1 - (((D : Nat) : Int) + 1))).toNat = 2 * (D + 1) by omega, Int.add_mul (2 * ((k : Nat) : Int)), Int.one_mul]
    congr 1
    omega
  rw [e 0, e 1, e 2, e 3, show 8 * (D + 1) = 2 * (D + 1) + (2 * (D + 1) + (2 * (D + 1) + 2 * (D + 1))) by omega, sumI_add, sumI_add, sumI_add]
  rw [show 2 * ((0 : Nat) : Int) * (((D : Nat) : Int) + 1) = 0 by simp, show 2 * ((1 : Nat) : Int) * (((D : Nat) : Int) + 1) = ((2 * (D + 1) : Nat) : Int) by simp <;> omega, show 2 * ((2 : Nat) : Int) * (((D : Nat) : Int) + 1) = ((2 * (D + 1) : Nat) : Int) + ((2 * (D + 1) : Nat) : Int) by simp <;> omega,
    show 2 * ((3 : Nat) : Int) * (((D : Nat) : Int) + 1) = ((2 * (D + 1) : Nat) : Int) + ((2 * (D + 1) : Nat) : Int) + ((2 * (D + 1) : Nat) : Int) by simp <;> omega, Int.add_zero]
  simp only [← Int.add_assoc]
def sqN (D : Nat) : Nat := (2 * D + 1) * (2 * D + 1)
theorem sqN_up (D : Nat) : sqN (D + 1) = sqN D + 8 * (D + 1) := by
  unfold sqN
  rw [show 2 * (D + 1) + 1 = 2 * D + 1 + 2 by omega, Nat.add_mul, Nat.mul_add]
  omega
theorem sqN_int (D : Nat) : ((sqN D : Nat) : Int) = (2 * ((D : Nat) : Int) + 1) * (2 * ((D : Nat) : Int) + 1) := by
  unfold sqN
  simp
theorem plane_sum (g : Int → Int) : ∀ D : Nat, sumI 0 (sqN D) g = g 0 + (sumS 1 D (sdS g 0) + sumS 1 D (sdS g 1) + sumS 1 D (sdS g 2) + sumS 1 D (sdS g 3))
  | 0 => by
    show 0 + g (0 + ((0 : Nat) : Int)) = _
    rw [sumS_none (by decide), sumS_none (by decide), sumS_none (by decide), sumS_none (by decide), show (0 : Int) + ((0 : Nat) : Int) = 0 by decide]
    omega
  | D + 1 => by
    have u : ∀ k, sumS 1 ((D + 1 : Nat) : Int) (sdS g k) = sumS 1 D (sdS g k) + sdS g k (((D : Nat) : Int) + 1) := fun k => by
      rw [show ((D + 1 : Nat) : Int) = ((D : Nat) : Int) + 1 by omega]
      exact sumS_up (by omega)
    rw [sqN_up, sumI_add, plane_sum g D, u, u, u, u, sqN_int, Int.zero_add, ring_sum]
    omega
/-- the places of a box on a side so far out -/
def boxG (f : Int → Int) (k : Nat) (l m d : Int) : Int := sumS (max l (1 - d)) (min m d) (fun a => f (moreF k d + a))
theorem side_sum {h : Fin 4} {t : Bool} {b : Bx} {k : Nat} {f : Int → Int} {D : Nat} {near : Int} (k4 : k < 4) (hD : (rch b (hdR h t k)).2 ≤ D)
    (hn : near = max (max (max 1 (rch b (hdR h t k)).1) (rch b (hdR h t (((k : Nat) : Int) + 1))).1) (1 - (rch b (hdR h t (((k : Nat) : Int) + 1))).2)) :
    sumS 1 D (sdS (fun n => if inB b (plN h t n) then f n else 0) k) = sumS near (rch b (hdR h t k)).2 (boxG f k (rch b (hdR h t (((k : Nat) : Int) + 1))).1 (rch b (hdR h t (((k : Nat) : Int) + 1))).2) := by
  have e : ∀ d : Int, 1 ≤ d → d ≤ D → sdS (fun n => if inB b (plN h t n) then f n else 0) k d = if (rch b (hdR h t k)).1 ≤ d ∧ d ≤ (rch b (hdR h t k)).2 then boxG f k (rch b (hdR h t (((k : Nat) : Int) + 1))).1 (rch b (hdR h t (((k : Nat) : Int) + 1))).2 d else 0 := by
    intro d d1 d2
    unfold sdS
    by_cases c : (rch b (hdR h t k)).1 ≤ d ∧ d ≤ (rch b (hdR h t k)).2
    · rw [if_pos c]
      have := sumS_in (lo := 1 - d) (hi := d) (l := (rch b (hdR h t (((k : Nat) : Int) + 1))).1) (m := (rch b (hdR h t (((k : Nat) : Int) + 1))).2) (g := fun a => f (moreF k d + a))
      unfold boxG
      rw [show max (rch b (hdR h t (((k : Nat) : Int) + 1))).1 (1 - d) = max (1 - d) (rch b (hdR h t (((k : Nat) : Int) + 1))).1 by omega, show min (rch b (hdR h t (((k : Nat) : Int) + 1))).2 d = min d (rch b (hdR h t (((k : Nat) : Int) + 1))).2 by omega, ← this]
      refine sumS_congr fun a a0 a1 => ?_
      have q := side_in (h := h) (t := t) (b := b) k4 d1 (show -d < a by omega) a1
      by_cases z : (rch b (hdR h t (((k : Nat) : Int) + 1))).1 ≤ a ∧ a ≤ (rch b (hdR h t (((k : Nat) : Int) + 1))).2
      · rw [if_pos z]
        exact if_pos (q.mpr ⟨c, z⟩)
      · rw [if_neg z]
        exact if_neg (fun y => z (q.mp y).2)
    · rw [if_neg c]
      refine sumS_zero fun a a0 a1 => ?_
      have q := side_in (h := h) (t := t) (b := b) k4 d1 (show -d < a by omega) a1
      exact if_neg (fun y => c (q.mp y).1)
  rw [sumS_congr fun d d1 d2 => e d d1 d2, sumS_in]
  generalize (rch b (hdR h t k)).1 = lo at *
  generalize (rch b (hdR h t k)).2 = hi at *
  generalize (rch b (hdR h t (((k : Nat) : Int) + 1))).1 = l at *
  generalize (rch b (hdR h t (((k : Nat) : Int) + 1))).2 = m at *
  rw [show min ((D : Nat) : Int) hi = hi by omega]
  by_cases c : near ≤ hi + 1
  · rw [sumS_split (lo := max 1 lo) (c := near) (by omega) c, sumS_zero (hi := near - 1) fun d d1 d2 => ?_]
    · omega
    · unfold boxG
      exact sumS_none (by omega)
  · rw [sumS_none (lo := near) (by omega)]
    refine sumS_zero fun d d1 d2 => ?_
    unfold boxG
    exact sumS_none (by omega)
/-- how far out a box begins, on a side -/
def nearF (h : Fin 4) (t : Bool) (b : Bx) (k : Nat) : Int := max (max (max 1 (rch b (hdR h t k)).1) (rch b (hdR h t (((k : Nat) : Int) + 1))).1) (1 - (rch b (hdR h t (((k : Nat) : Int) + 1))).2)
/-- a side's worth -/
def sideV (f : Int → Int) (h : Fin 4) (t : Bool) (b : Bx) (k : Nat) : Int := sumS (nearF h t b k) (rch b (hdR h t k)).2 (boxG f k (rch b (hdR h t (((k : Nat) : Int) + 1))).1 (rch b (hdR h t (((k : Nat) : Int) + 1))).2)
def boxW (f : Int → Int) (h : Fin 4) (t : Bool) (b : Bx) : Int := (if inB b (0, 0) then f 0 else 0) + (sideV f h t b 0 + sideV f h t b 1 + sideV f h t b 2 + sideV f h t b 3)
theorem box_dec {h : Fin 4} {t : Bool} {b : Bx} {f : Int → Int} {D : Nat} (h1 : -((D : Nat) : Int) ≤ b.1) (h2 : b.2.2.1 ≤ D) (h3 : -((D : Nat) : Int) ≤ b.2.1) (h4 : b.2.2.2 ≤ D) :
    sumI 0 (sqN D) (fun n => if inB b (plN h t n) then f n else 0) = boxW f h t b := by
  have hD : ∀ k, (rch b (hdR h t k)).2 ≤ D := fun k => by
    generalize hdR h t k = g
    unfold rch
    rcases hf4 g with rfl | rfl | rfl | rfl
    · exact h2
    · exact h4
    · show 0 - b.1 ≤ _; omega
    · show 0 - b.2.1 ≤ _; omega
  rw [plane_sum, side_sum (near := nearF h t b 0) (by decide) (hD _) rfl, side_sum (near := nearF h t b 1) (by decide) (hD _) rfl, side_sum (near := nearF h t b 2) (by decide) (hD _) rfl, side_sum (near := nearF h t b 3) (by decide) (hD _) rfl, plN_zero]
  rfl
/-- what more rings tell is nought -/
theorem box_far {h : Fin 4} {t : Bool} {b : Bx} {f : Int → Int} {D : Nat} (h1 : -((D : Nat) : Int) ≤ b.1) (h2 : b.2.2.1 ≤ D) (h3 : -((D : Nat) : Int) ≤ b.2.1) (h4 : b.2.2.2 ≤ D) {N : Nat} (hN : sqN D ≤ N) :
    sumI 0 N (fun n => if inB b (plN h t n) then f n else 0) = boxW f h t b := by
  have up : ∀ E : Nat, D ≤ E → sumI 0 (sqN E) (fun n => if inB b (plN h t n) then f n else 0) = boxW f h t b := fun E hE => box_dec (by omega) (by omega) (by omega) (by omega)
  have key : ∀ i : Nat, inB b (plN h t ((i : Nat) : Int)) → i < sqN D := fun i hi => by
    by_cases c : i < sqN D
    · exact c
    · exfalso
      have e : nuW h t (plN h t ((i : Nat) : Int)) = i := plN_nu (by omega)
      have := nu_lt (h := h) (t := t) (p := plN h t ((i : Nat) : Int)) (R := D) (by
        obtain ⟨q1, q2, q3, q4⟩ := hi
        unfold ringF
        omega)
      rw [e] at this
      have e2 := sqN_int D
      omega
  obtain ⟨r, rfl⟩ : ∃ r, N = sqN D + r := ⟨N - sqN D, by omega⟩
  rw [sumI_add, up D (Nat.le_refl _), sumI_zero (lo := 0 + ((sqN D : Nat) : Int)) fun i hi => ?_]
  · omega
  · refine if_neg fun z => ?_
    have := key (sqN D + i) (by rw [show ((sqN D + i : Nat) : Int) = 0 + ((sqN D : Nat) : Int) + ((i : Nat) : Int) by omega]; exact z)
    omega
end L3

namespace L3
open PySem PySem.Spec L2 PyProof.Rows
/-! ### pieces of a side, each by one rule -/
def cutL (near far l m : Int) : List Int := [1 - l, m + 1].filter fun c => decide (near < c) && decide (c ≤ far)
def srt2 : List Int → List Int
  | [a, b] => [min a b, max a b]
  | xs => xs
def pcs (near far l m : Int) : List (Int × Int) := (near :: srt2 (cutL near far l m)).zip ((srt2 (cutL near far l m)).map (fun c => c - 1) ++ [far])
def wLow (l : Int) (tu : Bool) (d : Int) : Int := if tu = true then 1 - d else l
def wHigh (m : Int) (bo : Bool) (d : Int) : Int := if bo = true then m else d
def wAt (st : Option Int) (k : Nat) (l m : Int) (tu bo : Bool) (d : Int) : Int := match st with
  | none => wHigh m bo d - wLow l tu d + 1
  | some s => (wHigh m bo d - wLow l tu d + 1) * (s + moreF k d) + (wLow l tu d + wHigh m bo d) * (wHigh m bo d - wLow l tu d + 1) / 2
/-- by the rule of a stretch's first distance -/
def wSt (st : Option Int) (k : Nat) (l m bg d : Int) : Int := wAt st k l m (decide (1 - bg > l)) (decide (bg > m)) d
def pieceV (st : Option Int) (k : Nat) (l m : Int) (p : Int × Int) : Int := sumI p.1 (p.2 - p.1 + 1).toNat (wSt st k l m p.1)
theorem piece_S {st : Option Int} {k : Nat} {l m b e : Int} (h1 : ∀ d, b ≤ d → d ≤ e → (1 - b > l ↔ 1 - d > l) ∧ (b > m ↔ d > m)) : pieceV st k l m (b, e) = sumS b e (fun d => wSt st k l m d d) := by
  unfold pieceV sumS
  dsimp only
  rw [show (e - b + 1).toNat = (e + 1 - b).toNat by omega]
  refine sumI_congr fun i hi => ?_
  obtain ⟨q1, q2⟩ := h1 (b + ((i : Nat) : Int)) (by omega) (by omega)
  unfold wSt
  rw [decide_eq_decide.mpr q1, decide_eq_decide.mpr q2]
theorem pieces_sum {st : Option Int} {k : Nat} {near far l m : Int} (h : near ≤ far + 1) : ((pcs near far l m).map (pieceV st k l m)).sum = sumS near far (fun d => wSt st k l m d d) := by
  by_cases c1 : near < 1 - l ∧ 1 - l ≤ far
  · by_cases c2 : near < m + 1 ∧ m + 1 ≤ far
    · have e : pcs near far l m = [(near, min (1 - l) (m + 1) - 1), (min (1 - l) (m + 1), max (1 - l) (m + 1) - 1), (max (1 - l) (m + 1), far)] := by
        unfold pcs cutL
        simp [c1, c2, srt2]
      rw [e, sumS_split (c := max (1 - l) (m + 1)) (by omega) (by omega), sumS_split (lo := near) (c := min (1 - l) (m + 1)) (by omega) (by omega)]
      simp only [List.map_cons, List.map_nil, List.sum_cons, List.sum_nil]
      rw [piece_S fun d d1 d2 => by omega, piece_S fun d d1 d2 => by omega, piece_S fun d d1 d2 => by omega]
      omega
    · have e : pcs near far l m = [(near, (1 - l) - 1), (1 - l, far)] := by
        unfold pcs cutL
        have : (decide (near < m + 1) && decide (m + 1 ≤ far)) = false := by simpa using c2
        simp [c1, srt2, this]
      rw [e, sumS_split (c := 1 - l) (by omega) (by omega)]
      simp only [List.map_cons, List.map_nil, List.sum_cons, List.sum_nil]
      rw [piece_S fun d d1 d2 => by omega, piece_S fun d d1 d2 => by omega]
      omega
  · have x1 : (decide (near < 1 - l) && decide (1 - l ≤ far)) = false := by simpa using c1
    by_cases c2 : near < m + 1 ∧ m + 1 ≤ far
    · have e : pcs near far l m = [(near, (m + 1) - 1), (m + 1, far)] := by
        unfold pcs cutL
        simp [c2, srt2, x1]
      rw [e, sumS_split (c := m + 1) (by omega) (by omega)]
      simp only [List.map_cons, List.map_nil, List.sum_cons, List.sum_nil]
      rw [piece_S fun d d1 d2 => by omega, piece_S fun d d1 d2 => by omega]
      omega
    · have e : pcs near far l m = [(near, far)] := by
        unfold pcs cutL
        have : (decide (near < m + 1) && decide (m + 1 ≤ far)) = false := by simpa using c2
        simp [srt2, x1, this]
      rw [e]
      simp only [List.map_cons, List.map_nil, List.sum_cons, List.sum_nil]
      rw [piece_S fun d d1 d2 => by omega]
      omega
theorem par_even (a b : Int) : (a + b) * (b - a + 1) % 2 = 0 := by
  have h1 : a % 2 = 0 ∨ a % 2 = 1 := by omega
  have h2 : b % 2 = 0 ∨ b % 2 = 1 := by omega
  rcases h1 with h1 | h1 <;> rcases h2 with h2 | h2 <;> rw [Int.mul_emod, Int.add_emod, Int.add_emod (b - a), Int.sub_emod, h1, h2] <;> rfl
theorem w_cub (st : Option Int) (k : Nat) (l m : Int) (tu bo : Bool) (a : Int) : Cub (wAt st k l m tu bo) a := by
  cases st with
  | none =>
    refine cub_poly (c0 := 6 * ((if bo = true then m else 0) - (if tu = true then 1 else l) + 1)) (c1 := 6 * ((if bo = true then 0 else 1) - (if tu = true then -1 else 0))) (c2 := 0) (c3 := 0) (fun x => ?_) a
    show 6 * (wHigh m bo x - wLow l tu x + 1) = _
    unfold wHigh wLow
    cases tu <;> cases bo <;> simp <;> omega
  | some s =>
    refine cub_poly (c0 := 6 * ((if bo = true then m else 0) - (if tu = true then 1 else l) + 1) * s + 3 * ((if tu = true then 1 else l) + (if bo = true then m else 0)) * ((if bo = true then m else 0) - (if tu = true then 1 else l) + 1))
      (c1 := 6 * ((if bo = true then m else 0) - (if tu = true then 1 else l) + 1) * (2 * ((k : Nat) : Int) - 3) + 6 * ((if bo = true then 0 else 1) - (if tu = true then -1 else 0)) * s + 3 * (((if tu = true then 1 else l) + (if bo = true then m else 0)) * ((if bo = true then 0 else 1) - (if tu = true then -1 else 0)) + ((if tu = true then -1 else 0) + (if bo = true then 0 else 1)) * ((if bo = true then m else 0) - (if tu = true then 1 else l) + 1)))
      (c2 := 24 * ((if bo = true then m else 0) - (if tu = true then 1 else l) + 1) + 6 * ((if bo = true then 0 else 1) - (if tu = true then -1 else 0)) * (2 * ((k : Nat) : Int) - 3) + 3 * ((if tu = true then -1 else 0) + (if bo = true then 0 else 1)) * ((if bo = true then 0 else 1) - (if tu = true then -1 else 0)))
      (c3 := 24 * ((if bo = true then 0 else 1) - (if tu = true then -1 else 0))) (fun x => ?_) a
    have pe := par_even (wLow l tu x) (wHigh m bo x)
    show 6 * ((wHigh m bo x - wLow l tu x + 1) * (s + moreF k x) + (wLow l tu x + wHigh m bo x) * (wHigh m bo x - wLow l tu x + 1) / 2) = _
    have e : 6 * ((wHigh m bo x - wLow l tu x + 1) * (s + moreF k x) + (wLow l tu x + wHigh m bo x) * (wHigh m bo x - wLow l tu x + 1) / 2) = 6 * ((wHigh m bo x - wLow l tu x + 1) * (s + moreF k x)) + 3 * ((wLow l tu x + wHigh m bo x) * (wHigh m bo x - wLow l tu x + 1)) := by omega
    rw [e]
    unfold wHigh wLow moreF
    generalize ((k : Nat) : Int) = kk
    clear pe e
    cases tu <;> cases bo <;> simp only [Bool.false_eq_true, if_true, if_false] <;> grind
/-! ### what a side tells -/
theorem sum_line {lo hi c : Int} (h : lo ≤ hi + 1) : sumS lo hi (fun a => c + a) = (hi - lo + 1) * c + (lo + hi) * (hi - lo + 1) / 2 := by
  have key : ∀ n : Nat, 2 * sumI lo n (fun a => c + a) = 2 * (((n : Nat) : Int) * c) + (2 * lo + ((n : Nat) : Int) - 1) * ((n : Nat) : Int) := fun n => by
    induction n with
    | zero => show 2 * (0 : Int) = _; simp
    | succ n ih =>
      show 2 * (sumI lo n _ + (c + (lo + ((n : Nat) : Int)))) = _
      rw [Int.mul_add, ih, show ((n + 1 : Nat) : Int) = ((n : Nat) : Int) + 1 by omega]
      generalize ((n : Nat) : Int) = x
      grind
  have k2 := key (hi + 1 - lo).toNat
  have pe := par_even lo hi
  unfold sumS
  rw [show (((hi + 1 - lo).toNat : Nat) : Int) = hi - lo + 1 by omega, show 2 * lo + (hi - lo + 1) - 1 = lo + hi by omega] at k2
  omega
theorem boxG_sum {s l m d : Int} {k : Nat} (h : max l (1 - d) ≤ min m d + 1) : boxG (fun n => s + n) k l m d = wSt (some s) k l m d d := by
  have e1 : wLow l (decide (1 - d > l)) d = max l (1 - d) := by
    unfold wLow
    by_cases c : 1 - d > l
    · rw [decide_eq_true c, if_pos rfl]; omega
    · rw [decide_eq_false c, if_neg (by decide)]; omega
  have e2 : wHigh m (decide (d > m)) d = min m d := by
    unfold wHigh
    by_cases c : d > m
    · rw [decide_eq_true c, if_pos rfl]; omega
    · rw [decide_eq_false c, if_neg (by decide)]; omega
  show sumS (max l (1 - d)) (min m d) (fun a => s + (moreF k d + a)) = (wHigh m (decide (d > m)) d - wLow l (decide (1 - d > l)) d + 1) * (s + moreF k d) + (wLow l (decide (1 - d > l)) d + wHigh m (decide (d > m)) d) * (wHigh m (decide (d > m)) d - wLow l (decide (1 - d > l)) d + 1) / 2
  rw [e1, e2, ← sum_line h]
  exact sumS_congr fun a _ _ => by omega
/-- a side's numbers together, by pieces -/
theorem side_all {h : Fin 4} {t : Bool} {b : Bx} {k : Nat} {s near far l m : Int} (en : near = nearF h t b k) (ef : far = (rch b (hdR h t k)).2) (el : l = (rch b (hdR h t (((k : Nat) : Int) + 1))).1) (em : m = (rch b (hdR h t (((k : Nat) : Int) + 1))).2) (hlm : l ≤ m) (hnf : near ≤ far) :
    sideV (fun n => s + n) h t b k = ((pcs near far l m).map (pieceV (some s) k l m)).sum := by
  unfold sideV
  rw [← en, ← ef, ← el, ← em, pieces_sum (by omega)]
  have n1 : 1 ≤ near ∧ l ≤ near ∧ 1 - m ≤ near := by
    unfold nearF at en
    rw [← el, ← em] at en
    omega
  exact sumS_congr fun d d1 d2 => boxG_sum (by omega)
theorem side_none {f : Int → Int} {h : Fin 4} {t : Bool} {b : Bx} {k : Nat} (hnf : ¬ nearF h t b k ≤ (rch b (hdR h t k)).2) : sideV f h t b k = 0 := sumS_none (by omega)
/-! the sides that a box meets -/
def sinK (h : Fin 4) (t : Bool) (b : Bx) : Nat → List Nat
  | 0 => []
  | k + 1 => if nearF h t b k ≤ (rch b (hdR h t k)).2 then sinK h t b k ++ [k] else sinK h t b k
def sinT (h : Fin 4) (t : Bool) (b : Bx) (k : Nat) : PV := .tup [.int ((k : Nat) : Int), .int (nearF h t b k), .int (rch b (hdR h t k)).2, .int (rch b (hdR h t (((k : Nat) : Int) + 1))).1, .int (rch b (hdR h t (((k : Nat) : Int) + 1))).2]
theorem sin_sum {h : Fin 4} {t : Bool} {b : Bx} (V : Nat → Int) (hV : ∀ k, ¬ nearF h t b k ≤ (rch b (hdR h t k)).2 → V k = 0) : ((sinK h t b 4).map V).sum = V 0 + V 1 + V 2 + V 3 := by
  have u : ∀ k, ((sinK h t b (k + 1)).map V).sum = ((sinK h t b k).map V).sum + V k := fun k => by
    show ((if nearF h t b k ≤ (rch b (hdR h t k)).2 then sinK h t b k ++ [k] else sinK h t b k).map V).sum = _
    by_cases c : nearF h t b k ≤ (rch b (hdR h t k)).2
    · rw [if_pos c, List.map_append, List.sum_append]
      simp
    · rw [if_neg c, hV k c]
      omega
  rw [u, u, u, u]
  show (0 : Int) + V 0 + V 1 + V 2 + V 3 = _
  omega
theorem sin_get {h : Fin 4} {t : Bool} {b : Bx} {i k : Nat} : ∀ {n : Nat}, (sinK h t b n)[i]? = some k → k < n ∧ nearF h t b k ≤ (rch b (hdR h t k)).2
  | 0, e => by cases e
  | n + 1, e => by
    unfold sinK at e
    split at e
    · rename_i c
      rcases List.mem_append.mp (List.mem_of_getElem? e) with z | z
      · obtain ⟨j, hj⟩ := List.getElem?_of_mem z
        obtain ⟨q1, q2⟩ := sin_get hj
        exact ⟨by omega, q2⟩
      · rw [List.mem_singleton] at z
        subst z
        exact ⟨by omega, c⟩
    · obtain ⟨q1, q2⟩ := sin_get e
      exact ⟨by omega, q2⟩
theorem sin_len {h : Fin 4} {t : Bool} {b : Bx} : ∀ n : Nat, (sinK h t b n).length ≤ n
  | 0 => Nat.le_refl 0
  | n + 1 => by
    have := sin_len (h := h) (t := t) (b := b) n
    unfold sinK
    split
    · rw [List.length_append]; simp; omega
    · omega
theorem take_sum {α : Type} {V : α → Int} {l : List α} {i : Nat} {x : α} (h : l[i]? = some x) : ((l.take (i + 1)).map V).sum = ((l.take i).map V).sum + V x := by
  rw [List.take_succ, h, List.map_append, List.sum_append]
  simp
theorem rch_le {b : Bx} (hb : BxOk b) (g : Fin 4) : (rch b g).1 ≤ (rch b g).2 := by
  obtain ⟨h1, h2⟩ := hb
  rcases hf4 g with rfl | rfl | rfl | rfl
  · exact h1
  · exact h2
  · show 0 - b.2.2.1 ≤ 0 - b.1; omega
  · show 0 - b.2.2.2 ≤ 0 - b.2.1; omega
end L3

namespace L3
open PySem PySem.Spec L2 PyProof.Rows
section
variable {X : Cx} {P : Program} {w : World} {K : PySem.W.Frag} {mg : Str → Option Value} {base : Heap} {N : List Str} {sc : Scope} {k : Nat} {x : Str} {ρ : Env} {μ μ1 : Mem} {e : Expr} {pos pos' : Pos} {D : AEnds} {sts : List Stmt}
theorem CxF.augA {m n : Int} (cx : CxF X P w K mg base N sc k) (i : Nat) (hi : N[i]? = some x) (hs : stoB sc x = true) (h0 : ρ[i]? = some (some (.int m))) (h : DE X e ρ μ (.int n) μ1) (hn : DSs X sts (ρ.set i (some (.int (m + n)))) μ1 D) :
    DSs X (.AugAssign (.Name x pos') .Add e pos :: sts) ρ μ D := DSs.cons (DS.augAdd cx.nd' (by rw [cx.eN]; exact hi) (cx.sto x hs) h0 h hn)
end
/-! ### Worth's instances -/
def wFs : List Str := ["start", "side", "least", "most", "turned", "bound"]
def stP : Option Int → PV
  | none => .non
  | some s => .int s
def wObj (C : Addr) (st : Option Int) (k : Nat) (l m : Int) (tu bo : Bool) : MO := .ins C wFs [stP st, .int ((k : Nat) : Int), .int l, .int m, .bl tu, .bl bo]
section
variable {a b c d e f : PV}
theorem wl_start : (wFs.zip [a, b, c, d, e, f]).lookup ("start" : Str) = some a := by kernel_rfl
theorem wl_side : (wFs.zip [a, b, c, d, e, f]).lookup ("side" : Str) = some b := by kernel_rfl
theorem wl_least : (wFs.zip [a, b, c, d, e, f]).lookup ("least" : Str) = some c := by kernel_rfl
theorem wl_most : (wFs.zip [a, b, c, d, e, f]).lookup ("most" : Str) = some d := by kernel_rfl
theorem wl_turned : (wFs.zip [a, b, c, d, e, f]).lookup ("turned" : Str) = some e := by kernel_rfl
theorem wl_bound : (wFs.zip [a, b, c, d, e, f]).lookup ("bound" : Str) = some f := by kernel_rfl
theorem wl_at : (wFs.zip [a, b, c, d, e, f]).lookup ("at" : Str) = none := by kernel_rfl
theorem wp1 {C : Addr} : MO.ins C (putFk "start" []) (putFv "start" a [] []) = .ins C ["start"] [a] := by kernel_rfl
theorem wp2 {C : Addr} : MO.ins C (putFk "side" ["start"]) (putFv "side" b ["start"] [a]) = .ins C ["start", "side"] [a, b] := by kernel_rfl
theorem wp3 {C : Addr} : MO.ins C (putFk "least" ["start", "side"]) (putFv "least" c ["start", "side"] [a, b]) = .ins C ["start", "side", "least"] [a, b, c] := by kernel_rfl
theorem wp4 {C : Addr} : MO.ins C (putFk "most" ["start", "side", "least"]) (putFv "most" d ["start", "side", "least"] [a, b, c]) = .ins C ["start", "side", "least", "most"] [a, b, c, d] := by kernel_rfl
theorem wp5 {C : Addr} : MO.ins C (putFk "turned" ["start", "side", "least", "most"]) (putFv "turned" e ["start", "side", "least", "most"] [a, b, c, d]) = .ins C ["start", "side", "least", "most", "turned"] [a, b, c, d, e] := by kernel_rfl
theorem wp6 {C : Addr} : MO.ins C (putFk "bound" ["start", "side", "least", "most", "turned"]) (putFv "bound" f ["start", "side", "least", "most", "turned"] [a, b, c, d, e]) = .ins C wFs [a, b, c, d, e, f] := by kernel_rfl
end
/-! ### boxes to 10 ** 9 either way -/
def BxS (b : Bx) : Prop := -1000000000 ≤ b.1 ∧ b.2.2.1 ≤ 1000000000 ∧ -1000000000 ≤ b.2.1 ∧ b.2.2.2 ≤ 1000000000
theorem rch_s {b : Bx} (hb : BxOk b) (hs : BxS b) (g : Fin 4) : -1000000000 ≤ (rch b g).1 ∧ (rch b g).1 ≤ (rch b g).2 ∧ (rch b g).2 ≤ 1000000000 := by
  obtain ⟨h1, h2⟩ := hb
  obtain ⟨q1, q2, q3, q4⟩ := hs
  rcases hf4 g with rfl | rfl | rfl | rfl
  · exact ⟨q1, h1, q2⟩
  · exact ⟨q3, h2, q4⟩
  · show -1000000000 ≤ 0 - b.2.2.1 ∧ 0 - b.2.2.1 ≤ 0 - b.1 ∧ 0 - b.1 ≤ 1000000000; omega
  · show -1000000000 ≤ 0 - b.2.2.2 ∧ 0 - b.2.2.2 ≤ 0 - b.2.1 ∧ 0 - b.2.1 ≤ 1000000000; omega
theorem near_s {h : Fin 4} {t : Bool} {b : Bx} (hb : BxOk b) (hs : BxS b) (k : Nat) : 1 ≤ nearF h t b k ∧ nearF h t b k ≤ 1000000001 := by
  have h1 := rch_s hb hs (hdR h t k)
  have h2 := rch_s hb hs (hdR h t (((k : Nat) : Int) + 1))
  unfold nearF
  omega
/-- differences of what the distances are worth -/
def dfL (f : Int → Int) (a : Int) (i : Nat) : List Int := (List.range (4 - i)).map fun j => Df f i (a + ((j : Nat) : Int))
theorem dfL_len (f : Int → Int) (a : Int) (i : Nat) : (dfL f a i).length = 4 - i := by simp [dfL]
theorem dfL_at {f : Int → Int} {a : Int} {i j : Nat} (h : j < 4 - i) : atI ((dfL f a i).map PV.int) ((j : Nat) : Int) = some (.int (Df f i (a + ((j : Nat) : Int)))) := by
  refine atI_nat ?_
  unfold dfL
  rw [List.map_map, List.getElem?_map, List.getElem?_range h]
  rfl
def dfN (f : Int → Int) (a : Int) (i : Nat) : PV → Option PV := fun q => match q with
  | .int k => some (.int (Df f (i + 1) (a + k)))
  | _ => none
theorem dfN_all (f : Int → Int) (a : Int) (i : Nat) : (rngL 0 (3 - i)).filterMap (dfN f a i) = (dfL f a (i + 1)).map PV.int := by
  unfold rngL dfL
  rw [List.filterMap_map, List.map_map, show 4 - (i + 1) = 3 - i by omega]
  exact fm_some (List.range (3 - i)) fun j _ => by
    show some (PV.int (Df f (i + 1) (a + (0 + ((j : Nat) : Int))))) = some (PV.int (Df f (i + 1) (a + ((j : Nat) : Int))))
    rw [Int.zero_add]
def Df_B {f : Int → Int} {a : Int} (h : ∀ j : Nat, j < 4 → B 120 (f (a + ((j : Nat) : Int)))) : ∀ i j : Nat, i + j < 4 → B (120 + i) (Df f i (a + ((j : Nat) : Int)))
  | 0, j, hj => h j (by omega)
  | i + 1, j, hj => by
    have h1 := Df_B h i (j + 1) (by omega)
    have h2 := Df_B h i j (by omega)
    show B (120 + (i + 1)) (Df f i (a + ((j : Nat) : Int) + 1) - Df f i (a + ((j : Nat) : Int)))
    rw [show a + ((j : Nat) : Int) + 1 = a + ((j + 1 : Nat) : Int) by omega]
    exact B.le (B.sub h1 h2) (by omega)
theorem wy_B {m : Int} (hm : 0 ≤ m) (hb : m ≤ 3000000000) : ∀ i : Nat, i < 5 → B (32 + 40 * i) (wyF m i)
  | 0, _ => B.rng (a := 3000000000) (by show -3000000000 ≤ m; omega) hb (by decide)
  | i + 1, hi => by
    have h1 := wy_B hm hb i (by omega)
    show B (32 + 40 * (i + 1)) (wyF m i * (m - ((i : Nat) : Int) - 1) / (((i : Nat) : Int) + 2))
    have h2 : B 33 (m - ((i : Nat) : Int) - 1) := B.rng (a := 3000000010) (by omega) (by omega) (by decide)
    exact B.le (B.div (B.mul h1 h2)) (by omega)
theorem w_B {st : Option Int} {k : Nat} {l m x : Int} {tu bo : Bool} (hs : ∀ s, st = some s → B 70 s) (hl : B 32 l) (hm : B 32 m) (hx : B 32 x) (k4 : k < 4) : B 120 (wAt st k l m tu bo x) := by
  have b1 : B 34 (wLow l tu x) := by
    unfold wLow
    cases tu
    · exact B.le hl (by decide)
    · exact B.le (B.sub (show B 1 (1 : Int) by decide) hx) (by decide)
  have b2 : B 34 (wHigh m bo x) := by
    unfold wHigh
    cases bo
    · exact B.le hx (by decide)
    · exact B.le hm (by decide)
  have b3 : B 37 (wHigh m bo x - wLow l tu x + 1) := B.le (B.add (B.sub b2 b1) (show B 1 (1 : Int) by decide)) (by decide)
  cases st with
  | none => exact B.le b3 (by decide)
  | some s =>
    have bk : B 4 (2 * ((k : Nat) : Int) - 3) := B.rng (a := 9) (by omega) (by omega) (by decide)
    have b4 : B 72 (moreF k x) := B.le (B.add (B.mul (B.mul (show B 3 (4 : Int) by decide) hx) hx) (B.mul bk hx)) (by decide)
    have b5 : B 75 (s + moreF k x) := B.le (B.add (hs s rfl) b4) (by decide)
    exact B.le (B.add (B.mul b3 b5) (B.div (B.mul (B.add b1 b2) b3))) (by decide)
theorem more_B {k : Nat} {x : Int} {n : Nat} (hx : B n x) (k4 : k < 4) : B (2 * n + 8) (moreF k x) := by
  have bk : B 4 (2 * ((k : Nat) : Int) - 3) := B.rng (a := 9) (by omega) (by omega) (by decide)
  exact B.le (B.add (B.mul (B.mul (show B 3 (4 : Int) by decide) hx) hx) (B.mul bk hx)) (by omega)
end L3

namespace L3
open PySem PySem.Spec L2 PyProof.Rows
theorem mid_b (b : Bx) : (decide (b.1 ≤ 0) && decide (0 ≤ b.2.2.1) && (decide (b.2.1 ≤ 0) && decide (0 ≤ b.2.2.2))) = decide (inB b (0, 0)) := by
  rw [Bool.eq_iff_iff]
  simp [inB, and_assoc]
  exact decide_eq_true_iff.symm
theorem srt_perm : ∀ {xs : List Int}, xs.length ≤ 2 → (srt2 xs).Perm xs
  | [], _ => .refl _
  | [a], _ => .refl _
  | [a, b], _ => by
    show [min a b, max a b].Perm [a, b]
    rcases Int.le_total a b with h | h
    · rw [Int.min_eq_left h, Int.max_eq_right h]
    · rw [Int.min_eq_right h, Int.max_eq_left h]
      exact List.Perm.swap ..
  | _ :: _ :: _ :: _, h => by simp at h
theorem srt_up : ∀ {xs : List Int}, xs.length ≤ 2 → (srt2 xs).Pairwise (· ≤ ·)
  | [], _ => .nil
  | [a], _ => by show [a].Pairwise _; simp
  | [a, b], _ => by
    show [min a b, max a b].Pairwise _
    simp
    omega
  | _ :: _ :: _ :: _, h => by simp at h
theorem cut_len2 (near far l m : Int) : (cutL near far l m).length ≤ 2 := List.length_filter_le _ _
def subF : PV → Option PV := fun q => match q with
  | .int c => some (.int (c - 1))
  | _ => none
theorem sub_all : ∀ xs : List Int, (xs.map PV.int).filterMap subF = (xs.map (fun c => c - 1)).map PV.int
  | [] => rfl
  | x :: xs => by
    rw [List.map_cons, List.filterMap_cons]
    show PV.int (x - 1) :: _ = _
    rw [sub_all xs]
    rfl
theorem pcs_P (near far l m : Int) : zipP ([PV.int near] ++ (srt2 (cutL near far l m)).map PV.int) (((srt2 (cutL near far l m)).map (fun c => c - 1)).map PV.int ++ [PV.int far]) = (pcs near far l m).map ptP := by
  have e : ∀ xs ys : List Int, zipP (xs.map PV.int) (ys.map PV.int) = (xs.zip ys).map ptP := fun xs => by
    induction xs with
    | nil => intro ys; simp [zipP]
    | cons x xs ih =>
      intro ys
      cases ys with
      | nil => simp [zipP]
      | cons y ys =>
        have := ih ys
        unfold zipP at this ⊢
        rw [List.map_cons, List.map_cons, List.zipWith_cons_cons, this]
        rfl
  have := e (near :: srt2 (cutL near far l m)) ((srt2 (cutL near far l m)).map (fun c => c - 1) ++ [far])
  rw [List.map_append] at this
  exact this
theorem pcs_b {near far l m : Int} (h : near ≤ far + 1) {p : Int × Int} (hp : p ∈ pcs near far l m) : near ≤ p.1 ∧ p.1 ≤ p.2 + 1 ∧ p.2 ≤ far ∧ p.1 ≤ max near far := by
  unfold pcs cutL at hp
  by_cases c1 : near < 1 - l ∧ 1 - l ≤ far
  · by_cases c2 : near < m + 1 ∧ m + 1 ≤ far
    · simp [c1, c2, srt2] at hp
      rcases hp with rfl | rfl | rfl <;> dsimp only <;> omega
    · have : (decide (near < m + 1) && decide (m + 1 ≤ far)) = false := by simpa using c2
      simp [c1, srt2, this] at hp
      rcases hp with rfl | rfl <;> dsimp only <;> omega
  · have x1 : (decide (near < 1 - l) && decide (1 - l ≤ far)) = false := by simpa using c1
    by_cases c2 : near < m + 1 ∧ m + 1 ≤ far
    · simp [c2, srt2, x1] at hp
      rcases hp with rfl | rfl <;> dsimp only <;> omega
    · have : (decide (near < m + 1) && decide (m + 1 ≤ far)) = false := by simpa using c2
      simp [srt2, x1, this] at hp
      subst hp
      dsimp only
      omega
theorem dfL_z {f : Int → Int} {a : Int} {i : Nat} (h : i < 4) : atI ((dfL f a i).map PV.int) 0 = some (.int (Df f i a)) := by
  have := dfL_at (f := f) (a := a) (i := i) (j := 0) (by omega)
  rwa [show ((0 : Nat) : Int) = 0 from rfl, Int.add_zero] at this
def wtF (f : Int → Int) (a : Int) : PV → Option PV := fun q => match q with
  | .int j => some (.int (f (a + j)))
  | _ => none
theorem wtF_all (f : Int → Int) (a : Int) : (rngL 0 (Int.toNat 4)).filterMap (wtF f a) = (dfL f a 0).map PV.int := rfl
theorem sinT_get {h : Fin 4} {t : Bool} {b : Bx} {i : Nat} {p : PV} (e : ((sinK h t b 4).map (sinT h t b))[i]? = some p) : ∃ k, (sinK h t b 4)[i]? = some k ∧ p = sinT h t b k ∧ k < 4 ∧ nearF h t b k ≤ (rch b (hdR h t k)).2 := by
  rw [List.getElem?_map] at e
  obtain ⟨k, hk, rfl⟩ := Option.map_eq_some_iff.mp e
  exact ⟨k, hk, rfl, sin_get hk⟩
theorem pcT_get {near far l m : Int} {i : Nat} {p : PV} (e : ((pcs near far l m).map ptP)[i]? = some p) : ∃ q, (pcs near far l m)[i]? = some q ∧ p = ptP q := by
  rw [List.getElem?_map] at e
  obtain ⟨q, hq, rfl⟩ := Option.map_eq_some_iff.mp e
  exact ⟨q, hq, rfl⟩
end L3
namespace L3
end L3

namespace L3
open PySem PySem.Spec L2 PyProof.Rows
/-! ### sums over the first so many -/
/-! how many lie with a coordinate above nought -/
end L3

namespace L3
open PySem PySem.Spec L2 PyProof.Rows
section
variable {X : Cx} {ρ ρ' : Env} {μ : Mem} {pos : Pos}
theorem DG.lstA {tg : List Expr} {ps : List PV} {p : PV} {j : Nat} (hc : X.calm = true) (hl : asL μ p = some ps) (h : DGs X tg ps ρ μ ρ') (hn : (assignEach tg X.env).length = ps.length := by rfl) (hst : (assignEach tg X.env).findIdx? (·.1) = none := by rfl) : DG X (.Tuple tg j pos) p ρ μ ρ' := by
  obtain ⟨tt, hp, ht⟩ := h
  intro ad σ H v Q R r hQ
  obtain ⟨a, vs, e1, h1, r1⟩ := r.asL_inv hl R.m
  exact wG.of (pg_unl (n := ps.length) hc hp hn hst) ⟨a, vs, e1, h1, r1.length.symm, ht ad σ H vs Q R r1 hQ⟩
end
/-! ### how far a place is by a heading, and its number -/
def byW (g : Fin 4) (p : Int × Int) : Int := (stpW g).1 * p.1 + (stpW g).2 * p.2
theorem by_0 (p : Int × Int) : byW 0 p = p.1 := by
  unfold byW
  rw [show stpW 0 = (1, 0) by decide]
  omega
theorem by_1 (p : Int × Int) : byW 1 p = p.2 := by
  unfold byW
  rw [show stpW 1 = (0, 1) by decide]
  omega
theorem by_2 (p : Int × Int) : byW 2 p = 0 - p.1 := by
  unfold byW
  rw [show stpW 2 = (-1, 0) by decide]
  omega
theorem by_3 (p : Int × Int) : byW 3 p = 0 - p.2 := by
  unfold byW
  rw [show stpW 3 = (0, -1) by decide]
  omega
theorem by_opp (g : Fin 4) (p : Int × Int) : byW (g + 2) p = 0 - byW g p := by
  rcases hf4 g with rfl | rfl | rfl | rfl
  · rw [show (0 : Fin 4) + 2 = 2 by decide, by_0, by_2]
  · rw [show (1 : Fin 4) + 2 = 3 by decide, by_1, by_3]
  · rw [show (2 : Fin 4) + 2 = 0 by decide, by_0, by_2]; omega
  · rw [show (3 : Fin 4) + 2 = 1 by decide, by_1, by_3]; omega
theorem by_dec {g g' : Fin 4} (ad : g' = g + 1 ∨ g' = g + 3) (p : Int × Int) : ((stpW g).1 * byW g p + (stpW g').1 * byW g' p, (stpW g).2 * byW g p + (stpW g').2 * byW g' p) = p := by
  have s0 : stpW 0 = (1, 0) := by decide
  have s1 : stpW 1 = (0, 1) := by decide
  have s2 : stpW 2 = (-1, 0) := by decide
  have s3 : stpW 3 = (0, -1) := by decide
  obtain ⟨x, y⟩ := p
  rcases ad with rfl | rfl <;> rcases hf4 g with rfl | rfl | rfl | rfl
  · rw [show (0 : Fin 4) + 1 = 1 by decide, s0, s1, by_0, by_1]; simp
  · rw [show (1 : Fin 4) + 1 = 2 by decide, s1, s2, by_1, by_2]; simp
  · rw [show (2 : Fin 4) + 1 = 3 by decide, s2, s3, by_2, by_3]; simp
  · rw [show (3 : Fin 4) + 1 = 0 by decide, s3, s0, by_3, by_0]; simp
  · rw [show (0 : Fin 4) + 3 = 3 by decide, s0, s3, by_0, by_3]; simp
  · rw [show (1 : Fin 4) + 3 = 0 by decide, s1, s0, by_1, by_0]; simp
  · rw [show (2 : Fin 4) + 3 = 1 by decide, s2, s1, by_2, by_1]; simp
  · rw [show (3 : Fin 4) + 3 = 2 by decide, s3, s2, by_3, by_2]; simp
theorem by_max {g g' : Fin 4} (ad : g' = g + 1 ∨ g' = g + 3) (p : Int × Int) : max ((byW g p).natAbs : Int) ((byW g' p).natAbs : Int) = max (p.1.natAbs : Int) (p.2.natAbs : Int) := by
  rcases ad with rfl | rfl <;> rcases hf4 g with rfl | rfl | rfl | rfl
  · rw [show (0 : Fin 4) + 1 = 1 by decide, by_0, by_1]
  · rw [show (1 : Fin 4) + 1 = 2 by decide, by_1, by_2]; omega
  · rw [show (2 : Fin 4) + 1 = 3 by decide, by_2, by_3]; omega
  · rw [show (3 : Fin 4) + 1 = 0 by decide, by_3, by_0]; omega
  · rw [show (0 : Fin 4) + 3 = 3 by decide, by_0, by_3]; omega
  · rw [show (1 : Fin 4) + 3 = 0 by decide, by_1, by_0]; omega
  · rw [show (2 : Fin 4) + 3 = 1 by decide, by_2, by_1]; omega
  · rw [show (3 : Fin 4) + 3 = 2 by decide, by_3, by_2]; omega
theorem hd_adj2 (h : Fin 4) (t : Bool) (k : Int) : hdR h t (k + 1) = hdR h t k + 1 ∨ hdR h t (k + 1) = hdR h t k + 3 := by
  rw [hdR_adj]
  cases t
  · exact .inl rfl
  · exact .inr rfl
def rgP (p : Int × Int) : Int := max (p.1.natAbs : Int) (p.2.natAbs : Int)
theorem by_num {h : Fin 4} {t : Bool} {j : Nat} {p : Int × Int} (j4 : j < 4) (r1 : 1 ≤ rgP p) (c1 : byW (hdR h t ((j : Nat) : Int)) p = rgP p) (c2 : byW (hdR h t (((j : Nat) : Int) + 1)) p > 0 - rgP p) : nuW h t p = moreF j (rgP p) + byW (hdR h t (((j : Nat) : Int) + 1)) p := by
  have ad := hd_adj2 h t ((j : Nat) : Int)
  have m := by_max ad p
  have dd := by_dec ad p
  have a1 : byW (hdR h t (((j : Nat) : Int) + 1)) p ≤ rgP p := by
    show _ ≤ max _ _
    rw [← m]
    omega
  have e := side_pl (h := h) (t := t) j4 r1 (show -(rgP p) < byW (hdR h t (((j : Nat) : Int) + 1)) p by omega) a1
  have nn : 0 ≤ moreF j (rgP p) + byW (hdR h t (((j : Nat) : Int) + 1)) p := by
    rw [← side_nu j4 r1 (show -(rgP p) < byW (hdR h t (((j : Nat) : Int) + 1)) p by omega) a1]
    exact nuF_nonneg _ _
  rw [← c1] at e
  rw [c1] at e
  have e2 : plN h t (moreF j (rgP p) + byW (hdR h t (((j : Nat) : Int) + 1)) p) = p := by
    rw [e]
    conv => lhs; rw [← c1]
    rw [c1] at dd
    rw [c1]
    exact dd
  have := plN_nu (h := h) (t := t) nn
  rwa [e2] at this
theorem hd_opp (h : Fin 4) (t : Bool) (k : Int) : hdR h t (k + 2) = hdR h t k + 2 := by
  rw [show k + 2 = k + 1 + 1 by omega, hdR_adj, hdR_adj]
  generalize hdR h t k = g
  cases t <;> revert g <;> decide
theorem by_some (h : Fin 4) (t : Bool) {p : Int × Int} (r1 : 1 ≤ rgP p) : ∃ j : Nat, j < 4 ∧ byW (hdR h t ((j : Nat) : Int)) p = rgP p ∧ byW (hdR h t (((j : Nat) : Int) + 1)) p > 0 - rgP p := by
  have m := by_max (hd_adj2 h t 0) p
  have e2 : byW (hdR h t 2) p = 0 - byW (hdR h t 0) p := by rw [show (2 : Int) = 0 + 2 by decide, hd_opp, by_opp]
  have e3 : byW (hdR h t 3) p = 0 - byW (hdR h t (0 + 1)) p := by rw [show (3 : Int) = (0 + 1) + 2 by decide, hd_opp, by_opp]
  have e4 : byW (hdR h t 4) p = byW (hdR h t 0) p := by rw [show (4 : Int) = 2 + 2 by decide, hd_opp, by_opp, e2]; omega
  have hm : max ((byW (hdR h t 0) p).natAbs : Int) ((byW (hdR h t (0 + 1)) p).natAbs : Int) = rgP p := m
  rw [show (0 : Int) + 1 = 1 by decide] at hm e3
  generalize rgP p = r at *
  by_cases c0 : byW (hdR h t 0) p = r ∧ byW (hdR h t 1) p > 0 - r
  · exact ⟨0, by decide, c0⟩
  by_cases c1 : byW (hdR h t 1) p = r ∧ byW (hdR h t 2) p > 0 - r
  · exact ⟨1, by decide, c1⟩
  by_cases c2 : byW (hdR h t 2) p = r ∧ byW (hdR h t 3) p > 0 - r
  · exact ⟨2, by decide, c2⟩
  refine ⟨3, by decide, ?_⟩
  show byW (hdR h t 3) p = r ∧ byW (hdR h t 4) p > 0 - r
  omega
/-! ### a box's numbers, column by column -/
def nuC (h : Fin 4) (t : Bool) (b : Bx) (i k : Nat) : List Int := (List.range k).map fun (j : Nat) => nuW h t (b.1 + ((i : Nat) : Int), b.2.1 + ((j : Nat) : Int))
def widB (b : Bx) : Nat := (b.2.2.1 + 1 - b.1).toNat
def talB (b : Bx) : Nat := (b.2.2.2 + 1 - b.2.1).toNat
def nuL (h : Fin 4) (t : Bool) (b : Bx) (W : Nat) : List Int := (List.range W).flatMap fun i => nuC h t b i (talB b)
theorem nuC_len (h : Fin 4) (t : Bool) (b : Bx) (i k : Nat) : (nuC h t b i k).length = k := by
  unfold nuC
  rw [List.length_map, List.length_range]
theorem nuL_up (h : Fin 4) (t : Bool) (b : Bx) (W : Nat) : nuL h t b (W + 1) = nuL h t b W ++ nuC h t b W (talB b) := by
  unfold nuL
  rw [List.range_succ, List.flatMap_append]
  simp
theorem nuL_len (h : Fin 4) (t : Bool) (b : Bx) : ∀ W : Nat, (nuL h t b W).length = W * talB b
  | 0 => by rw [Nat.zero_mul]; rfl
  | W + 1 => by rw [nuL_up, List.length_append, nuL_len h t b W, nuC_len, Nat.add_mul, Nat.one_mul]
theorem nuL_mem {h : Fin 4} {t : Bool} {b : Bx} {n : Int} : n ∈ nuL h t b (widB b) ↔ 0 ≤ n ∧ inB b (plN h t n) := by
  unfold nuL nuC
  rw [List.mem_flatMap]
  constructor
  · rintro ⟨i, hi, hn⟩
    obtain ⟨j, hj, rfl⟩ := List.mem_map.mp hn
    rw [List.mem_range] at hi hj
    refine ⟨nuW_nonneg _ _ _, ?_⟩
    rw [plN_of rfl]
    unfold widB at hi
    unfold talB at hj
    refine ⟨?_, ?_, ?_, ?_⟩ <;> dsimp only <;> omega
  · rintro ⟨n0, q1, q2, q3, q4⟩
    have e := plN_nu (h := h) (t := t) n0
    generalize plN h t n = p at *
    refine ⟨(p.1 - b.1).toNat, ?_, List.mem_map.mpr ⟨(p.2 - b.2.1).toNat, ?_, ?_⟩⟩
    · rw [List.mem_range]
      unfold widB
      omega
    · rw [List.mem_range]
      unfold talB
      omega
    · rw [← e]
      congr 1
      refine Prod.ext ?_ ?_ <;> dsimp only <;> omega
theorem nuL_nodup (h : Fin 4) (t : Bool) (b : Bx) (W : Nat) : (nuL h t b W).Nodup := by
  unfold nuL nuC List.Nodup
  rw [List.pairwise_flatMap]
  refine ⟨fun i _ => ?_, ?_⟩
  · rw [List.pairwise_map]
    refine List.Pairwise.imp ?_ (List.pairwise_lt_range (n := talB b))
    intro j1 j2 hlt e
    have := congrArg Prod.snd (nuW_inj e)
    dsimp only at this
    omega
  · refine List.Pairwise.imp ?_ (List.pairwise_lt_range (n := W))
    intro i1 i2 hlt x hx y hy e
    obtain ⟨j1, _, rfl⟩ := List.mem_map.mp hx
    obtain ⟨j2, _, rfl⟩ := List.mem_map.mp hy
    have := congrArg Prod.fst (nuW_inj e)
    dsimp only at this
    omega
theorem perm_sum {l1 l2 : List Int} (p : l1.Perm l2) : l1.sum = l2.sum := by
  induction p with
  | nil => rfl
  | cons x _ ih => rw [List.sum_cons, List.sum_cons, ih]
  | swap x y l => simp only [List.sum_cons]; omega
  | trans _ _ i1 i2 => exact i1.trans i2
theorem sumI_list (g : Int → Int) : ∀ N : Nat, sumI 0 N g = (((List.range N).map fun (i : Nat) => ((i : Nat) : Int)).map g).sum
  | 0 => rfl
  | N + 1 => by
    rw [List.range_succ, List.map_append, List.map_append, List.sum_append, ← sumI_list g N]
    show sumI 0 N g + g (0 + ((N : Nat) : Int)) = _
    simp
theorem sum_pick (p : Int → Bool) (f : Int → Int) : ∀ l : List Int, (l.map fun n => if p n then f n else 0).sum = ((l.filter p).map f).sum
  | [] => rfl
  | x :: l => by
    rw [List.map_cons, List.sum_cons, sum_pick p f l, List.filter_cons]
    cases p x
    · simp
    · simp
theorem all_less (l : List Int) : ∃ N : Nat, ∀ n ∈ l, n < ((N : Nat) : Int) := by
  induction l with
  | nil => exact ⟨0, nofun⟩
  | cons x l ih =>
    obtain ⟨N, hN⟩ := ih
    refine ⟨N + x.natAbs + 1, fun n hn => ?_⟩
    rcases List.mem_cons.mp hn with rfl | z
    · omega
    · have := hN n z
      omega
theorem boxW_list (f : Int → Int) (h : Fin 4) (t : Bool) (b : Bx) : boxW f h t b = ((nuL h t b (widB b)).map f).sum := by
  obtain ⟨D, d1, d2, d3, d4⟩ : ∃ D : Nat, -((D : Nat) : Int) ≤ b.1 ∧ b.2.2.1 ≤ D ∧ -((D : Nat) : Int) ≤ b.2.1 ∧ b.2.2.2 ≤ D := ⟨b.1.natAbs + b.2.1.natAbs + b.2.2.1.natAbs + b.2.2.2.natAbs, by omega, by omega, by omega, by omega⟩
  obtain ⟨N, hN⟩ := all_less (nuL h t b (widB b))
  rw [← box_far d1 d2 d3 d4 (N := N + sqN D) (by omega), sumI_list]
  have := sum_pick (fun n => decide (inB b (plN h t n))) f ((List.range (N + sqN D)).map fun (i : Nat) => ((i : Nat) : Int))
  simp only [decide_eq_true_eq] at this
  rw [this]
  refine perm_sum (List.Perm.map f ((List.perm_ext_iff_of_nodup ?_ (nuL_nodup h t b _)).mpr fun n => ?_))
  · refine List.Nodup.sublist (List.filter_sublist) ?_
    unfold List.Nodup
    rw [List.pairwise_map]
    refine List.Pairwise.imp ?_ (List.pairwise_lt_range (n := N + sqN D))
    intro i j hlt e
    omega
  · rw [nuL_mem, List.mem_filter, List.mem_map]
    constructor
    · rintro ⟨⟨i, _, rfl⟩, hi⟩
      exact ⟨by omega, of_decide_eq_true hi⟩
    · rintro ⟨n0, hi⟩
      have := hN n (nuL_mem.mpr ⟨n0, hi⟩)
      refine ⟨⟨n.toNat, ?_, by omega⟩, decide_eq_true hi⟩
      rw [List.mem_range]
      omega
end L3

namespace L3
open PySem PySem.Spec L2 PyProof.Rows
/-! ### drawn boxes -/
theorem get_app {μ l : Mem} {k : Nat} {z : MO} (h : μ[k]? = some z) : (μ ++ l)[k]? = some z := by
  have : k < μ.length := (List.getElem?_eq_some_iff.mp h).1
  rw [List.getElem?_append_left this]
  exact h
theorem set_app {μ l : Mem} {k : Nat} {z y : MO} (h : μ[k]? = some z) : (μ ++ l).set k y = μ.set k y ++ l := by
  have : k < μ.length := (List.getElem?_eq_some_iff.mp h).1
  rw [List.set_append_left _ _ this]
theorem app_lastS {μ : Mem} {k : Nat} {m y : MO} : (μ.set k y ++ [m])[μ.length]? = some m := by
  have := app_last (μ := μ.set k y) (m := m)
  rwa [List.length_set] at this
theorem app_setlS {μ : Mem} {k : Nat} {m m' y : MO} : (μ.set k y ++ [m]).set μ.length m' = μ.set k y ++ [m'] := by
  have := app_setl (μ := μ.set k y) (m := m) (m' := m')
  rwa [List.length_set] at this
theorem fin_dropS {μ ex : Mem} {p r : PV} {Q : PV → Mem → Prop} {k : Nat} {d : DeckC} (h : Q r (μ.set k (seMO d))) (e : p = r) (b : below μ.length r = true) : ∃ r' μ', Done μ p (μ.set k (seMO d) ++ ex) r' μ' ∧ Q r' μ' :=
  ⟨r, _, by rw [e]; exact .drop _ _ _ (chg_set rfl) b, h⟩
theorem en_idx (g : Fin 4) : Builtin.Str.occurrences "enws" (hdS g) 0 ("enws" : Str).length 1 = g.val :: [] := by
  rcases hf4 g with rfl | rfl | rfl | rfl <;> decide +kernel
theorem by_at (g : Fin 4) (p : Int × Int) : atI [PV.int p.1, .int p.2, .int (0 - p.1), .int (0 - p.2)] ((g.val : Nat) : Int) = some (.int (byW g p)) := by
  rcases hf4 g with rfl | rfl | rfl | rfl
  · rw [by_0]; rfl
  · rw [by_1]; rfl
  · rw [by_2]; rfl
  · rw [by_3]; rfl
theorem hs_at4 (h : Fin 4) (t : Bool) {i : Nat} (i4 : i < 4) : atI (hsS h t).cps.toList ((i : Nat) : Int) = some (hdC (hdR h t ((i : Nat) : Int))) := by
  have := hs_at h t ((i : Nat) : Int)
  rwa [show ((i : Nat) : Int) % 4 = ((i : Nat) : Int) by omega] at this
theorem nu_zero (h : Fin 4) (t : Bool) : nuW h t (0, 0) = 0 := by
  have := plN_nu (h := h) (t := t) (Int.le_refl 0)
  rwa [plN_zero] at this
theorem rg_0 {p : Int × Int} (h : rgP p = 0) : p = (0, 0) := by
  obtain ⟨x, y⟩ := p
  unfold rgP at h
  dsimp only at h
  refine Prod.ext ?_ ?_ <;> dsimp only <;> omega
theorem more_val {r i o : Int} : (2 * r - 1) * (2 * r - 1) - 1 + 2 * r * i + r + o = moreF i r + o := by
  rw [more_sq]
  have : (2 * i + 1) * r = 2 * r * i + r := by rw [Int.add_mul, Int.one_mul, Int.mul_assoc, Int.mul_comm i r, ← Int.mul_assoc]
  omega
/-- a sign drawn from [1, -1] -/
theorem sg2_at {r : Int} (r0 : 0 ≤ r) (r1 : r < 2) : ∃ e : Int, atI [PV.int 1, .int (-1)] r = some (.int e) ∧ (e = 1 ∨ e = -1) := by
  have : r = 0 ∨ r = 1 := by omega
  rcases this with rfl | rfl
  · exact ⟨1, rfl, .inl rfl⟩
  · exact ⟨-1, rfl, .inr rfl⟩
def cutF (n : Int) : Int := max (0 - 1000000000) (min 1000000000 n)
theorem cut_in (n : Int) : -1000000000 ≤ cutF n ∧ cutF n ≤ 1000000000 := by unfold cutF; omega
/-- a place of the plane, in a box that may be drawn -/
def PtS (p : Int × Int) : Prop := -1000000000 ≤ p.1 ∧ p.1 ≤ 1000000000 ∧ -1000000000 ≤ p.2 ∧ p.2 ≤ 1000000000
theorem nu_le (h : Fin 4) (t : Bool) {p : Int × Int} (hp : PtS p) : nuW h t p ≤ 5000000000000000000 := by
  obtain ⟨b1, b2, b3, b4⟩ := hp
  have rb : 0 ≤ rgP p ∧ rgP p ≤ 1000000000 := by
    unfold rgP
    omega
  by_cases c : rgP p = 0
  · rw [rg_0 c, nu_zero]
    decide
  · obtain ⟨j, j4, c1, c2⟩ := by_some h t (p := p) (by omega)
    rw [by_num j4 (by omega) c1 c2, more_sq]
    have ad := by_max (hd_adj2 h t ((j : Nat) : Int)) p
    have a1 : byW (hdR h t (((j : Nat) : Int) + 1)) p ≤ rgP p := by
      show _ ≤ max _ _
      rw [← ad]
      omega
    have e1 : (2 * rgP p - 1) * (2 * rgP p - 1) ≤ 1999999999 * 1999999999 := Int.mul_le_mul (by omega) (by omega) (by omega) (by decide)
    have e2 : (2 * ((j : Nat) : Int) + 1) * rgP p ≤ 7 * 1000000000 := Int.mul_le_mul (by omega) (by omega) (by omega) (by decide)
    omega
theorem pick_2 {a b w : Int} (h : w = 2 ∨ w = 3) : ∃ c : Int, atI [PV.int a, .int b] (w - 2) = some (.int c) ∧ (c = a ∨ c = b) := by
  rcases h with rfl | rfl
  · exact ⟨a, rfl, .inl rfl⟩
  · exact ⟨b, rfl, .inr rfl⟩
section
variable {X : Cx} {ρ ρ' : Env} {μ : Mem} {pos : Pos} {D : AEnds}
end
end L3

namespace L3
open PySem PySem.Spec L2 PyProof.Rows
/-- a box's numbers, as they are told -/
def nuP (s : Int) (l : List Int) : List PV := l.map fun n => PV.int (s + n)
theorem nuP_I (s : Int) (l : List Int) : nuP s l = (l.map fun n => s + n).map PV.int := by
  unfold nuP
  rw [List.map_map]
  rfl
theorem nuP_snoc (s : Int) (l : List Int) (n : Int) : nuP s (l ++ [n]) = nuP s l ++ [.int (s + n)] := by
  unfold nuP
  rw [List.map_append]
  rfl
theorem nuP_len (s : Int) (l : List Int) : (nuP s l).length = l.length := by
  unfold nuP
  rw [List.length_map]
theorem nuL_ne {h : Fin 4} {t : Bool} {b : Bx} (hb : BxOk b) : 0 < (nuL h t b (widB b)).length := by
  obtain ⟨h1, h2⟩ := hb
  rw [nuL_len]
  refine Nat.mul_pos ?_ ?_
  · unfold widB
    omega
  · unfold talB
    omega
theorem list_min : ∀ {l : List Int}, 0 < l.length → ∃ m ∈ l, ∀ y ∈ l, m ≤ y
  | [x], _ => ⟨x, by simp, fun y hy => by simp at hy; omega⟩
  | x :: y :: r, _ => by
    obtain ⟨m, hm, h⟩ := list_min (l := y :: r) (by simp)
    by_cases c : x ≤ m
    · refine ⟨x, by simp, fun z hz => ?_⟩
      rcases List.mem_cons.mp hz with rfl | hz
      · omega
      · have := h z hz
        omega
    · refine ⟨m, List.mem_cons_of_mem _ hm, fun z hz => ?_⟩
      rcases List.mem_cons.mp hz with rfl | hz
      · omega
      · exact h z hz
theorem list_max : ∀ {l : List Int}, 0 < l.length → ∃ m ∈ l, ∀ y ∈ l, y ≤ m
  | [x], _ => ⟨x, by simp, fun y hy => by simp at hy; omega⟩
  | x :: y :: r, _ => by
    obtain ⟨m, hm, h⟩ := list_max (l := y :: r) (by simp)
    by_cases c : m ≤ x
    · refine ⟨x, by simp, fun z hz => ?_⟩
      rcases List.mem_cons.mp hz with rfl | hz
      · omega
      · have := h z hz
        omega
    · refine ⟨m, List.mem_cons_of_mem _ hm, fun z hz => ?_⟩
      rcases List.mem_cons.mp hz with rfl | hz
      · omega
      · exact h z hz
section
variable {X : Cx} {ρ ρ' : Env} {μ μ1 : Mem} {pos : Pos} {q r : PV} {a b : Expr} {i : Int}
/-- a tuple, or a list -/
def Sq (μ : Mem) (q : PV) (xs : List PV) : Prop := q = .tup xs ∨ asL μ q = some xs
theorem DE.ixE {xs : List PV} (hq : Sq μ q xs) (ha : DE X a ρ μ q μ) (hb : DE X b ρ μ (.int i) μ) (h : atI xs i = some r) (hs : PlainIx b := by exact fun _ _ => rfl) : DE X (.Subscript a b pos) ρ μ r μ := by
  rcases hq with rfl | hq
  · exact DE.ixT ha hb h hs
  · exact DE.ixL ha hb hq h hs
theorem DG.seq {tg : List Expr} {ps : List PV} {p : PV} {j : Nat} (hc : X.calm = true) (hl : Sq μ p ps) (h : DGs X tg ps ρ μ ρ') (hn : (assignEach tg X.env).length = ps.length := by rfl) (hst : (assignEach tg X.env).findIdx? (·.1) = none := by rfl) : DG X (.Tuple tg j pos) p ρ μ ρ' := by
  rcases hl with rfl | hl
  · exact DG.tup hc h hn hst
  · exact DG.lstA hc hl h hn hst
end
end L3

namespace L3
open PySem PySem.Spec L2 PyProof.Rows
section
variable {X : Cx} {ρ ρ' : Env} {μ μ1 μ2 : Mem} {pos cp : Pos} {p q r : PV} {a b o e : Expr} {i : Int} {n : Nat}
/-- a list some times over: a new list -/
theorem DE.repO {xs : List PV} {k : Int} (ha : DE X a ρ μ p μ1) (hb : DE X b ρ μ1 (.int k) μ2) (hl : asK μ2 p = some xs) (h1 : -(2 ^ 63) ≤ k) (h2 : k < 2 ^ 63) (hz : xs.length * k.toNat ≤ sizeLine) :
    DE X (.BinOp a .Mult b pos) ρ μ (.obj μ2.length) (μ2 ++ [.lst (List.replicate k.toNat xs).flatten]) := fun ad σ H Q R f => by
  refine wE.of (pe_op op_rep (pe_w a) (pe_w b)) (ha ad σ H _ R fun ad1 v H1 s1 m1 r1 => hb (ad ++ ad1) σ H1 _ (R.mono s1 m1) fun ad2 u H2 s2 m2 r2 => ?_)
  obtain ⟨l, vs, e1, hh, rl⟩ := (r1.mono s2).asK_inv hl m2
  refine ⟨l, k, vs, e1, r2.int_inv, hh, h1, h2, by rw [← rl.length]; exact hz, fun a ha => ?_⟩
  have s3 : Stp (ad ++ ad1 ++ ad2) [a] H2 (upd H2 a (.lst (List.replicate k.toNat vs).flatten)) := Stp.fresh ha
  refine f (ad1 ++ (ad2 ++ [a])) _ _ (s1.trans (s2.trans s3)) ?_ ?_
  · rw [← AD.append_assoc, ← AD.append_assoc]
    exact m2.push ha ⟨_, upd_same, RpL.mono (K := X.K) s3 _ _ (rl.rep k.toNat)⟩
  · rw [← AD.append_assoc, ← AD.append_assoc]
    unfold Rp
    exact ⟨a, rfl, AD.at_snoc m2.len⟩
/-- o.extend(e), e a list -/
theorem DE.extend {xs ys zs : List PV} {apos : Pos} (ho : DE X o ρ μ (.obj n) μ1) (he : DE X e ρ μ1 p μ2) (h1 : asL μ1 (.obj n) = some ys) (h2 : μ2[n]? = some (.lst xs)) (h3 : asK μ2 p = some zs) (hl : xs.length + zs.length ≤ sizeLine)
    (hbase : attributeBase o "extend" X.env (eval o X.env) = eval o X.env := by rfl)
    (hfew : ((backTo cp (starEach [e] X.env)).all (fun x => !x.1) && (backToKw cp (keywordEach [] X.env)).all (fun x => x.1.isSome)
      && decide (([e] : List Expr).length + ([] : List Keyword).length + (if ([] : List Keyword).isEmpty then 0 else 1) < 30)) = true := by rfl)
    (hline : (apos.endLine == cp.line) = true := by rfl) (hs : starEach [e] X.env = (false, eval e X.env) :: starEach [] X.env := by rfl) (hplain : (backTo cp (starEach [] X.env)).any (·.1) = false := by rfl) :
    DE X (.Call (.Attribute o "extend" apos) [e] [] cp) ρ μ .non (μ2.set n (.lst (xs ++ zs))) := fun ad σ H Q R f => by
  refine wE.of (pe_bm PySem.F.plainAttrs_list PySem.F.slot_list_extend PySem.F.type_list_extend mt_extend (pe_w o) (pa_w [e]) hbase hfew hline hs hplain) ?_
  refine ho ad σ H _ R fun ad1 v H1 s1 m1 r1 => ⟨r1.tyL m1 h1, ?_⟩
  refine DA.cons he DA.nil hs (ad ++ ad1) σ H1 _ (R.mono s1 m1) fun ad2 vs H2 s2 m2 r2 => ?_
  obtain ⟨u, e2, ru⟩ := r2.inv1
  obtain ⟨c, us, e4, hc, rl⟩ := ru.asK_inv h3 m2
  obtain ⟨l, e3, hl3⟩ := (r1.mono s2).obj_inv
  obtain ⟨ws, hw, rw'⟩ := m2.mem n l _ hl3 h2
  refine ⟨l, c, ws, us, e3, by rw [e2, e4], hw, hc, by rw [← rw'.length, ← rl.length]; exact hl, ?_⟩
  have s3 : Stp (ad ++ ad1 ++ ad2) [] H2 (upd H2 l (.lst (ws ++ us))) := Stp.write hl3
  have m3 := m2.write (o := .lst (ws ++ us)) (m := .lst (xs ++ zs)) hl3 ⟨_, upd_same, (rw'.append rl).wr hl3⟩
  exact (Fin1.step s2 (Fin1.step s1 f)) [] _ _ s3 (by rw [AD.append_nil]; exact m3) Rp.non'
end
/-! ### the least and the greatest number of a box -/
def loF (h : Fin 4) (t : Bool) (b : Bx) (k : Nat) : Int := moreF k (nearF h t b k) + max (rch b (hdR h t (((k : Nat) : Int) + 1))).1 (1 - nearF h t b k)
def hiF (h : Fin 4) (t : Bool) (b : Bx) (k : Nat) : Int := moreF k (rch b (hdR h t ((k : Nat) : Int))).2 + min (rch b (hdR h t (((k : Nat) : Int) + 1))).2 (rch b (hdR h t ((k : Nat) : Int))).2
def endL (h : Fin 4) (t : Bool) (b : Bx) (ks : List Nat) : List Int := (if inB b (0, 0) then [0] else []) ++ ks.flatMap fun k => [loF h t b k, hiF h t b k]
theorem sin_mem {h : Fin 4} {t : Bool} {b : Bx} {k : Nat} : ∀ {n : Nat}, k ∈ sinK h t b n ↔ k < n ∧ nearF h t b k ≤ (rch b (hdR h t k)).2
  | 0 => ⟨nofun, fun h => by omega⟩
  | n + 1 => by
    show k ∈ (if nearF h t b n ≤ (rch b (hdR h t n)).2 then sinK h t b n ++ [n] else sinK h t b n) ↔ _
    by_cases c : nearF h t b n ≤ (rch b (hdR h t n)).2
    · rw [if_pos c, List.mem_append, List.mem_singleton, sin_mem]
      constructor
      · rintro (⟨h1, h2⟩ | rfl)
        · exact ⟨by omega, h2⟩
        · exact ⟨by omega, c⟩
      · rintro ⟨h1, h2⟩
        by_cases e : k = n
        · exact .inr e
        · exact .inl ⟨by omega, h2⟩
    · rw [if_neg c, sin_mem]
      constructor
      · rintro ⟨h1, h2⟩
        exact ⟨by omega, h2⟩
      · rintro ⟨h1, h2⟩
        refine ⟨?_, h2⟩
        by_cases e : k = n
        · subst e
          exact absurd h2 c
        · omega
theorem side_sq {k : Nat} {d d' : Int} (d1 : 1 ≤ d) (hd : d < d') : moreF k d + d < moreF k d' - d' + 1 := by
  rw [more_sq, more_sq]
  have e1 : (2 * d + 1) * (2 * d + 1) ≤ (2 * d' - 1) * (2 * d' - 1) := Int.mul_le_mul (by omega) (by omega) (by omega) (by omega)
  have e2 : (2 * d + 1) * (2 * d + 1) = (2 * d - 1) * (2 * d - 1) + 8 * d := by grind
  have e3 : (2 * ((k : Nat) : Int) + 1) * d = 2 * (((k : Nat) : Int) * d) + d := by rw [Int.add_mul, Int.one_mul, Int.mul_assoc]
  have e4 : (2 * ((k : Nat) : Int) + 1) * d' = 2 * (((k : Nat) : Int) * d') + d' := by rw [Int.add_mul, Int.one_mul, Int.mul_assoc]
  have e5 : ((k : Nat) : Int) * d ≤ ((k : Nat) : Int) * d' := Int.mul_le_mul_of_nonneg_left (by omega) (by omega)
  omega
theorem nu_side {h : Fin 4} {t : Bool} {n : Int} (n0 : 1 ≤ n) : ∃ (k : Nat) (d a : Int), k < 4 ∧ 1 ≤ d ∧ -d < a ∧ a ≤ d ∧ n = moreF k d + a := by
  have e := plN_nu (h := h) (t := t) (k := n) (by omega)
  have r1 : 1 ≤ rgP (plN h t n) := by
    by_cases c : rgP (plN h t n) = 0
    · rw [rg_0 c, nu_zero] at e
      omega
    · have : 0 ≤ rgP (plN h t n) := by
        unfold rgP
        omega
      omega
  obtain ⟨k, k4, c1, c2⟩ := by_some h t r1
  have m := by_max (hd_adj2 h t ((k : Nat) : Int)) (plN h t n)
  have a1 : byW (hdR h t (((k : Nat) : Int) + 1)) (plN h t n) ≤ rgP (plN h t n) := by
    show _ ≤ max _ _
    rw [← m]
    omega
  exact ⟨k, _, _, k4, r1, by omega, a1, by rw [← by_num k4 r1 c1 c2, e]⟩
theorem end_in {h : Fin 4} {t : Bool} {b : Bx} (hb : BxOk b) {x : Int} (hx : x ∈ endL h t b (sinK h t b 4)) : x ∈ nuL h t b (widB b) := by
  rw [nuL_mem]
  unfold endL at hx
  rcases List.mem_append.mp hx with z | z
  · by_cases c : inB b (0, 0)
    · rw [if_pos c, List.mem_singleton] at z
      subst z
      exact ⟨Int.le_refl _, by rw [plN_zero]; exact c⟩
    · rw [if_neg c] at z
      cases z
  · obtain ⟨k, hk, hx⟩ := List.mem_flatMap.mp z
    obtain ⟨k4, hnf⟩ := sin_mem.mp hk
    have q1 := rch_le hb (hdR h t (((k : Nat) : Int) + 1))
    have n1 : 1 ≤ nearF h t b k ∧ (rch b (hdR h t k)).1 ≤ nearF h t b k ∧ (rch b (hdR h t (((k : Nat) : Int) + 1))).1 ≤ nearF h t b k ∧ 1 - (rch b (hdR h t (((k : Nat) : Int) + 1))).2 ≤ nearF h t b k := by
      unfold nearF
      omega
    have go : ∀ d a : Int, 1 ≤ d → -d < a → a ≤ d → ((rch b (hdR h t k)).1 ≤ d ∧ d ≤ (rch b (hdR h t k)).2) ∧ (rch b (hdR h t (((k : Nat) : Int) + 1))).1 ≤ a ∧ a ≤ (rch b (hdR h t (((k : Nat) : Int) + 1))).2 → 0 ≤ moreF k d + a ∧ inB b (plN h t (moreF k d + a)) := fun d a d1 a0 a1 hh => by
      refine ⟨?_, (side_in k4 d1 a0 a1).mpr hh⟩
      rw [← side_nu k4 d1 a0 a1]
      exact nuF_nonneg _ _
    simp only [List.mem_cons, List.not_mem_nil, or_false] at hx
    rcases hx with rfl | rfl
    · exact go _ _ (by omega) (by omega) (by omega) ⟨⟨by omega, hnf⟩, by omega, by omega⟩
    · exact go _ _ (by omega) (by omega) (by omega) ⟨⟨by omega, Int.le_refl _⟩, by omega, by omega⟩
theorem end_all {h : Fin 4} {t : Bool} {b : Bx} {n : Int} (hn : n ∈ nuL h t b (widB b)) : (∃ x ∈ endL h t b (sinK h t b 4), x ≤ n) ∧ ∃ x ∈ endL h t b (sinK h t b 4), n ≤ x := by
  obtain ⟨n0, hi⟩ := nuL_mem.mp hn
  by_cases c : n = 0
  · subst c
    rw [plN_zero] at hi
    have : (0 : Int) ∈ endL h t b (sinK h t b 4) := by
      unfold endL
      rw [if_pos hi]
      simp
    exact ⟨⟨0, this, Int.le_refl _⟩, 0, this, Int.le_refl _⟩
  · obtain ⟨k, d, a, k4, d1, a0, a1, rfl⟩ := nu_side (h := h) (t := t) (n := n) (by omega)
    obtain ⟨⟨g1, g2⟩, g3, g4⟩ := (side_in k4 d1 a0 a1).mp hi
    have n1 : nearF h t b k ≤ d ∧ 1 ≤ nearF h t b k := by
      unfold nearF
      omega
    have hk : k ∈ sinK h t b 4 := sin_mem.mpr ⟨k4, by omega⟩
    have m1 : loF h t b k ∈ endL h t b (sinK h t b 4) ∧ hiF h t b k ∈ endL h t b (sinK h t b 4) := by
      unfold endL
      exact ⟨List.mem_append.mpr (.inr (List.mem_flatMap.mpr ⟨k, hk, by simp⟩)), List.mem_append.mpr (.inr (List.mem_flatMap.mpr ⟨k, hk, by simp⟩))⟩
    refine ⟨⟨_, m1.1, ?_⟩, _, m1.2, ?_⟩
    · unfold loF
      generalize hN : nearF h t b k = N at *
      by_cases e : N = d
      · subst e
        omega
      · have e2 : (rch b (hdR h t (((k : Nat) : Int) + 1))).1 ≤ N := by
          rw [← hN]
          unfold nearF
          omega
        have := side_sq (k := k) n1.2 (show N < d by omega)
        omega
    · unfold hiF
      by_cases e : d = (rch b (hdR h t ((k : Nat) : Int))).2
      · rw [← e]
        omega
      · have e2 : 1 - (rch b (hdR h t (((k : Nat) : Int) + 1))).2 ≤ (rch b (hdR h t ((k : Nat) : Int))).2 := by omega
        have := side_sq (k := k) d1 (show d < (rch b (hdR h t ((k : Nat) : Int))).2 by omega)
        omega
theorem end_up {h : Fin 4} {t : Bool} {b : Bx} {ks : List Nat} {k : Nat} : endL h t b (ks ++ [k]) = endL h t b ks ++ [loF h t b k] ++ [hiF h t b k] := by
  unfold endL
  rw [List.flatMap_append]
  simp
theorem end_len (h : Fin 4) (t : Bool) (b : Bx) (ks : List Nat) : (endL h t b ks).length ≤ 1 + 2 * ks.length := by
  unfold endL
  have : ∀ ks : List Nat, (ks.flatMap fun k => [loF h t b k, hiF h t b k]).length = 2 * ks.length := fun ks => by
    induction ks with
    | nil => rfl
    | cons k ks ih =>
      rw [List.flatMap_cons, List.length_append, ih]
      simp
      omega
  rw [List.length_append, this]
  split <;> simp
/-- the least of a box's numbers -/
def MinOf (l : List Int) (m : Int) : Prop := m ∈ l ∧ ∀ y ∈ l, m ≤ y
def MaxOf (l : List Int) (m : Int) : Prop := m ∈ l ∧ ∀ y ∈ l, y ≤ m
theorem end_min {h : Fin 4} {t : Bool} {b : Bx} {m : Int} (hb : BxOk b) (hm : MinOf (nuL h t b (widB b)) m) : MinOf (endL h t b (sinK h t b 4)) m := by
  obtain ⟨m1, m2⟩ := hm
  obtain ⟨⟨x, hx, hle⟩, _⟩ := end_all m1
  have := m2 x (end_in hb hx)
  have e : x = m := by omega
  subst e
  exact ⟨hx, fun y hy => m2 y (end_in hb hy)⟩
theorem end_max {h : Fin 4} {t : Bool} {b : Bx} {m : Int} (hb : BxOk b) (hm : MaxOf (nuL h t b (widB b)) m) : MaxOf (endL h t b (sinK h t b 4)) m := by
  obtain ⟨m1, m2⟩ := hm
  obtain ⟨_, x, hx, hle⟩ := end_all m1
  have := m2 x (end_in hb hx)
  have e : x = m := by omega
  subst e
  exact ⟨hx, fun y hy => m2 y (end_in hb hy)⟩
theorem box_least {h : Fin 4} {t : Bool} {b : Bx} (hb : BxOk b) : ∃ m, MinOf (nuL h t b (widB b)) m := list_min (nuL_ne hb)
theorem box_most {h : Fin 4} {t : Bool} {b : Bx} (hb : BxOk b) : ∃ m, MaxOf (nuL h t b (widB b)) m := list_max (nuL_ne hb)
end L3

namespace L3
open PySem PySem.Spec L2 PyProof.Rows
section
variable {ad : AD} {ad2 : List Addr} {K : PySem.W.Frag} {H H' : Hp} {μ : Mem}
end
section
variable {X : Cx} {P : Program} {w : World} {K : PySem.W.Frag} {mg : Str → Option Value} {base : Heap} {N : List Str} {sc scope : Scope} {k j : Nat} {x : Str} {A : ASp} {ρ ρ' : Env} {μ μ1 μ2 μ3 μ' : Mem} {p q r : PV} {e a b c o tg : Expr} {es : List Expr} {pos cp : Pos} {D : AEnds} {kb : Bool} {st : Stmt} {sts : List Stmt}
end
end L3

namespace L3
open PySem PySem.Spec L2 PyProof.Rows
section
variable {X : Cx} {P : Program} {w : World} {K : PySem.W.Frag} {mg : Str → Option Value} {base : Heap} {N : List Str} {sc : Scope} {k : Nat} {ρ : Env} {μ μ1 μ2 : Mem} {a b : Expr} {pos cp : Pos}
end
theorem two_get {μ : Mem} {a c : MO} : (μ ++ [a] ++ [c])[μ.length]? = some a := by simp
theorem two_set {μ : Mem} {a a' c : MO} : (μ ++ [a] ++ [c]).set μ.length a' = μ ++ [a'] ++ [c] := by simp
theorem two_last {μ : Mem} {a a' c : MO} : (μ ++ [a'] ++ [c])[(μ ++ [a]).length]? = some c := by simp
end L3

namespace L3
open PySem PySem.Spec L2 PyProof.Rows
/-! ### the box of the first: all stand in it, and not without one of its sides -/
/-! ### the plane turned and mirrored -/
section
variable {X : Cx} {P : Program} {w : World} {K : PySem.W.Frag} {mg : Str → Option Value} {base : Heap} {N : List Str} {sc : Scope} {k : Nat} {ρ ρ' : Env} {μ μ1 : Mem} {a b c e : Expr} {pos cp : Pos} {p q r : PV} {D : AEnds} {sts : List Stmt} {x : Str}
/-- list(a tuple): a new list -/
theorem DE.listTO {xs : List PV} (cx : CxD X P w K mg base N sc k) (hx : sc.names.lookup ("list" : Str) = some .globalImplicit) (hm : mg "list" = none) (ha : DE X e ρ μ (.tup xs) μ1)
    (he : starEach [e] X.env = (false, eval e X.env) :: starEach [] X.env := by rfl) (hpl : (backTo pos (starEach [] X.env)).any (·.1) = false := by rfl) :
    DE X (.Call (.Name "list" cp) [e] [] pos) ρ μ (.obj μ1.length) (μ1 ++ [.lst xs]) := fun ad σ H Q R f => by
  refine wE.of (pe_callTy call_list_of (cx.gl "list" hx) (by rw [cx.emg]; exact hm) rfl (pa_w _) (by decide) (by decide) he hpl) ((DA.cons ha DA.nil he) ad σ H _ R fun ad1 us H1 s1 m1 r1 => ?_)
  obtain ⟨u, e1, ru⟩ := r1.inv1
  obtain ⟨l, vs, e2, hq, rl⟩ := ru.tup_inv
  refine ⟨l, vs, by rw [e1, e2], .inr hq, fun d hd => ?_⟩
  have s2 : Stp (ad ++ ad1) [d] H1 (upd H1 d (.lst vs)) := Stp.fresh hd
  refine f (ad1 ++ [d]) _ _ (s1.trans s2) ?_ ?_
  · rw [← AD.append_assoc]
    exact m1.push hd ⟨vs, upd_same, RpL.mono (K := X.K) s2 xs vs rl⟩
  · rw [← AD.append_assoc]
    unfold Rp
    exact ⟨d, rfl, AD.at_snoc m1.len⟩
/-- a def that the module names otherwise than itself -/
structure DefAs (K : PySem.W.Frag) (mg : Str → Option Value) (g x : Str) (st : Stmt) (ps : List Str) : Prop where
  ex : ∃ f fd, Fun K x x st f fd ∧ mg g = some (.ref f) ∧ Binds K fd ps []
theorem DefAs.ok {g : Str} {st : Stmt} {ps : List Str} {A : ASp} (d : DefAs K mg g x st ps) (S : FnScope N ps (defScope st)) (len : ∀ args μ Q E, A args μ Q E → args.length = ps.length)
    (body : ∀ (X : Cx) (args : List PV) (μ : Mem) (Q : PV → Mem → Prop) (E : EX → Mem → Prop), CxF X P w K mg base N (defScope st) k → A args μ Q E → DSs X (defBody st) (entry N args) μ (fnEnds μ Q)) : FnA P w K mg base (k + 1) g A := by
  obtain ⟨f, fd, F, hm, hB⟩ := d.ex
  exact ⟨f, fd, ps, FnOk.ofA F S len body, hm, F.kp, hB⟩
end
end L3

namespace L3
open PySem PySem.Spec L2 PyProof.Rows
end L3

namespace L3
open PySem PySem.Spec L2 PyProof.Rows
/-! ### whole boxes: the plane turned, boxes parted -/
/-- the same numbers stand in both -/
def SameB (h : Fin 4) (t : Bool) (b : Bx) (h' : Fin 4) (t' : Bool) (b' : Bx) : Prop := ∀ n : Int, 0 ≤ n → (inB b' (plN h' t' n) ↔ inB b (plN h t n))
theorem SameB.refl (h : Fin 4) (t : Bool) (b : Bx) : SameB h t b h t b := fun _ _ => Iff.rfl
theorem big_D (b b' : Bx) : ∃ D : Nat, (-((D : Nat) : Int) ≤ b.1 ∧ b.2.2.1 ≤ D ∧ -((D : Nat) : Int) ≤ b.2.1 ∧ b.2.2.2 ≤ D) ∧ -((D : Nat) : Int) ≤ b'.1 ∧ b'.2.2.1 ≤ D ∧ -((D : Nat) : Int) ≤ b'.2.1 ∧ b'.2.2.2 ≤ D :=
  ⟨b.1.natAbs + b.2.1.natAbs + b.2.2.1.natAbs + b.2.2.2.natAbs + (b'.1.natAbs + b'.2.1.natAbs + b'.2.2.1.natAbs + b'.2.2.2.natAbs), ⟨by omega, by omega, by omega, by omega⟩, by omega, by omega, by omega, by omega⟩
/-- a box in two parts -/
def Part (b b1 b2 : Bx) : Prop := ∀ p : Int × Int, (inB b p ↔ (inB b1 p ∨ inB b2 p)) ∧ ¬ (inB b1 p ∧ inB b2 p)
theorem part_x {l lo r hi x : Int} (h1 : l ≤ x) (h2 : x < r) : Part (l, lo, r, hi) (l, lo, x, hi) (x + 1, lo, r, hi) := fun p => by
  unfold inB
  dsimp only
  omega
theorem part_y {l lo r hi y : Int} (h1 : lo ≤ y) (h2 : y < hi) : Part (l, lo, r, hi) (l, lo, r, y) (l, y + 1, r, hi) := fun p => by
  unfold inB
  dsimp only
  omega
theorem sumI_parts {lo : Int} {g g1 g2 : Int → Int} : ∀ {n : Nat}, (∀ i : Nat, i < n → g (lo + ((i : Nat) : Int)) = g1 (lo + ((i : Nat) : Int)) + g2 (lo + ((i : Nat) : Int))) → sumI lo n g = sumI lo n g1 + sumI lo n g2
  | 0, _ => rfl
  | n + 1, h => by
    show sumI lo n g + g _ = sumI lo n g1 + g1 _ + (sumI lo n g2 + g2 _)
    rw [sumI_parts fun i hi => h i (by omega), h n (by omega)]
    omega
theorem part_one {b b1 b2 : Bx} (hp : Part b b1 b2) (p : Int × Int) (v : Int) : (if inB b p then v else 0) = (if inB b1 p then v else 0) + (if inB b2 p then v else 0) := by
  obtain ⟨e, no⟩ := hp p
  by_cases c1 : inB b1 p
  · have c2 : ¬ inB b2 p := fun z => no ⟨c1, z⟩
    rw [if_pos c1, if_neg c2, if_pos (e.mpr (.inl c1)), Int.add_zero]
  · by_cases c2 : inB b2 p
    · rw [if_neg c1, if_pos c2, if_pos (e.mpr (.inr c2)), Int.zero_add]
    · rw [if_neg c1, if_neg c2, if_neg fun z => (e.mp z).elim c1 c2, Int.add_zero]
theorem part_W {h : Fin 4} {t : Bool} {b b1 b2 : Bx} (hp : Part b b1 b2) (f : Int → Int) : boxW f h t b = boxW f h t b1 + boxW f h t b2 := by
  obtain ⟨D, ⟨d1, d2, d3, d4⟩, e1, e2, e3, e4⟩ := big_D b b1
  obtain ⟨E, ⟨_, _, _, _⟩, g1, g2, g3, g4⟩ := big_D b b2
  rw [← box_far d1 d2 d3 d4 (N := sqN D + sqN E) (by omega), ← box_far e1 e2 e3 e4 (N := sqN D + sqN E) (by omega), ← box_far g1 g2 g3 g4 (N := sqN D + sqN E) (by omega)]
  exact sumI_parts fun i hi => part_one hp _ _
/-! ### one place, its ends, its counts -/
theorem one_nu (h : Fin 4) (t : Bool) (x y : Int) : nuL h t (x, y, x, y) (widB (x, y, x, y)) = [nuW h t (x, y)] := by
  have e1 : widB (x, y, x, y) = 1 := by
    show (x + 1 - x).toNat = 1
    omega
  have e2 : talB (x, y, x, y) = 1 := by
    show (y + 1 - y).toNat = 1
    omega
  rw [e1]
  unfold nuL nuC
  rw [e2]
  simp
theorem one_W (s : Int) (h : Fin 4) (t : Bool) (x y : Int) : boxW (fun n => s + n) h t (x, y, x, y) = s + nuW h t (x, y) := by
  rw [boxW_list, one_nu]
  simp
/-! ### a square round the middle -/
end L3

namespace L3
open PySem PySem.Spec L2 PyProof.Rows
/-! ### min of a list of pairs -/
section
variable {X : Cx} {μ : Mem} {p : PV}
end
end L3

namespace L3
open PySem PySem.Spec L2 PyProof.Rows
end L3

/-! L3: exceptions of classes without their own __init__: raised with a text, made by hand, their text; list + list as a new list. -/
namespace L3
open PySem PySem.Spec L2 PyProof.Rows
section
variable {X : Cx} {P : Program} {w : World} {K : PySem.W.Frag} {mg : Str → Option Value} {base : Heap} {N : List Str} {sc : Scope} {k j : Nat} {x y m : Str} {ρ ρ' : Env} {μ μ1 μ2 μ' : Mem} {p q r : PV} {e a b : Expr} {pos cp p1 p2 p3 p4 : Pos} {D : AEnds} {C : Addr} {jj : Nat}
/-! ### made by hand -/
/-! ### isinstance of it -/
/-! ### its text -/
/-! ### list + list: a new list -/
end
/-! ### an exception whose class has its own __init__, as a value -/
section
variable {X : Cx} {P : Program} {w : World} {K : PySem.W.Frag} {mg : Str → Option Value} {base : Heap} {N : List Str} {sc : Scope} {k j : Nat} {ρ ρ' : Env} {μ μ1 μ2 μ' : Mem} {e a b : Expr} {es : List Expr} {pos cp p p2 p3 : Pos} {D : AEnds} {st : Stmt} {C C0 : Addr} {n : Int} {y x : Str}
end
end L3

/-! L3: more of dicts with whole numbers or texts as keys: in, pop, sorted, walks over values and items (the dict locked); methods without arguments. -/
namespace L3
open PySem PySem.Spec L2 PyProof.Rows
section
variable {K : PySem.W.Frag} {ad : AD} {H : Hp}
theorem rp_keyV {kk : Key} : Rp ad K H (keyPV kk) (kV kk) := by
  cases kk <;> (unfold keyPV kV Rp; rfl)
end
section
variable {X : Cx} {P : Program} {w : World} {K : PySem.W.Frag} {mg : Str → Option Value} {base : Heap} {N : List Str} {sc : Scope} {k j n : Nat} {x m : Str} {A : ASp} {C : Addr} {ρ ρ' : Env} {μ μ1 μ2 μ' : Mem} {p q r : PV} {e o a b tg : Expr} {es : List Expr} {pos cp apos : Pos} {st : Stmt} {D : AEnds}
/-! ### the dict stands locked while the statement runs -/
/-- d.items() of a locked dict -/
theorem DI.items {kvs : List (Key × V)} {ks : List Key} {vs : List PV} {ob : Obj} {elts : List Expr} {kk : Nat} {tpos : Pos} (ho : DE X o ρ μ (.obj n) μ1) (hm : μ1[n]? = some (.lk ob kvs vs)) (hks : kvs.map (·.1) = ks)
    (hbase : attributeBase o "items" X.env (eval o X.env) = eval o X.env := by rfl) (hline : (apos.endLine == cp.line) = true := by rfl) :
    DI X (.Tuple elts kk tpos) (.Call (.Attribute o "items" apos) [] [] cp) ρ μ (pairsP ks vs) (fun m => m[n]? = some (.lk ob kvs vs)) μ1 :=
  ⟨_, pi_items (pe_w o) hbase hline, fun ad σ H R Rs hQ => ho ad σ H _ Rs fun ad1 v H1 s1 m1 r1 => by
    obtain ⟨l, e1, h1⟩ := r1.obj_inv
    obtain ⟨f1, rl⟩ := m1.mem n l _ h1 hm
    refine ⟨l, ob, kvs, e1, f1, hQ ad1 _ H1 s1 m1 fun ad' H2 μ2 kp m2 hM => ?_⟩
    subst e1
    obtain ⟨l', e2, h2⟩ := (kp _ _ r1).obj_inv
    cases e2
    obtain ⟨f2, rl2⟩ := m2.mem n l _ h2 hM
    have hl : vs.length = kvs.length := by
      have := rl2.length
      rwa [List.length_map] at this
    have hkl : ks.length = kvs.length := by rw [← hks, List.length_map]
    have hpl : (pairsP ks vs).length = kvs.length := by
      unfold pairsP
      rw [List.length_zipWith]
      omega
    refine ⟨fun i hi => ⟨f2, by omega⟩, ⟨f2, by omega⟩, fun i p x H3 e y => ?_⟩
    obtain ⟨T, kq, v, hk, rfl, hT, rfl⟩ := y
    unfold pairsP at e
    rw [List.getElem?_zipWith] at e
    have hkk : ks[i]? = some kq := by rw [← hks, List.getElem?_map, hk]; rfl
    rw [hkk] at e
    cases hvi : vs[i]? with
    | none => rw [hvi] at e; cases e
    | some pv =>
      rw [hvi] at e
      cases e
      obtain ⟨v', hv, rv⟩ := rl2.get hvi
      rw [List.getElem?_map, hk] at hv
      cases hv
      exact ⟨Stp.data hT, m2.data hT, Rp.pair hT m2 rp_keyV rv, Keep.fresh hT⟩⟩
end
end L3

/-! L3: kept marks: the dict of numbers and their places, sorted whole numbers, `a, o[i] = ..` from a list. -/
namespace L3
open PySem PySem.Spec L2 PyProof.Rows
/-! ### sorted -/
def srtI (xs : List Int) : List Int := xs.mergeSort (fun a b => decide (a ≤ b))
/-! ### the marks -/
def nmS (s : Int) (h : Fin 4) (t : Bool) (p : Int × Int) : Int := s + nuW h t p
def kpD (s : Int) (h : Fin 4) (t : Bool) (ps : List (Int × Int)) : MO := .dK (ps.map fun p => Sum.inl (nmS s h t p)) (ps.map ptP)
def kpO (C : Addr) (s : Int) (h : Fin 4) (t : Bool) (md : Nat) : MO := .ins C ["spiral", "marks"] [spP s h t, .obj md]
section
variable {s : Int} {h : Fin 4} {t : Bool}
/-! ### the eight places round one -/
/-! ### the nearest one -/
end
section
variable {X : Cx} {P : Program} {w : World} {K : PySem.W.Frag} {mg : Str → Option Value} {base : Heap} {N : List Str} {sc : Scope} {k : Nat} {x : Str} {ρ ρ' : Env} {μ μ1 μ2 μ' : Mem} {e a b : Expr} {pos px pt sp : Pos} {D : AEnds}
end
end L3

namespace L3
open PySem PySem.Spec L2 PyProof.Rows
section
variable {X : Cx} {μ : Mem} {p q : PV} {ns ms : List Int}
end
/-! ### the fields of kept marks -/
section
variable {a b : PV} {md : Nat}
end
end L3

namespace L3
open PySem PySem.Spec L2 PyProof.Rows
section
variable {X : Cx} {P : Program} {w : World} {K : PySem.W.Frag} {mg : Str → Option Value} {base : Heap} {N : List Str} {sc : Scope} {k n : Nat} {ρ : Env} {μ μ1 μ2 : Mem} {e o : Expr} {pos : Pos}
end
end L3

namespace L3
open PySem PySem.Spec L2 PyProof.Rows
/-- a place about which numbers are marked -/
def PtB (p : Int × Int) : Prop := -999999990 ≤ p.1 ∧ p.1 ≤ 999999990 ∧ -999999990 ≤ p.2 ∧ p.2 ≤ 999999990
section
variable {s : Int} {h : Fin 4} {t : Bool} {q p : Int × Int} {ps : List (Int × Int)} {zs : List Int} {i : Nat} {b : Option Int} {le : Int}
end
section
variable {X : Cx} {μ : Mem}
end
end L3

namespace L3
open PySem PySem.Spec L2 PyProof.Rows
/-- what marks keep -/
def MkOk (h : Fin 4) (t : Bool) (ps : List (Int × Int)) : Prop := ps.Nodup ∧ ps.length ≤ 60 ∧ ∀ p ∈ ps, nuW h t p ≤ 200000000000000000000
theorem MkOk.nil {h : Fin 4} {t : Bool} : MkOk h t [] := ⟨List.nodup_nil, by decide, nofun⟩
end L3

namespace L3
open PySem PySem.Spec L2 PyProof.Rows
section
variable {K : PySem.W.Frag} {ad : AD} {H : Hp}
end
section
variable {X : Cx} {P : Program} {w : World} {K : PySem.W.Frag} {mg : Str → Option Value} {base : Heap} {N : List Str} {sc : Scope} {k n : Nat} {ρ : Env} {μ μ1 μ2 : Mem} {o e tg : Expr} {cp pos : Pos} {D : AEnds} {sts : List Stmt}
end
/-! ### the marks about a place -/
end L3

namespace L3
open PySem PySem.Spec L2
/-! ### a comprehension over what is drawn -/
section
variable {X : Cx} {P : Program} {w : World} {K : PySem.W.Frag} {mg : Str → Option Value} {base : Heap} {N : List Str} {sc scope : Scope} {k j : Nat} {x : Str} {A : ASp} {ρ ρ' : Env} {μ μ1 μ2 μ3 μ' : Mem} {p q r : PV} {e a b c o tg : Expr} {es : List Expr} {pos cp : Pos} {D : AEnds} {kb : Bool} {st : Stmt} {sts : List Stmt}
end
/-- places about one, taken up row by row -/
def MarkI (bx bY : Int) (qs : List (Int × Int)) (i j : Nat) : Prop :=
  qs.Nodup ∧ qs.length ≤ 7 * i + j ∧ ∀ q ∈ qs, (bx - 3 ≤ q.1 ∧ q.1 ≤ bx + 3 ∧ bY - 3 ≤ q.2 ∧ q.2 ≤ bY + 3) ∧ (q.1 < bx + ((i : Nat) : Int) - 3 ∨ (q.1 = bx + ((i : Nat) : Int) - 3 ∧ q.2 < bY + ((j : Nat) : Int) - 3))
section
variable {bx bY : Int} {qs : List (Int × Int)} {i j : Nat}
theorem MarkI.old (m : MarkI bx bY qs i j) : MarkI bx bY qs i (j + 1) := ⟨m.1, by have := m.2.1; omega, fun q hq => by
  obtain ⟨h1, h2⟩ := m.2.2 q hq
  exact ⟨h1, by omega⟩⟩
theorem MarkI.new (m : MarkI bx bY qs i j) (hi : i < 7) (hj : j < 7) : MarkI bx bY (qs ++ [(bx + ((i : Nat) : Int) - 3, bY + ((j : Nat) : Int) - 3)]) i (j + 1) := by
  refine ⟨?_, ?_, fun q hq => ?_⟩
  · rw [List.nodup_append]
    refine ⟨m.1, by simp, fun a ha b hb e => ?_⟩
    rw [List.mem_singleton] at hb
    subst hb
    subst e
    obtain ⟨_, h2⟩ := m.2.2 _ ha
    dsimp only at h2
    omega
  · rw [List.length_append, List.length_singleton]
    have := m.2.1
    omega
  · rcases List.mem_append.mp hq with hq | hq
    · obtain ⟨h1, h2⟩ := m.2.2 q hq
      exact ⟨h1, by omega⟩
    · rw [List.mem_singleton.mp hq]
      dsimp only
      omega
theorem MarkI.row (m : MarkI bx bY qs i 7) : MarkI bx bY qs (i + 1) 0 := ⟨m.1, by have := m.2.1; omega, fun q hq => by
  obtain ⟨h1, h2⟩ := m.2.2 q hq
  exact ⟨h1, by omega⟩⟩
theorem MarkI.ok (m : MarkI bx bY qs 7 0) (h : Fin 4) (t : Bool) (hb : PtB (bx, bY)) : MkOk h t qs := by
  obtain ⟨b1, b2, b3, b4⟩ := hb
  dsimp only at b1 b2 b3 b4
  refine ⟨m.1, by have := m.2.1; omega, fun p hp => ?_⟩
  obtain ⟨h1, _⟩ := m.2.2 p hp
  have := nu_le h t (p := p) ⟨by omega, by omega, by omega, by omega⟩
  omega
end
end L3

/-! L3: a method that raises. -/
namespace L3
open PySem PySem.Spec L2 PyProof.Rows
section
variable {X : Cx} {CX : CXT} {k : Nat} {f C : Addr} {fd : FuncData} {ps : List Str} {sp : Sp} {E : L2.St → XK} {m : Str} {pos apos : Pos} {e o : Expr} {es : List Expr} {ta : TE} {t : TA}
def tMethS (C : Addr) (m : Str) (sp : Sp) (E : L2.St → XK) (ta : TE) (t : TA) : TE := fun σ H Q => ta σ H fun x H1 => ∃ a dx fs, x = .ref a ∧ H1 a = some (.ins C dx fs) ∧ fs.lookup m = none ∧ t σ H1 fun vs H2 => sp (x :: vs) H2 Q (E σ)
theorem pe_methS {pl : Sem Bool} (he : PE X o ta) (c : Cls X.K C) (hm : Meth X.K C m f) (F : FnOk X.prog X.w X.K X.mg X.base CX k f fd ps sp) (hr : Room k X.A) (hb : Binds X.K fd ps []) (hx : ∀ σ, PassesAt CX X σ (E σ)) (ha : PA X (e :: es) t)
    (hst : starEach (e :: es) X.env = (false, eval e X.env) :: starEach es X.env := by rfl) (hpl : (backTo pos (starEach es X.env)).any (·.1) = false := by rfl)
    (ht : eval (.Call (.Attribute o m apos) (e :: es) [] pos) X.env = (do
      let ov ← eval o X.env
      standAt apos.atName
      let (f, first) ← holding [ov] (getMethod ov m pl)
      callWith pos f first (backTo pos (starEach (e :: es) X.env)) (backToKw pos (keywordEach [] X.env))) := by rfl) :
    PE X (.Call (.Attribute o m apos) (e :: es) [] pos) (tMethS C m sp E ta t) := by
  refine ⟨fun pins s σ H Q I h => ?_⟩
  refine PySem.W.methodCall_KW (pl := pl) (thn (he.run pins s σ H _ I h) fun u s1 ⟨x, H1, I1, rx, a, dx, fs, ex, ea, l, q⟩ => ?_) ht
  subst ex
  obtain rfl : u = Value.ref a := rx
  refine getmeth_ok I1 ea c hm l ?_
  refine PySem.W.callWith_K (first := [.ref a]) (h₀ := X.base) I.ok.mod.kin hm.kp (thn (ha.run pos pins s1 σ H1 _ I1 q) fun us s2 ⟨vs, H2, I2, r, q2⟩ => ⟨I2.kIn, ?_⟩) hst hpl
  exact run_fnS (us := .ref a :: us) (vs := .ref a :: vs) F hr hb (hx σ) I2 (.cons rfl r) q2
end
section
variable {X : Cx} {P : Program} {w : World} {K : PySem.W.Frag} {mg : Str → Option Value} {base : Heap} {N : List Str} {sc : Scope} {k j n : Nat} {x m qual : Str} {A : ASp} {C : Addr} {ρ ρ' : Env} {μ μ1 μ2 μ' : Mem} {p q r : PV} {e o a b : Expr} {es : List Expr} {pos cp apos : Pos} {D : AEnds} {st : Stmt} {ps : List Str} {z : EX}
/-- o.m(e, ..), the method raises -/
theorem DX.meth {ps : List PV} {fs : List Str} {vs : List PV} {pl : Sem Bool} (cx : CxD X P w K mg base N sc k) (c : Cls K C) (I : MethA P w K mg base j C m A) (hj : j ≤ k) (ho : DE X o ρ μ (.obj n) μ1) (hm : μ1[n]? = some (.ins C fs vs)) (hl : (fs.zip vs).lookup m = none)
    (ha : DA X (e :: es) ρ μ1 ps μ2) (hA : A (.obj n :: ps) μ2 (fun _ _ => False) (fun y m => y = z ∧ m = μ'))
    (he : starEach (e :: es) X.env = (false, eval e X.env) :: starEach es X.env := by rfl) (hpl : (backTo pos (starEach es X.env)).any (·.1) = false := by rfl)
    (ht : eval (.Call (.Attribute o m apos) (e :: es) [] pos) X.env = (do
      let ov ← eval o X.env
      standAt apos.atName
      let (f, first) ← holding [ov] (getMethod ov m pl)
      callWith pos f first (backTo pos (starEach (e :: es) X.env)) (backToKw pos (keywordEach [] X.env))) := by rfl) :
    DX X (.Call (.Attribute o m apos) (e :: es) [] pos) ρ μ z μ' := fun ad σ H Q R f => by
  obtain ⟨fa, fd, pn, F, M, B⟩ := I.ex
  rw [← cx.eP, ← cx.ew, ← cx.eK, ← cx.emg, ← cx.eb] at F
  rw [← cx.eK] at M B c
  refine wE.of (pe_methS (E := L2.WE (X0 X)) (pe_w o) c M F (cx.room.mono hj) B (fun σ => passAt takesX0 σ) (pa_w _) he hpl ht) (ho ad σ H _ R fun ad1 v H1 s1 m1 r1 => ?_)
  obtain ⟨l, e1, h1⟩ := r1.obj_inv
  obtain ⟨dx, ws, hws, hlen, rl⟩ := m1.mem n l _ h1 hm
  refine ⟨l, dx, _, e1, hws, fld_no rl hlen hl, ?_⟩
  refine ha (ad ++ ad1) σ H1 _ (R.mono s1 m1) fun ad2 us H2 s2 m2 r2 => ?_
  refine ⟨ad ++ ad1 ++ ad2, μ2, .obj n :: ps, _, _, m2, RpL.cons (r1.mono s2) r2, hA, fun _ _ _ _ _ _ _ _ hq => hq.elim, fun ad3 H' μ3 y cls d s m rx hz => ?_⟩
  obtain ⟨rfl, rfl⟩ := hz
  have e2 : ad ++ (ad1 ++ (ad2 ++ ad3)) = ad ++ ad1 ++ ad2 ++ ad3 := by rw [AD.append_assoc, AD.append_assoc]
  have st := s1.trans (s2.trans s)
  have m' : Mst (ad ++ (ad1 ++ (ad2 ++ ad3))) X.K H' μ3 := by rw [e2]; exact m
  exact f (ad1 ++ (ad2 ++ ad3)) H' cls d st (R.mono st m') (by rw [e2]; exact rx)
end
end L3

/-! L3: what marks tell, whole: any order, turned, greater; list(a list) as an object; sorted pairs. -/
namespace L3
open PySem PySem.Spec L2 PyProof.Rows
section
variable {X : Cx} {P : Program} {w : World} {K : PySem.W.Frag} {mg : Str → Option Value} {base : Heap} {N : List Str} {sc : Scope} {k : Nat} {ρ : Env} {μ μ1 : Mem} {e : Expr} {pos cp : Pos} {p q : PV}
end
/-! ### sorted pairs -/
section
variable {K : PySem.W.Frag} {ad : AD} {H : Hp}
end
section
variable {X : Cx} {μ : Mem} {p : PV}
end
/-! ### what marks tell -/
section
variable {s m : Int} {h : Fin 4} {t : Bool} {q p1 : Int × Int} {ps qs : List (Int × Int)} {b : Bx}
def nowR (s : Int) (h : Fin 4) (t : Bool) (ps : List (Int × Int)) : List Int := srtI (ps.map (nmS s h t))
theorem MkOk.left (M : MkOk h t ps) : MkOk (h + 1) t (ps.map lefP) := by
  refine ⟨?_, by rw [List.length_map]; exact M.2.1, fun p hp => ?_⟩
  · unfold List.Nodup
    rw [List.pairwise_map]
    have := M.1
    unfold List.Nodup at this
    refine this.imp fun {a b} hne e => hne ?_
    have e1 := congrArg Prod.fst e
    have e2 := congrArg Prod.snd e
    unfold lefP at e1 e2
    dsimp only at e1 e2
    exact Prod.ext e2 (by omega)
  · obtain ⟨r, hr, rfl⟩ := List.mem_map.mp hp
    rw [nuW_left]
    exact M.2.2 r hr
end
/-! ### compared -/
section
variable {X : Cx} {μ : Mem} {p q : PV} {o : Option Int} {c : Int} {A N : List Int}
end
/-! ### new kept marks in the store; lists cut and made again -/
section
variable {μ : Mem} {a b c : MO} {C : Addr} {s m : Int} {h : Fin 4} {t : Bool} {ps qs : List (Int × Int)} {q p : Int × Int}
theorem MkOk.filter (M : MkOk h t ps) (f : Int × Int → Bool) : MkOk h t (ps.filter f) :=
  ⟨M.1.filter f, Nat.le_trans (List.length_filter_le _ _) M.2.1, fun r hr => M.2.2 r (List.mem_filter.mp hr).1⟩
end
end L3

/-! L3: marks refused. -/
namespace L3
open PySem PySem.Spec L2 PyProof.Rows
section
variable {X : Cx} {μ : Mem} {p : PV}
end
section
variable {X : Cx} {μ : Mem}
end
section
variable {s : Int} {h : Fin 4} {t : Bool} {ps : List (Int × Int)} {p : Int × Int}
end
section
variable {X : Cx} {ρ : Env} {μ μ1 μ2 : Mem} {a b : Expr} {es : List Expr} {pos : Pos} {k2 : Bool}
end
end L3

/-! L3: f-strings, a list by a step of 1 or -1, str of a text, an instance made of nothing, tuples of texts of the module. -/
namespace L3
open PySem PySem.Spec L2 TL PyProof.Rows
/-! ### f-strings -/
section
variable {X : Cx} {P : Program} {w : World} {K : PySem.W.Frag} {mg : Str → Option Value} {base : Heap} {N : List Str} {sc : Scope} {k j n : Nat} {x m qual f : Str} {A : ASp} {C : Addr} {ρ ρ' : Env} {μ μ1 μ2 μ' : Mem} {p q r : PV} {e o a b v1 v2 : Expr} {es : List Expr} {pos cp : Pos} {D : AEnds} {i : Int}
def DJ (X : Cx) (es : List Expr) (ρ : Env) (μ : Mem) (acc out : Str) : Prop :=
  ∃ ts, PJ X es ts ∧ ∀ (ad : AD) σ H (Q : Str → Hp → Prop), Rst ad X.K H σ ρ μ → (∀ ad2 H', Stp ad ad2 H H' → Mst (ad ++ ad2) X.K H' μ → Q out H') → tJs ts acc σ H Q
theorem DJ.nil {acc : Str} : DJ X [] ρ μ acc acc := ⟨[], .nil, fun ad σ H Q R h => h [] H Stp.refl (by rw [AD.append_nil]; exact R.m)⟩
theorem DJ.cons {acc out y : Str} (h : DE X e ρ μ (.str y) μ) (hl : acc.length + y.length ≤ sizeLine) (t : DJ X es ρ μ (acc ++ y) out) : DJ X (e :: es) ρ μ acc out := by
  obtain ⟨ts, hp, ht⟩ := t
  refine ⟨_, .cons (pe_w e) hp, fun ad σ H Q R hQ => ?_⟩
  show wE X e σ H _
  refine h ad σ H _ R fun ad1 v H1 s1 m1 r1 => ?_
  refine ⟨y, r1.str_inv, by rw [Str.length_append]; exact hl, ?_⟩
  refine ht (ad ++ ad1) σ H1 Q (R.mono s1 m1) fun ad2 H2 s2 m2 => ?_
  exact hQ (ad1 ++ ad2) H2 (s1.trans s2) (by rw [← AD.append_assoc]; exact m2)
end
/-! ### a step of 1 or -1 -/
section
variable {X : Cx} {e b : Expr} {te ts : TE} {p3 pos : Pos}
end
section
variable {X : Cx} {ρ : Env} {μ μ1 : Mem} {p : PV} {e b : Expr} {p3 pos : Pos}
end
end L3

/-! L3: the texts of lines and answers. -/
namespace L3
open PySem PySem.Spec L2 TL PyProof.Rows
section
variable {X : Cx} {μ : Mem} {p q : PV}
end
section
variable {K : PySem.W.Frag} {a : Addr} {n : Nat} {x1 x2 x3 x4 x5 : Str} {t1 t2 t3 t4 t5 : Tok}
end
/-! ### words -/
theorem strOk_of {z : Str} (h : ∀ c ∈ tl z, c < 0x110000) : PyData.strOk z = true := by
  unfold PyData.strOk
  rw [Array.all_eq_true']
  intro c hc
  exact decide_eq_true (h c (Array.mem_toList_iff.mpr hc))
/-! ### lists of texts compared -/
section
variable {X : Cx} {μ : Mem} {p q : PV} {as : List Str}
end
/-! ### numbers in words -/
/-! ### a row of numbers or texts -/
def RowOk (x : PV) : Prop := (∃ z, x = .int z ∧ B 100 z) ∨ ∃ s : Str, x = .str s ∧ s.length ≤ 32
end L3

/-! L3: the desk: its fields, its questions' words. -/
namespace L3
open PySem PySem.Spec L2 TL PyProof.Rows
def dkO (C : Addr) (s : Int) (h : Fin 4) (t : Bool) (kn : Nat) : MO := .ins C ["spiral", "kept"] [spP s h t, .obj kn]
section
variable {a b : PV} {C : Addr}
end
/-! ### what is told of a number -/
end L3

/-! L3: the desk: bounds, words, rings by their last corner. -/
namespace L3
open PySem PySem.Spec L2 TL PyProof.Rows
section
variable {s : Int} {h : Fin 4} {t : Bool} {p : Int × Int} {r : Int}
/-! ### bounds -/
end
/-! ### the number at a place, by its ring's last corner -/
end L3

/-! L3: the desk's law: a run by its ring's corners; a pair's place in a list; texts put together. -/
namespace L3
open PySem PySem.Spec L2 TL PyProof.Rows
section
variable {X : Cx} {μ : Mem} {p : PV}
end
/-! ### runs by corners -/
def ixS : Fin 4 → Nat := fun g => match g with | 0 => 0 | 1 => 2 | 2 => 1 | 3 => 3
/-! ### texts put together -/
end L3

/-! L3: the desk's law: small facts. -/
namespace L3
open PySem PySem.Spec L2 TL PyProof.Rows
section
variable {s m : Int} {h : Fin 4} {t : Bool} {p : Int × Int}
end
end L3

/-! L3: what is held and compared again. -/
namespace L3
open PySem PySem.Spec L2 TL PyProof.Rows
section
variable {X : Cx} {μ : Mem}
end
end L3

/-! L3: the desk's sums: bounds, words, parts of boxes. -/
namespace L3
open PySem PySem.Spec L2 TL PyProof.Rows
section
variable {s : Int} {h : Fin 4} {t : Bool} {b : Bx}
/-- the box's corners, as far as words go -/
theorem bx_near (hb : BxOk b) (hs : BxS b) : (-1000000000 ≤ b.1 ∧ b.1 ≤ 1000000000) ∧ (-1000000000 ≤ b.2.1 ∧ b.2.1 ≤ 1000000000) ∧ (-1000000000 ≤ b.2.2.1 ∧ b.2.2.1 ≤ 1000000000) ∧ (-1000000000 ≤ b.2.2.2 ∧ b.2.2.2 ≤ 1000000000) := by
  obtain ⟨o1, o2⟩ := hb
  obtain ⟨q1, q2, q3, q4⟩ := hs
  omega
end
end L3

/-! L3: the desk's marks: what is told of them, what changes them. -/
namespace L3
open PySem PySem.Spec L2 TL PyProof.Rows
section
variable {s : Int} {h : Fin 4} {t : Bool} {ps : List (Int × Int)} {p q : Int × Int} {b : Bx}
def chP (b : Bool) (ps : List (Int × Int)) (p : Int × Int) : List (Int × Int) := if b = true then ps ++ [p] else ps.filter fun r => decide (r ≠ p)
/-! ### the law's marks -/
def NumOk (k z : Int) : Prop := (z ≤ 6000000000000000000 + 100 * k ∨ 99999999999999990000 - 100 * k ≤ z) ∧ z ≤ 99999999999999999999
def PsOk (k s : Int) (h : Fin 4) (t : Bool) (ps : List (Int × Int)) : Prop := ps.Nodup ∧ ps.length ≤ 60 ∧ ∀ p ∈ ps, NumOk k (nmS s h t p)
theorem PsOk.nil {k : Int} : PsOk k s h t [] := ⟨List.nodup_nil, by decide, nofun⟩
theorem NumOk.mono {k k' z : Int} (h : NumOk k z) (hk : k ≤ k') : NumOk k' z := by
  unfold NumOk at *
  omega
theorem PsOk.mono {k k' : Int} (h1 : PsOk k s h t ps) (hk : k ≤ k') : PsOk k' s h t ps := ⟨h1.1, h1.2.1, fun p hp => (h1.2.2 p hp).mono hk⟩
/-- the desk, its kept marks and their dict -/
def Dsk (CK CD : Addr) (μ : Mem) (n kn md : Nat) (s : Int) (h : Fin 4) (t : Bool) (ps : List (Int × Int)) : Prop := μ[n]? = some (dkO CD s h t kn) ∧ μ[kn]? = some (kpO CK s h t md) ∧ μ[md]? = some (kpD s h t ps)
/-- all but the desk's own stays -/
def Frm (μ μ' : Mem) (n md : Nat) : Prop := μ.length ≤ μ'.length ∧ ∀ i : Nat, i < μ.length → i ≠ n → i ≠ md → μ'[i]? = μ[i]?
theorem Dsk.set {CK CD : Addr} {μ : Mem} {n kn md k : Nat} {y : MO} (d : Dsk CK CD μ n kn md s h t ps) (h1 : k ≠ n) (h2 : k ≠ kn) (h3 : k ≠ md) : Dsk CK CD (μ.set k y) n kn md s h t ps :=
  ⟨by rw [List.getElem?_set_ne h1]; exact d.1, by rw [List.getElem?_set_ne h2]; exact d.2.1, by rw [List.getElem?_set_ne h3]; exact d.2.2⟩
theorem Dsk.frm {CK CD : Addr} {μ μ' : Mem} {n kn md n1 md1 : Nat} (d : Dsk CK CD μ n kn md s h t ps) (f : Frm μ μ' n1 md1) (h1 : n ≠ n1 ∧ n ≠ md1) (h2 : kn ≠ n1 ∧ kn ≠ md1) (h3 : md ≠ n1 ∧ md ≠ md1) : Dsk CK CD μ' n kn md s h t ps :=
  ⟨(f.2 n (List.getElem?_eq_some_iff.mp d.1).1 h1.1 h1.2).trans d.1, (f.2 kn (List.getElem?_eq_some_iff.mp d.2.1).1 h2.1 h2.2).trans d.2.1, (f.2 md (List.getElem?_eq_some_iff.mp d.2.2).1 h3.1 h3.2).trans d.2.2⟩
section
variable {μ l : Mem} {n md kn : Nat} {x : MO} {CK CD : Addr} {ps' : List (Int × Int)} {s' : Int} {h' : Fin 4} {t' : Bool}
end
end
end L3

/-! L3: deeds drawn: numbers not yet marked, rows of marks. -/
namespace L3
open PySem PySem.Spec L2 TL PyProof.Rows
section
variable {s : Int} {h : Fin 4} {t : Bool} {ps : List (Int × Int)} {p q : Int × Int} {b : Bx}
theorem PsOk.off {k : Int} (ho : PsOk k s h t ps) : PsOk (k + 1) s h t (chP false ps p) := by
  obtain ⟨h1, h2, h3⟩ := ho
  refine ⟨h1.sublist List.filter_sublist, Nat.le_trans (List.length_filter_le _ _) h2, fun r hr => ?_⟩
  exact (h3 r (List.mem_filter.mp hr).1).mono (by omega)
end
section
variable {X : Cx} {P : Program} {w : World} {K : PySem.W.Frag} {mg : Str → Option Value} {base : Heap} {N : List Str} {sc : Scope} {k j n : Nat} {ρ : Env} {μ μ1 μ2 : Mem} {m : Str} {A : ASp} {C : Addr} {o e : Expr} {es : List Expr} {pos apos : Pos} {ps : List PV} {fs : List Str} {vs : List PV} {pl : Sem Bool}
/-- o.m(e, ..), whatever it promises -/
theorem WE.meth {Qa : PV → Mem → Prop} (cx : CxD X P w K mg base N sc k) (c : Cls K C) (I : MethA P w K mg base j C m A) (hj : j ≤ k) (ho : DE X o ρ μ (.obj n) μ1) (hm : μ1[n]? = some (.ins C fs vs)) (hl : (fs.zip vs).lookup m = none)
    (ha : DA X (e :: es) ρ μ1 ps μ2) (hA : A (.obj n :: ps) μ2 Qa (fun _ _ => False))
    (he : starEach (e :: es) X.env = (false, eval e X.env) :: starEach es X.env := by rfl) (hpl : (backTo pos (starEach es X.env)).any (·.1) = false := by rfl)
    (ht : eval (.Call (.Attribute o m apos) (e :: es) [] pos) X.env = (do
      let ov ← eval o X.env
      standAt apos.atName
      let (f, first) ← holding [ov] (getMethod ov m pl)
      callWith pos f first (backTo pos (starEach (e :: es) X.env)) (backToKw pos (keywordEach [] X.env))) := by rfl) :
    WE X (.Call (.Attribute o m apos) (e :: es) [] pos) ρ μ Qa := fun ad σ H Q R g => by
  obtain ⟨f, fd, pn, F, M, B⟩ := I.ex
  rw [← cx.eP, ← cx.ew, ← cx.eK, ← cx.emg, ← cx.eb] at F
  rw [← cx.eK] at M B c
  refine wE.of (pe_meth (pe_w o) c M F (cx.room.mono hj) B .nil passE0 (pa_w _) he hpl ht) (ho ad σ H _ R fun ad1 v H1 s1 m1 r1 => ?_)
  obtain ⟨l, e1, h1⟩ := r1.obj_inv
  obtain ⟨dx, ws, hws, hlen, rl⟩ := m1.mem n l _ h1 hm
  refine ⟨l, dx, _, e1, hws, fld_no rl hlen hl, ?_⟩
  refine ha (ad ++ ad1) σ H1 _ (R.mono s1 m1) fun ad2 us H2 s2 m2 r2 => ?_
  rw [List.append_nil]
  refine ⟨ad ++ ad1 ++ ad2, μ2, .obj n :: ps, _, _, m2, RpL.cons (r1.mono s2) r2, hA, fun ad3 H' μ3 r v s m rr hq => ?_, fun _ _ _ _ _ _ _ _ _ h => h.elim⟩
  have e : ad ++ (ad1 ++ (ad2 ++ ad3)) = ad ++ ad1 ++ ad2 ++ ad3 := by rw [AD.append_assoc, AD.append_assoc]
  refine g (ad1 ++ (ad2 ++ ad3)) v H' r μ3 (s1.trans (s2.trans s)) ?_ ?_ hq
  · rw [e]; exact m
  · rw [e]; exact rr
end
end L3

/-! L3: targets that are items of lists; texts in f-strings. -/
namespace L3
open PySem PySem.Spec L2 TL PyProof.Rows
section
variable {X : Cx} {ad : AD} {ad2 : List Addr} {σ : L2.St} {H H' : Hp} {ρ ρ' ρ1 ρ2 : Env} {μ μ1 μ2 μ' : Mem} {p q r : PV} {e a b c tg : Expr} {es : List Expr} {pos sp : Pos} {D : AEnds} {ps : List PV}
/-- a target that may write into lists -/
def DGm (X : Cx) (tg : Expr) (p : PV) (ρ : Env) (μ : Mem) (ρ' : Env) (μ' : Mem) : Prop :=
  ∀ ad σ H v (Q : L2.St → Hp → Prop), Rst ad X.K H σ ρ μ → Rp ad X.K H p v → (∀ ad2 σ' H', Stp ad ad2 H H' → Rst (ad ++ ad2) X.K H' σ' ρ' μ' → Q σ' H') → wG X tg v σ H Q
theorem DGm.of (h : DG X tg p ρ μ ρ') : DGm X tg p ρ μ ρ' μ := fun ad σ H v Q R r hQ => h ad σ H v Q R r fun σ' R' => hQ [] σ' H Stp.refl (by rwa [AD.append_nil])
theorem DGm.sub {n : Nat} {i : Int} {j : Nat} {xs : List PV} (ho : DE X a ρ μ (.obj n) μ) (hi : DE X b ρ μ (.int i) μ) (hm : μ[n]? = some (.lst xs)) (hj : ixN xs.length i = some j)
    (ha : ∀ v, assign (.Subscript a b sp) X.env v = (do
      let ov ← holding [v] (eval a X.env)
      let iv ← holding [v, ov] (eval b X.env)
      standAt sp
      holding [v, ov, iv] (setItem ov iv v)
      release [v, ov, iv] []) := by intro _; rfl) : DGm X (.Subscript a b sp) p ρ μ ρ (μ.set n (.lst (xs.set j p))) := fun ad σ H v Q R r hQ => by
  refine wG.of (pg_sub (pe_w a) (pe_w b) set_list ha) ?_
  refine ho ad σ H _ R fun ad2 o H2 s2 m2 r2 => ?_
  refine hi (ad ++ ad2) σ H2 _ (R.mono s2 m2) fun ad3 iv H3 s3 m3 r3 => ?_
  obtain ⟨l, e1, h1⟩ := (r2.mono s3).obj_inv
  obtain ⟨vs, hvs, rl⟩ := m3.mem n l _ h1 hm
  refine ⟨l, vs, i, j, e1, r3.int_inv, hvs, by rw [← rl.length]; exact hj, ?_⟩
  have s4 : Stp (ad ++ ad2 ++ ad3) [] H3 (upd H3 l (.lst (vs.set j v))) := Stp.write h1
  have m4 := m3.write (o := .lst (vs.set j v)) (m := .lst (xs.set j p)) h1 ⟨_, upd_same, (rl.set j ((r.mono s2).mono s3)).wr h1⟩
  have R3 : Rst (ad ++ ad2 ++ ad3) X.K H3 σ ρ μ := (R.mono s2 m2).mono s3 m3
  have m4' : Mst (ad ++ ad2 ++ ad3 ++ ([] : List Addr)) X.K (upd H3 l (.lst (vs.set j v))) (μ.set n (.lst (xs.set j p))) := by rw [AD.append_nil]; exact m4
  have R4 := R3.mono s4 m4'
  refine hQ (ad2 ++ (ad3 ++ [])) σ _ (s2.trans (s3.trans s4)) ?_
  have e : ad ++ (ad2 ++ (ad3 ++ [])) = ad ++ ad2 ++ ad3 ++ ([] : List Addr) := by rw [AD.append_assoc, AD.append_assoc]
  rw [e]
  exact R4
def DGms (X : Cx) (ts : List Expr) (ps : List PV) (ρ : Env) (μ : Mem) (ρ' : Env) (μ' : Mem) : Prop :=
  ∃ t, PGs X ts t ∧ ∀ ad σ H vs (Q : L2.St → Hp → Prop), Rst ad X.K H σ ρ μ → RpL ad X.K H ps vs → (∀ ad2 σ' H', Stp ad ad2 H H' → Rst (ad ++ ad2) X.K H' σ' ρ' μ' → Q σ' H') → t vs σ H Q
theorem DGms.nil : DGms X [] [] ρ μ ρ μ := ⟨gNil, pgs_nil, fun ad σ H vs Q R r h => by
  unfold RpL at r
  exact ⟨r, h [] σ H Stp.refl (by rwa [AD.append_nil])⟩⟩
theorem DGms.cons (h : DGm X e p ρ μ ρ1 μ1) (t : DGms X es ps ρ1 μ1 ρ2 μ2) (hs : assignEach (e :: es) X.env = (false, assign e X.env) :: assignEach es X.env := by rfl) : DGms X (e :: es) (p :: ps) ρ μ ρ2 μ2 := by
  obtain ⟨tt, hp, ht⟩ := t
  refine ⟨_, pgs_cons (pg_w e) hp (by first | exact hs | (rw [hs]; rfl)), fun ad σ H vs Q R r hQ => ?_⟩
  unfold RpL at r
  obtain ⟨v, vs', e1, r1, r2⟩ := r
  refine ⟨v, vs', e1, h ad σ H v _ R r1 fun ad2 σ1 H1 s1 R1 => ht (ad ++ ad2) σ1 H1 vs' Q R1 (r2.mono s1) fun ad3 σ' H' s2 R2 => ?_⟩
  refine hQ (ad2 ++ ad3) σ' H' (s1.trans s2) ?_
  rw [← AD.append_assoc]
  exact R2
theorem DGm.lst {ts : List Expr} {j : Nat} (hc : X.calm = true) (hl : asL μ p = some ps) (h : DGms X ts ps ρ μ ρ' μ') (hn : (assignEach ts X.env).length = ps.length := by rfl) (hst : (assignEach ts X.env).findIdx? (·.1) = none := by rfl) : DGm X (.Tuple ts j pos) p ρ μ ρ' μ' := by
  obtain ⟨tt, hp, ht⟩ := h
  intro ad σ H v Q R r hQ
  obtain ⟨a, vs, e1, h1, r1⟩ := r.asL_inv hl R.m
  exact wG.of (pg_unl (n := ps.length) hc hp hn hst) ⟨a, vs, e1, h1, r1.length.symm, ht ad σ H vs Q R r1 hQ⟩
theorem DGm.tup {ts : List Expr} {j : Nat} (hc : X.calm = true) (h : DGms X ts ps ρ μ ρ' μ') (hn : (assignEach ts X.env).length = ps.length := by rfl) (hst : (assignEach ts X.env).findIdx? (·.1) = none := by rfl) : DGm X (.Tuple ts j pos) (.tup ps) ρ μ ρ' μ' := by
  obtain ⟨tt, hp, ht⟩ := h
  intro ad σ H v Q R r hQ
  obtain ⟨a, vs, e1, h1, r1⟩ := r.tup_inv
  exact wG.of (pg_tup (n := ps.length) hc hp hn hst) ⟨a, vs, e1, h1, r1.length.symm, ht ad σ H vs Q R r1 hQ⟩
end
end L3

/-! L3: two desks: rows joined, marks put again, what stands where. -/
namespace L3
open PySem PySem.Spec L2 TL PyProof.Rows
def RowB (x : PV) : Prop := (∃ z, x = .int z ∧ B 140 z) ∨ ∃ s : Str, x = .str s ∧ s.length ≤ 44
theorem RowOk.b {x : PV} (h : RowOk x) : RowB x := by
  rcases h with ⟨z, rfl, bz⟩ | ⟨s, rfl, hs⟩
  · exact .inl ⟨z, rfl, B.le bz (by decide)⟩
  · exact .inr ⟨s, rfl, by omega⟩
section
variable {s : Int} {h : Fin 4} {t : Bool} {ps : List (Int × Int)} {p q : Int × Int} {b : Bx} {μ : Mem}
/-- one of the desks: its list, itself, its marks -/
def Own (CK CD : Addr) (M : Mem) (k : Int) (l n kn md : Nat) (s : Int) (h : Fin 4) (t : Bool) (ps : List (Int × Int)) : Prop :=
  M[l]? = some (.lst [.obj n, spP s h t, .lst ((nowR s h t ps).map PV.int)]) ∧ Dsk CK CD M n kn md s h t ps ∧ (-1000000000000000000 ≤ s ∧ s ≤ 1000000000000000000) ∧ PsOk k s h t ps
theorem Own.mono {CK CD : Addr} {M : Mem} {k k' : Int} {l n kn md : Nat} (o : Own CK CD M k l n kn md s h t ps) (hk : k ≤ k') : Own CK CD M k' l n kn md s h t ps := ⟨o.1, o.2.1, o.2.2.1, o.2.2.2.mono hk⟩
/-- another list is written -/
theorem Own.setL {CK CD : Addr} {M : Mem} {k : Int} {l n kn md j : Nat} {xs ys : List PV} (o : Own CK CD M k l n kn md s h t ps) (hj : M[j]? = some (.lst xs)) (hl : j ≠ l) : Own CK CD (M.set j (.lst ys)) k l n kn md s h t ps := by
  obtain ⟨o1, ⟨d1, d2, d3⟩, o3⟩ := o
  have ne : ∀ {a : Nat} {y : MO}, M[a]? = some y → (∀ zs, y ≠ .lst zs) → j ≠ a := fun {a y} e1 e2 e => by
    subst e
    rw [hj] at e1
    cases e1
    exact e2 _ rfl
  refine ⟨by rw [List.getElem?_set_ne hl]; exact o1, Dsk.set ⟨d1, d2, d3⟩ (ne d1 fun _ e => by cases e) (ne d2 fun _ e => by cases e) (ne d3 fun _ e => by cases e), o3⟩
theorem Own.seed {CK CD : Addr} {M : Mem} {k : Int} {l n kn md j : Nat} {d d' : DeckC} (o : Own CK CD M k l n kn md s h t ps) (hj : M[j]? = some (seMO d)) (hl : j ≠ l) : Own CK CD (M.set j (seMO d')) k l n kn md s h t ps := o.setL hj hl
/-- apart from the other desk's -/
def Apt (l n md l' n' md' : Nat) : Prop := l ≠ l' ∧ n ≠ n' ∧ md ≠ md'
theorem Own.lt {CK CD : Addr} {M : Mem} {k : Int} {l n kn md : Nat} (o : Own CK CD M k l n kn md s h t ps) : l < M.length ∧ n < M.length ∧ kn < M.length ∧ md < M.length :=
  ⟨(List.getElem?_eq_some_iff.mp o.1).1, (List.getElem?_eq_some_iff.mp o.2.1.1).1, (List.getElem?_eq_some_iff.mp o.2.1.2.1).1, (List.getElem?_eq_some_iff.mp o.2.1.2.2).1⟩
theorem dk_kp {C C' : Addr} {s' : Int} {h' : Fin 4} {t' : Bool} {a a' : Nat} (e : dkO C s h t a = kpO C' s' h' t' a') : False := by
  unfold dkO kpO at e
  injection e with _ e2 _
  have : ("kept" : Str) = "marks" := by
    have := congrArg (fun l : List Str => l[1]?) e2
    exact Option.some.inj this
  exact absurd this (by decide +kernel)
/-- kinds differ -/
theorem Own.ne {CK CD : Addr} {M : Mem} {k k' : Int} {l n kn md l' n' kn' md' : Nat} {s' : Int} {h' : Fin 4} {t' : Bool} {ps' : List (Int × Int)} (o : Own CK CD M k l n kn md s h t ps) (o' : Own CK CD M k' l' n' kn' md' s' h' t' ps') :
    l ≠ n' ∧ l ≠ kn' ∧ l ≠ md' ∧ n ≠ l' ∧ n ≠ kn' ∧ n ≠ md' ∧ kn ≠ l' ∧ kn ≠ n' ∧ kn ≠ md' ∧ md ≠ l' ∧ md ≠ n' ∧ md ≠ kn' := by
  obtain ⟨o1, ⟨d1, d2, d3⟩, _⟩ := o
  obtain ⟨p1, ⟨e1, e2, e3⟩, _⟩ := o'
  refine ⟨fun e => ?_, fun e => ?_, fun e => ?_, fun e => ?_, fun e => ?_, fun e => ?_, fun e => ?_, fun e => ?_, fun e => ?_, fun e => ?_, fun e => ?_, fun e => ?_⟩
  · subst e; rw [o1] at e1; cases e1
  · subst e; rw [o1] at e2; cases e2
  · subst e; rw [o1] at e3; cases e3
  · subst e; rw [d1] at p1; cases p1
  · subst e; rw [d1] at e2; exact dk_kp (Option.some.inj e2)
  · subst e; rw [d1] at e3; cases e3
  · subst e; rw [d2] at p1; cases p1
  · subst e; rw [d2] at e1; exact dk_kp (Option.some.inj e1).symm
  · subst e; rw [d2] at e3; cases e3
  · subst e; rw [d3] at p1; cases p1
  · subst e; rw [d3] at e1; cases e1
  · subst e; rw [d3] at e2; cases e2
/-- the other desk changed -/
theorem Own.frm {CK CD : Addr} {M M' : Mem} {k k' : Int} {l n kn md l' n' kn' md' : Nat} {s' : Int} {h' : Fin 4} {t' : Bool} {ps' : List (Int × Int)} (o : Own CK CD M k l n kn md s h t ps) (o' : Own CK CD M k' l' n' kn' md' s' h' t' ps') (f : Frm M M' n' md') (a : Apt l n md l' n' md') : Own CK CD M' k l n kn md s h t ps := by
  obtain ⟨q1, q2, q3, q4, q5, q6, q7, q8, q9, q10, q11, q12⟩ := o.ne o'
  obtain ⟨a1, a2, a3⟩ := a
  obtain ⟨o1, o2, o3⟩ := o
  exact ⟨(f.2 l (List.getElem?_eq_some_iff.mp o1).1 q1 q3).trans o1, o2.frm f ⟨a2, q6⟩ ⟨q8, q9⟩ ⟨q11, a3⟩, o3⟩
end
end L3

/-! L3: sorted(set(xs)), xs a list of whole numbers. -/
namespace L2
open PySem PySem.Spec PyProof.Rows
section
variable {P : Program} {w : World} {A : Around} {E : Value → Shared → Prop} {s : Shared}
def newSet (w : World) : Obj := { cls := .type "set", dict := none, data := .set #[] 0 (.fresh 0 0 (!w.params.followText "set-order")) }
/-- set(xs) keeps the order in which it was filled -/
theorem set_of_list {l : Addr} {items : Array Value} (ns : List Int) {Q : Value → Shared → Prop} (hh : A.handled = none) (hl : s.heap.IsList l items) (hit : IntsAre items.toList ns) (hb : ns.length + 1 < scanBound)
    (h : ∀ (h' : Heap) (tk c : Nat), SetR w h' s.heap.objs.size (fun j => decide (j ∈ ns)) c → c ≤ ns.length → (∀ b o, s.heap.get? b = some o → h'.get? b = some o) → Q (.ref s.heap.objs.size) { s with heap := h', toks := tk }) :
    wpAny (model P w) A (call (.type "set") [.ref l]) Q E s := by
  have len : items.size = ns.length := by
    have q := IntsAre.length hit
    rwa [Array.length_toList] at q
  obtain ⟨c, tl, hmro⟩ := F.called_set.mro
  have made := F.called_set.made
  have sub := F.called_set.sub
  refine wpAny_call (codeAny_of_tree ?_)
  show wpAny _ _ (callAny (.type "set") _) _ _ _
  refine wpAny_pure ⟨Code.quiet_builtin _ (by decide +kernel), codeAny_builtin F.entry_type_call ?_⟩
  rw [Around.under_plain (weight_type_call_type "set" [.ref l] []) rfl]
  have n1 := F.called_set.notType
  have n2 := F.called_set.canCreate
  have n3 := F.typeCall_set_1 (.ref l)
  repeat (any_goals (first | assumption | wp_step))
  refine codeAny_mono (code_set_led1 (.ref l) (E := E) (Q₁ := fun obj s₁ => obj = .ref s.heap.objs.size ∧ s₁ = { s with heap := s.heap.push (newSet w) }) ⟨rfl, rfl⟩) fun r s₁ hr => ?_
  cases r with
  | error e => exact hr
  | ok fl =>
    cases fl with
    | ret obj =>
      obtain ⟨rfl, rfl⟩ := hr
      have atS : (s.heap.push (newSet w)).get? s.heap.objs.size = some (newSet w) := Heap.get?_push_size _ rfl
      have ty : Shared.TypeIs { s with heap := s.heap.push (newSet w) } (.ref s.heap.objs.size) "set" := ⟨_, atS, rfl⟩
      have i1 := F.called_set.init.lookup
      have i2 := F.called_set.init.bind (.ref s.heap.objs.size)
      repeat (any_goals (first | assumption | wp_step))
      refine codeAny_mono (codeAny_call_builtin (R := wants (fun r s₂ => r = .none ∧ ∃ h' tk c, s₂ = { s with heap := h', toks := tk } ∧ SetR w h' s.heap.objs.size (fun j => decide (j ∈ ns)) c ∧ c ≤ ns.length ∧
          (∀ b o, s.heap.get? b = some o → h'.get? b = some o)) E) F.called_set.init.plain F.entry_set_init (check_set_init_1 ty ?_)) fun r₂ s₂ hr₂ => ?_
      · obtain ⟨ol, hol, hcl, nl, hdl⟩ := hl
        obtain ⟨ocls, odict, odata, oslots⟩ := ol
        simp only at hcl hdl
        subst hcl
        subst hdl
        have hol' := Heap.get?_push_of_some (newSet w) hol
        have b1 := F.sub_list_set
        have b2 := F.sub_list_frozenset
        have b3 : (Value.type "list" == Value.type "dict") = false := by decide
        have hl1 : (s.heap.push (newSet w)).IsList l items := ⟨_, hol', rfl, nl, rfl⟩
        unfold Builtin.«set.__init__» noKeywords Builtin.Frozenset.updateFrom
        generalize hPI : pyIter = PI
        wp_walk
        subst hPI
        refine wpAny_pyIter_list hl1 ?_
        refine wpAny_bind (wpAny_runValue ?_)
        have lt : l < s.heap.objs.size := Heap.lt_size hol
        have hd : A.in1.in1.in1.handled = none := by simp [hh]
        have nI : l ≠ (s.heap.push (newSet w)).objs.size := by
          rw [Heap.size_push]
          exact Nat.ne_of_lt (Nat.lt_succ_of_lt lt)
        have nS : s.heap.objs.size ∉ [(s.heap.push (newSet w)).objs.size, l] := by
          rw [Heap.size_push]
          simp only [List.mem_cons, List.not_mem_nil, or_false, not_or]
          exact ⟨Nat.ne_of_lt (Nat.lt_succ_self _), Nat.ne_of_gt lt⟩
        have val : ∀ (i : Nat) (v : Value), items[i]? = some v → ∃ k t, ns[i]? = some k ∧ v = .int k t := fun i v hv => by
          have hi : i < ns.length := by rw [← len]; exact (Array.getElem?_eq_some_iff.mp hv).1
          obtain ⟨t, e⟩ := IntsAre.int_at hit i v (by rw [Array.getElem?_toList]; exact hv)
          refine ⟨ns[i], t, List.getElem?_eq_getElem hi, ?_⟩
          rw [e, List.getD_eq_getElem?_getD, List.getElem?_eq_getElem hi]
          rfl
        refine set_update_ints ((Walks.list hd _ l nI items).toS) s.heap.objs.size nS ns len hb val (items.size - 0) 0 _ (by omega) (Nat.zero_le _)
          ⟨⟨_, Heap.get?_push_size _ rfl, rfl, rfl⟩, (hl1.push _)⟩ ?hS0 ?hR
        case hS0 => exact ⟨0, Nat.le_refl 0, setR_new_at (Heap.get?_push_of_some _ atS)⟩
        case hR =>
          intro s' c' hm hc' hS'
          obtain ⟨h', g2, d', tk', os'⟩ := s'
          have eg : g2 = s.gens := hm.gens
          have ed : d' = s.drawn := hm.drawn
          have eo : os' = s.os := hm.os
          subst eg
          subst ed
          subst eo
          show wpAny _ _ _ _ _ _
          refine wpAny_pure ?_
          show wpAny _ _ (ret Value.none) _ _ _
          rw [len] at hc'
          refine wpAny_pure ⟨rfl, h', tk', c', rfl, hS', hc', fun b o e => ?_⟩
          have lb : b < s.heap.objs.size := Heap.lt_size e
          refine hm.heap b o ?_ (Heap.get?_push_of_some _ (Heap.get?_push_of_some _ e))
          rw [Heap.size_push]
          simp only [List.mem_cons, List.not_mem_nil, or_false, not_or]
          exact ⟨Nat.ne_of_lt lb, Nat.ne_of_lt (Nat.lt_succ_of_lt lb)⟩
      · cases r₂ with
        | error e => exact hr₂
        | ok fl₂ =>
          cases fl₂ with
          | ret r =>
            obtain ⟨rfl, h', tk, c', rfl, hS', hc', hk'⟩ := hr₂
            repeat (any_goals (first | assumption | wp_step))
            exact h _ _ _ hS' hc' hk'
          | _ => exact hr₂.elim
    | _ => exact hr.elim
end
section
variable {X : Cx}
def tSortSet (K : PySem.W.Frag) (ta : TE) : TE := fun σ H Q => ta σ H fun x H1 => ∃ (l : Addr) (ns : List Int), x = V.ref l ∧ SqL K H1 l (ns.map V.int) ∧ ns.length < 64 ∧
  ∀ (ms : List Int) (p : Addr), ms.Pairwise (· < ·) → (∀ k : Int, k ∈ ms ↔ k ∈ ns) → H1 p = none → Q (.ref p) (upd H1 p (.lst (ms.map V.int)))
theorem pe_sortSet {a : Expr} {ta : TE} {p p2 q pos : Pos} (hc : X.calm = true) (hg : Gl X "sorted") (hm : X.mg "sorted" = none) (hg2 : Gl X "set") (hm2 : X.mg "set" = none) (ha : PE X a ta)
    (na : starEach [a] X.env = (false, eval a X.env) :: starEach [] X.env := by rfl) : PE X (.Call (.Name "sorted" p) [.Call (.Name "set" p2) [a] [] q] [] pos) (tSortSet X.K ta) := by
  refine ⟨fun pins s σ H Q I h => ?_⟩
  refine Call_ (ld_blt I hg hm L3.boot_sorted ?_)
  refine callWith_builtin1 (args_cons ?_ rfl) rfl rfl
  refine Call_ (ld_blt I hg2 hm2 boot_set ?_)
  refine callWith_type1 (args_cons (thn (ha.run pins s σ H _ I h) fun v s1 ⟨x, H1, I1, r1, q1⟩ => args_nil ?_) na) na rfl
  obtain ⟨l, ns, rfl, hq, h1, q1⟩ := q1
  cases r1
  obtain ⟨its, r, pl, hz⟩ := I1.list hq
  refine set_of_list ns (I1.ok.hd hc) pl.isList (by simpa using r.ints) (by unfold scanBound; omega) fun h' tk c hS hc' hk => ?_
  refine args_nil ?_
  have I2 : Inv X pins σ H1 ({ s1 with heap := h', toks := tk } : Shared) := I1.kept fun b o e => hk b o e
  change SetR X.w ({ s1 with heap := h', toks := tk } : Shared).heap _ _ _ at hS
  generalize ({ s1 with heap := h', toks := tk } : Shared) = s2 at hS I2 ⊢
  refine sorted_set hS (I2.ok.hd hc) (by omega) fun s' pp out cc ms k g o hp hg' hi hs hm' hl => ?_
  have hlen : (ms.map V.int).length ≤ sizeLine := by rw [List.length_map, hl, sizeLine_eq]; omega
  have hp2 : H1 pp = none := I2.hok.fresh hp
  have J : Inv X pins σ (upd H1 pp (.lst (ms.map V.int))) { s2 with heap := s'.heap, gens := s'.gens, drawn := s'.drawn, toks := s'.toks } := I2.call (ch := []) (Un.laid k hp hp2) (I2.hok.laid k hp ⟨hlen, out.toList, cc, vals_of_ints hi, hg'⟩) (by rw [g]; exact I2.bare) (fun _ z => nomatch z)
  refine ⟨.ref pp, _, ?_, rfl, q1 ms pp hs (fun k => by rw [hm' k]; exact decide_eq_true_iff) hp2⟩
  have e : s' = { s2 with heap := s'.heap, gens := s'.gens, drawn := s'.drawn, toks := s'.toks } := by
    cases s'
    cases s2
    cases o
    rfl
  rw [e]
  exact J
end
end L2
namespace L3
open PySem PySem.Spec L2 TL PyProof.Rows
section
variable {X : Cx} {P : Program} {w : World} {K : PySem.W.Frag} {mg : Str → Option Value} {base : Heap} {N : List Str} {sc : Scope} {k : Nat} {ρ : Env} {μ μ1 : Mem} {p : PV} {a : Expr} {pos p1 p2 q : Pos} {ns ms : List Int}
/-- sorted(set(xs)) -/
theorem DE.sortSet (cx : CxD X P w K mg base N sc k) (hc : X.calm = true) (hx : sc.names.lookup ("sorted" : Str) = some .globalImplicit) (hm : mg "sorted" = none) (hx2 : sc.names.lookup ("set" : Str) = some .globalImplicit) (hm2 : mg "set" = none)
    (ha : DE X a ρ μ p μ1) (hl : asL μ1 p = some (ns.map PV.int)) (h64 : ns.length < 64) (hs : ms.Pairwise (· < ·)) (he : ∀ z, z ∈ ms ↔ z ∈ ns)
    (na : starEach [a] X.env = (false, eval a X.env) :: starEach [] X.env := by rfl) : DE X (.Call (.Name "sorted" p1) [.Call (.Name "set" p2) [a] [] q] [] pos) ρ μ (.lst (ms.map PV.int)) μ1 := fun ad σ H Q R f => by
  refine wE.of (pe_sortSet hc (cx.gl _ hx) (by rw [cx.emg]; exact hm) (cx.gl _ hx2) (by rw [cx.emg]; exact hm2) (pe_w a) na) (ha ad σ H _ R fun ad1 v H1 s1 m1 r1 => ?_)
  obtain ⟨l, vs, e1, h1, rl⟩ := r1.asL_inv hl m1
  rw [rl.ints'] at h1
  refine ⟨l, ns, e1, h1, h64, fun ms' pp hs' he' hp => ?_⟩
  have em : ms' = ms := by
    have hp2 : ms'.Perm ms := (List.perm_ext_iff_of_nodup (hs'.imp fun h => Int.ne_of_lt h) (hs.imp fun h => Int.ne_of_lt h)).mpr fun z => (he' z).trans (he z).symm
    exact hp2.eq_of_pairwise (fun a b _ _ h1 h2 => by omega) hs' hs
  subst em
  exact (Fin1.step s1 f).lst m1 hp RpL.of_ints
end
end L3

/-! L3: texts of any kind: cut at blanks, their words put in, exchanged, joined. -/
namespace L3
open PySem PySem.Spec L2 TL PyProof.Rows
/-! ### texts within bounds -/
/-- a text of at most n signs -/
def TxOk (n : Nat) (z : Str) : Prop := z.length ≤ n ∧ PyData.strOk z = true
theorem TxOk.mono {n m : Nat} {z : Str} (h : TxOk n z) (l : n ≤ m) : TxOk m z := ⟨Nat.le_trans h.1 l, h.2⟩
theorem tl_cutS_mem {z : Str} {lo hi : Option Int} {c : Nat} (h : c ∈ tl (cutS z lo hi)) : c ∈ tl z := by
  unfold cutS tl at h
  exact List.mem_of_mem_drop (List.mem_of_mem_take h)
theorem TxOk.cut {n : Nat} {z : Str} {lo hi : Option Int} (h : TxOk n z) : TxOk n (cutS z lo hi) := ⟨Nat.le_trans (cutS_length _ _ _) h.1, strOk_of fun c hc => strOk_mem h.2 (tl_cutS_mem hc)⟩
theorem TxOk.one {c : Nat} (h : c < 0x110000) : TxOk 1 ⟨#[c]⟩ := ⟨Nat.le_refl 1, strOk_one h⟩
theorem TxOk.lit {n : Nat} {z : Str} (h : (Nat.ble z.length n && PyData.strOk z) = true) : TxOk n z := by
  rw [Bool.and_eq_true] at h
  exact ⟨Nat.le_of_ble_eq_true h.1, h.2⟩
theorem tl_foldl (l : List Str) : ∀ a : Array Nat, ((l.map (·.cps)).foldl (· ++ ·) a).toList = a.toList ++ (l.map tl).flatten := by
  induction l with
  | nil => intro a; simp
  | cons z l ih =>
    intro a
    rw [List.map_cons, List.foldl_cons, ih, Array.toList_append, List.map_cons, List.flatten_cons, List.append_assoc]
theorem tl_mul (z : Str) (n : Int) : tl (Txt.mul z n) = (List.replicate n.toNat (tl z)).flatten := by
  unfold Txt.mul
  by_cases h1 : n < 1
  · rw [if_pos h1, show n.toNat = 0 by omega]
    rfl
  · rw [if_neg h1]
    by_cases h2 : (n == 1 || z.length == 0) = true
    · rw [if_pos h2]
      rw [Bool.or_eq_true] at h2
      rcases h2 with h2 | h2
      · have e : n = 1 := by simpa using h2
        subst e
        simp
      · have e : z.length = 0 := by simpa using h2
        have e2 : tl z = [] := by
          rw [len_tl] at e
          exact List.length_eq_zero_iff.mp e
        rw [e2]
        simp
    · rw [if_neg h2]
      have := tl_foldl (List.replicate n.toNat z) #[]
      rw [List.map_replicate, List.map_replicate] at this
      exact this
theorem mul_len (z : Str) (n : Int) : (Txt.mul z n).length = n.toNat * z.length := by
  rw [len_tl, tl_mul, List.length_flatten, List.map_replicate, List.sum_replicate_nat, len_tl]
theorem TxOk.mul {n : Nat} {z : Str} {k : Nat} (h : TxOk n z) : TxOk (k * n) (Txt.mul z ((k : Nat) : Int)) := by
  refine ⟨by rw [mul_len]; exact Nat.mul_le_mul_left _ h.1, strOk_of fun c hc => ?_⟩
  rw [tl_mul] at hc
  obtain ⟨l, hl, hc⟩ := List.mem_flatten.mp hc
  rw [(List.mem_replicate.mp hl).2] at hc
  exact strOk_mem h.2 hc
end L3

/-! L3: rules of texts: split as a new list, insert, text * n, replace with a count of one. -/
namespace PySem
open Builtin Builtin.Str
end PySem
namespace L3
open PySem PySem.Spec L2 TL PyProof.Rows
section
variable {X : Cx} {P : Program} {w : World} {K : PySem.W.Frag} {mg : Str → Option Value} {base : Heap} {N : List Str} {sc : Scope} {k j : Nat} {x : Str} {A : ASp} {ρ ρ' : Env} {μ μ1 μ2 μ3 μ' : Mem} {p q r : PV} {e e2 a b c o tg : Expr} {es : List Expr} {pos cp c0 c1 c2 : Pos} {D : AEnds} {kb : Bool} {st : Stmt} {sts : List Stmt}
/-! ### a token is out -/
structure SwET (X : Cx) (e : Expr) (σ : L2.St) (H : Hp) (Q : VK) : Prop where
  go : ∀ pins s, 1 ≤ s.toks → Inv X pins σ H s → wpAny (model X.prog X.w) X.A (eval e X.env) (EP X pins σ Q) X.xe s
def wET (X : Cx) (e : Expr) : TE := fun σ H Q => SwET X e σ H Q
structure SwAT (X : Cx) (es : List Expr) (σ : L2.St) (H : Hp) (Q : List V → Hp → Prop) : Prop where
  go : ∀ pos pins s, 1 ≤ s.toks → Inv X pins σ H s → wpAny (model X.prog X.w) X.A (spliced (backTo pos (starEach es X.env))) (AP X pins σ Q) X.xe s
def wAT (X : Cx) (es : List Expr) : TA := fun σ H Q => SwAT X es σ H Q
theorem pet_w (e : Expr) : PET X e (wET X e) := fun pins s _ _ _ h0 I h => h.go pins s h0 I
theorem pat_w (es : List Expr) : PAT X es (wAT X es) := fun pos pins s _ _ _ h0 I h => h.go pos pins s h0 I
theorem wET.of {t : TE} {σ : L2.St} {H : Hp} {Q : VK} (h : PET X e t) (q : t σ H Q) : wET X e σ H Q := ⟨fun pins s h0 I => h pins s σ H Q h0 I q⟩
theorem wAT.of {t : TA} {σ : L2.St} {H : Hp} {Q : List V → Hp → Prop} (h : PAT X es t) (q : t σ H Q) : wAT X es σ H Q := ⟨fun pos pins s h0 I => h pos pins s σ H Q h0 I q⟩
def DET (X : Cx) (e : Expr) (ρ : Env) (μ : Mem) (p : PV) (μ' : Mem) : Prop :=
  ∀ ad σ H Q, Rst ad X.K H σ ρ μ → Fin1 X ad H μ' p Q → wET X e σ H Q
def DAT (X : Cx) (es : List Expr) (ρ : Env) (μ : Mem) (ps : List PV) (μ' : Mem) : Prop :=
  ∀ ad σ H Q, Rst ad X.K H σ ρ μ → FinL X ad H μ' ps Q → wAT X es σ H Q
theorem DET.of (h : DE X e ρ μ p μ1) : DET X e ρ μ p μ1 := fun ad σ H Q R f => ⟨fun pins s _ I => (h ad σ H Q R f).go pins s I⟩
theorem DAT.nil : DAT X [] ρ μ [] μ := fun ad σ H Q R f => wAT.of pat_nil (f [] _ H Stp.refl R.nil RpL.nil)
theorem DAT.cons {ps : List PV} (h : DET X e ρ μ p μ1) (t : DAT X es ρ μ1 ps μ2) (hs : starEach (e :: es) X.env = (false, eval e X.env) :: starEach es X.env := by rfl) : DAT X (e :: es) ρ μ (p :: ps) μ2 := fun ad σ H Q R f =>
  wAT.of (pat_cons (pet_w e) (pat_w es) hs) (h ad σ H _ R fun ad1 v H1 s1 m1 r1 =>
    t (ad ++ ad1) σ H1 _ (R.mono s1 m1) fun ad2 vs H2 s2 m2 r2 => f (ad1 ++ ad2) _ H2 (s1.trans s2) (by rwa [← AD.append_assoc]) (by rw [← AD.append_assoc]; exact RpL.cons (r1.mono s2) r2))
end
end L3

/-! L3: what text writes a spiral. -/
namespace L3
open PySem PySem.Spec L2 TL PyProof.Rows
end L3

/-! L3: far boxes: rows by stretches, ends on a ring. -/
namespace L3
open PySem PySem.Spec L2 TL PyProof.Rows
/-- a place so far by heading e or n, so far across -/
def plc (e : Bool) (a c : Int) : Int × Int := if e = true then (a, c) else (c, a)
def Fit (h : Fin 4) (t : Bool) (k : Nat) (p : Int × Int) : Prop := byW (hdR h t ((k : Nat) : Int)) p = rgP p ∧ byW (hdR h t (((k : Nat) : Int) + 1)) p > 0 - rgP p
/-- what a side's rule tells -/
def sdF (h : Fin 4) (t : Bool) (k : Nat) (p : Int × Int) : Int := moreF ((k : Nat) : Int) (byW (hdR h t ((k : Nat) : Int)) p) + byW (hdR h t (((k : Nat) : Int) + 1)) p
/-- the side on which a place lies -/
def SideOk (h : Fin 4) (t : Bool) (p : Int × Int) (k : Nat) : Prop := k < 4 ∧ (Fit h t k p ∨ (rgP p = 0 ∧ k = 0))
theorem by_00 (g : Fin 4) : byW g (0, 0) = 0 := by
  unfold byW
  omega
theorem fit_pos {h : Fin 4} {t : Bool} {k : Nat} {p : Int × Int} (hf : Fit h t k p) : 1 ≤ rgP p := by
  have h0 : 0 ≤ rgP p := by unfold rgP; omega
  by_cases hz : rgP p = 0
  · have e := rg_0 hz
    subst e
    have := hf.2
    rw [by_00, hz] at this
    omega
  · omega
theorem fit_nu {h : Fin 4} {t : Bool} {k : Nat} {p : Int × Int} (k4 : k < 4) (hf : Fit h t k p) : nuW h t p = sdF h t k p := by
  unfold sdF
  rw [hf.1]
  exact by_num k4 (fit_pos hf) hf.1 hf.2
theorem side_nu' {h : Fin 4} {t : Bool} {k : Nat} {p : Int × Int} (hs : SideOk h t p k) : nuW h t p = sdF h t k p := by
  rcases hs with ⟨k4, hf | ⟨hz, rfl⟩⟩
  · exact fit_nu k4 hf
  · have e := rg_0 hz
    subst e
    unfold sdF
    rw [nu_zero, by_00, by_00]
    rfl
/-- in the same stretch between the diagonals -/
def Same (c a a' : Int) : Prop := (a < -((c.natAbs : Nat) : Int) ∧ a' < -((c.natAbs : Nat) : Int)) ∨ (-((c.natAbs : Nat) : Int) < a ∧ a < ((c.natAbs : Nat) : Int) ∧ -((c.natAbs : Nat) : Int) < a' ∧ a' < ((c.natAbs : Nat) : Int)) ∨ (((c.natAbs : Nat) : Int) < a ∧ ((c.natAbs : Nat) : Int) < a')
theorem fit_move {h : Fin 4} {t : Bool} {k : Nat} {e : Bool} {a a' c : Int} (hs : Same c a a') (hf : Fit h t k (plc e a c)) : Fit h t k (plc e a' c) := by
  have ad := hd_adj2 h t ((k : Nat) : Int)
  unfold Fit at *
  unfold Same at hs
  generalize hdR h t ((k : Nat) : Int) = g at *
  generalize hdR h t (((k : Nat) : Int) + 1) = g' at *
  have e01 : (0 : Fin 4) + 1 = 1 := by decide
  have e11 : (1 : Fin 4) + 1 = 2 := by decide
  have e21 : (2 : Fin 4) + 1 = 3 := by decide
  have e31 : (3 : Fin 4) + 1 = 0 := by decide
  have e03 : (0 : Fin 4) + 3 = 3 := by decide
  have e13 : (1 : Fin 4) + 3 = 0 := by decide
  have e23 : (2 : Fin 4) + 3 = 1 := by decide
  have e33 : (3 : Fin 4) + 3 = 2 := by decide
  cases e <;> rcases ad with rfl | rfl <;> rcases hf4 g with rfl | rfl | rfl | rfl <;>
    simp only [plc, if_true, Bool.false_eq_true, if_false, e01, e11, e21, e31, e03, e13, e23, e33, by_0, by_1, by_2, by_3, rgP] at hf ⊢ <;> omega
theorem piece_nu {h : Fin 4} {t : Bool} {k : Nat} {e : Bool} {b a c : Int} (hs : SideOk h t (plc e b c) k) (hm : a = b ∨ Same c b a) : nuW h t (plc e a c) = sdF h t k (plc e a c) := by
  rcases hm with rfl | hm
  · exact side_nu' hs
  · rcases hs with ⟨k4, hf | ⟨hz, rfl⟩⟩
    · exact fit_nu k4 (fit_move hm hf)
    · exfalso
      have e0 := rg_0 hz
      unfold plc at e0
      unfold Same at hm
      cases e <;> simp only [if_true, Bool.false_eq_true, if_false, Prod.mk.injEq] at e0 <;> omega
/-! ### a row's cuts -/
def cutR (c : Int) : List Int := if c = 0 then [0, 1] else [-((c.natAbs : Nat) : Int), 1 - ((c.natAbs : Nat) : Int), ((c.natAbs : Nat) : Int), ((c.natAbs : Nat) : Int) + 1]
def cutsF (c f l : Int) : List Int := (cutR c).filter fun z => decide (f < z) && decide (z ≤ l)
theorem cuts_up (c f l : Int) : (cutsF c f l).Pairwise (· < ·) := by
  unfold cutsF
  refine List.Pairwise.filter _ ?_
  unfold cutR
  split
  · simp
  · simp only [List.pairwise_cons, List.mem_cons, List.not_mem_nil, or_false, forall_eq_or_imp, forall_eq, false_implies, implies_true, and_true, List.Pairwise.nil]
    omega
theorem cuts_mem {c f l z : Int} : z ∈ cutsF c f l ↔ (z = -((c.natAbs : Nat) : Int) ∨ z = 1 - ((c.natAbs : Nat) : Int) ∨ z = ((c.natAbs : Nat) : Int) ∨ z = ((c.natAbs : Nat) : Int) + 1) ∧ f < z ∧ z ≤ l := by
  unfold cutsF
  rw [List.mem_filter, Bool.and_eq_true, decide_eq_true_eq, decide_eq_true_eq]
  unfold cutR
  split
  · rename_i hc
    subst hc
    simp only [List.mem_cons, List.not_mem_nil, or_false]
    omega
  · simp only [List.mem_cons, List.not_mem_nil, or_false]
theorem cut_same {c f l b a : Int} (hb : f ≤ b) (hba : b ≤ a) (hal : a ≤ l) (hno : ∀ z ∈ cutsF c f l, ¬ (b < z ∧ z ≤ a)) : a = b ∨ Same c b a := by
  have n1 := hno (-((c.natAbs : Nat) : Int))
  have n2 := hno (1 - ((c.natAbs : Nat) : Int))
  have n3 := hno ((c.natAbs : Nat) : Int)
  have n4 := hno (((c.natAbs : Nat) : Int) + 1)
  rw [cuts_mem] at n1 n2 n3 n4
  unfold Same
  generalize ((c.natAbs : Nat) : Int) = n at *
  simp only [true_or, or_true, true_and] at n1 n2 n3 n4
  have h1 : ¬ (b < -n ∧ -n ≤ a) := fun h => n1 ⟨by omega, by omega⟩ h
  have h2 : ¬ (b < 1 - n ∧ 1 - n ≤ a) := fun h => n2 ⟨by omega, by omega⟩ h
  have h3 : ¬ (b < n ∧ n ≤ a) := fun h => n3 ⟨by omega, by omega⟩ h
  have h4 : ¬ (b < n + 1 ∧ n + 1 ≤ a) := fun h => n4 ⟨by omega, by omega⟩ h
  omega
/-- the pieces between the cuts -/
def pcR (f : Int) (ms : List Int) (l : Int) : List (Int × Int) := (f :: ms).zip (ms.map (fun c => c - 1) ++ [l])
theorem pcR_cons (f m : Int) (ms : List Int) (l : Int) : pcR f (m :: ms) l = (f, m - 1) :: pcR m ms l := rfl
theorem pcR_sum (F : Int → Int) {l : Int} : ∀ {ms : List Int} {f : Int}, ms.Pairwise (· < ·) → (∀ z ∈ ms, f < z ∧ z ≤ l) → ((pcR f ms l).map fun q => sumS q.1 q.2 F).sum = sumS f l F
  | [], f, _, _ => by
    show sumS f l F + 0 = _
    omega
  | m :: ms, f, hp, hm => by
    rw [List.pairwise_cons] at hp
    obtain ⟨h1, h2⟩ := hm m List.mem_cons_self
    rw [pcR_cons, List.map_cons, List.sum_cons, pcR_sum F hp.2 fun z hz => ⟨hp.1 z hz, (hm z (List.mem_cons_of_mem _ hz)).2⟩]
    exact (sumS_split (by omega) (by omega)).symm
theorem pcR_in {l : Int} {q : Int × Int} : ∀ {ms : List Int} {f : Int}, f ≤ l → ms.Pairwise (· < ·) → (∀ z ∈ ms, f < z ∧ z ≤ l) → q ∈ pcR f ms l → f ≤ q.1 ∧ q.1 ≤ q.2 ∧ q.2 ≤ l ∧ ∀ z ∈ ms, ¬ (q.1 < z ∧ z ≤ q.2)
  | [], f, hl, _, _, h => by
    have e : q = (f, l) := List.mem_singleton.mp h
    subst e
    exact ⟨Int.le_refl _, hl, Int.le_refl _, fun z hz => nomatch hz⟩
  | m :: ms, f, hl, hp, hm, h => by
    rw [List.pairwise_cons] at hp
    obtain ⟨h1, h2⟩ := hm m List.mem_cons_self
    rw [pcR_cons] at h
    rcases List.mem_cons.mp h with e | e
    · subst e
      refine ⟨Int.le_refl _, by show f ≤ m - 1; omega, by show m - 1 ≤ l; omega, fun z hz => ?_⟩
      rcases List.mem_cons.mp hz with e | e
      · subst e
        show ¬ (f < z ∧ z ≤ z - 1)
        omega
      · have := hp.1 z e
        show ¬ (f < z ∧ z ≤ m - 1)
        omega
    · obtain ⟨a1, a2, a3, a4⟩ := pcR_in h2 hp.2 (fun z hz => ⟨hp.1 z hz, (hm z (List.mem_cons_of_mem _ hz)).2⟩) e
      refine ⟨by omega, a2, a3, fun z hz => ?_⟩
      rcases List.mem_cons.mp hz with e | e
      · subst e
        omega
      · exact a4 z e
theorem cuts_len (c f l : Int) : (cutsF c f l).length ≤ 4 := by
  unfold cutsF
  refine Nat.le_trans (List.length_filter_le _ _) ?_
  unfold cutR
  split <;> simp
/-- a row's sum -/
def rowR (s : Int) (h : Fin 4) (t : Bool) (e : Bool) (c f l : Int) : Int := sumS f l fun a => s + nuW h t (plc e a c)
/-- a stretch's sum by a side's rule -/
def strS (s : Int) (h : Fin 4) (t : Bool) (e : Bool) (c : Int) (k : Nat) (f l : Int) : Int := sumS f l fun a => s + sdF h t k (plc e a c)
theorem row_piece {s : Int} {h : Fin 4} {t : Bool} {e : Bool} {c f l : Int} {q : Int × Int} {k : Nat} (hfl : f ≤ l) (hq : q ∈ pcR f (cutsF c f l) l) (hk : SideOk h t (plc e q.1 c) k) : strS s h t e c k q.1 q.2 = rowR s h t e c q.1 q.2 := by
  obtain ⟨a1, a2, a3, a4⟩ := pcR_in hfl (cuts_up c f l) (fun z hz => (cuts_mem.mp hz).2) hq
  unfold strS rowR
  refine sumS_congr fun x h1 h2 => ?_
  rw [piece_nu hk (cut_same (f := f) (l := l) a1 h1 (by omega) fun z hz hh => a4 z hz ⟨hh.1, by omega⟩)]
theorem row_sum (s : Int) (h : Fin 4) (t : Bool) (e : Bool) (c f l : Int) : ((pcR f (cutsF c f l) l).map fun q => rowR s h t e c q.1 q.2).sum = rowR s h t e c f l := pcR_sum _ (cuts_up c f l) fun z hz => (cuts_mem.mp hz).2
/-! ### a stretch by its first three numbers -/
theorem by_lin (g : Fin 4) (e : Bool) (c : Int) : ∃ u v : Int, ∀ a, byW g (plc e a c) = u * a + v := by
  cases e
  · exact ⟨(stpW g).2, (stpW g).1 * c, fun a => by show (stpW g).1 * c + (stpW g).2 * a = _; omega⟩
  · exact ⟨(stpW g).1, (stpW g).2 * c, fun a => rfl⟩
theorem sd_quad (s : Int) (h : Fin 4) (t : Bool) (e : Bool) (c : Int) (k : Nat) : ∃ c0 c1 c2 : Int, ∀ a, s + sdF h t k (plc e a c) = c0 + c1 * a + c2 * (a * a) := by
  obtain ⟨u, v, h1⟩ := by_lin (hdR h t ((k : Nat) : Int)) e c
  obtain ⟨u', v', h2⟩ := by_lin (hdR h t (((k : Nat) : Int) + 1)) e c
  refine ⟨s + (4 * (v * v) + (2 * ((k : Nat) : Int) - 3) * v) + v', 8 * (u * v) + (2 * ((k : Nat) : Int) - 3) * u + u', 4 * (u * u), fun a => ?_⟩
  unfold sdF moreF
  rw [h1, h2]
  generalize 2 * ((k : Nat) : Int) - 3 = w
  grind
theorem str_newton {s : Int} {h : Fin 4} {t : Bool} {e : Bool} {c f l : Int} {k : Nat} (hfl : f ≤ l) : strS s h t e c k f l =
    (l - f + 1) * (s + sdF h t k (plc e f c)) + (sdF h t k (plc e (f + 1) c) - sdF h t k (plc e f c)) * ((l - f + 1) * ((l - f + 1) - 1) / 2)
      + (sdF h t k (plc e (f + 2) c) - 2 * sdF h t k (plc e (f + 1) c) + sdF h t k (plc e f c)) * ((l - f + 1) * ((l - f + 1) - 1) / 2 * ((l - f + 1) - 2) / 3) := by
  obtain ⟨c0, c1, c2, hq⟩ := sd_quad s h t e c k
  obtain ⟨F, hF⟩ : ∃ F : Int → Int, F = fun a => s + sdF h t k (plc e a c) := ⟨_, rfl⟩
  have hFa : ∀ a, F a = c0 + c1 * a + c2 * (a * a) := fun a => by rw [hF]; exact hq a
  have hc : Cub F f := cub_poly (c0 := 6 * c0) (c1 := 6 * c1) (c2 := 6 * c2) (c3 := 0) (fun x => by rw [hFa]; grind) f
  have hs := fo_sum hc (l + 1 - f).toNat
  have hS : strS s h t e c k f l = sumI f (l + 1 - f).toNat F := by rw [hF]; rfl
  rw [hS, ← hs]
  have d3 : Df F 3 f = 0 := by
    show F (f + 1 + 1 + 1) - F (f + 1 + 1) - (F (f + 1 + 1) - F (f + 1)) - (F (f + 1 + 1) - F (f + 1) - (F (f + 1) - F f)) = 0
    rw [hFa, hFa, hFa, hFa]
    grind
  have e4 : foF F f (((l + 1 - f).toNat : Nat) : Int) 4 = 0 + wyF (((l + 1 - f).toNat : Nat) : Int) 0 * Df F 0 f + wyF (((l + 1 - f).toNat : Nat) : Int) 1 * Df F 1 f + wyF (((l + 1 - f).toNat : Nat) : Int) 2 * Df F 2 f + wyF (((l + 1 - f).toNat : Nat) : Int) 3 * Df F 3 f := rfl
  rw [e4, d3]
  have em : (((l + 1 - f).toNat : Nat) : Int) = l - f + 1 := by omega
  rw [em]
  generalize l - f + 1 = m
  have w0 : wyF m 0 = m := rfl
  have w1 : wyF m 1 = m * (m - 1) / 2 := by
    show m * (m - ((0 : Nat) : Int) - 1) / (((0 : Nat) : Int) + 2) = _
    rw [show m - ((0 : Nat) : Int) - 1 = m - 1 by omega]
    rfl
  have w2 : wyF m 2 = m * (m - 1) / 2 * (m - 2) / 3 := by
    show wyF m 1 * (m - ((1 : Nat) : Int) - 1) / (((1 : Nat) : Int) + 2) = _
    rw [w1, show m - ((1 : Nat) : Int) - 1 = m - 2 by omega]
    rfl
  rw [w0, w1, w2]
  have D0 : Df F 0 f = s + sdF h t k (plc e f c) := by show F f = _; rw [hF]
  have D1 : Df F 1 f = sdF h t k (plc e (f + 1) c) - sdF h t k (plc e f c) := by
    show F (f + 1) - F f = _
    rw [hF]
    dsimp only
    omega
  have D2 : Df F 2 f = sdF h t k (plc e (f + 2) c) - 2 * sdF h t k (plc e (f + 1) c) + sdF h t k (plc e f c) := by
    show F (f + 1 + 1) - F (f + 1) - (F (f + 1) - F f) = _
    rw [show f + 1 + 1 = f + 2 by omega, hF]
    dsimp only
    omega
  rw [D0, D1, D2]
  generalize sdF h t k (plc e f c) = v0
  generalize sdF h t k (plc e (f + 1) c) = v1
  generalize sdF h t k (plc e (f + 2) c) = v2
  generalize m * (m - 1) / 2 * (m - 2) / 3 = z3
  generalize m * (m - 1) / 2 = z2
  grind
/-! ### a box by its rows -/
theorem row_box (s : Int) (h : Fin 4) (t : Bool) (y l : Int) : ∀ n : Nat, boxW (fun m => s + m) h t (l, y, l + ((n : Nat) : Int), y) = rowR s h t true y l (l + ((n : Nat) : Int))
  | 0 => by
    rw [show l + ((0 : Nat) : Int) = l by omega, one_W]
    unfold rowR
    rw [sumS_one]
    rfl
  | n + 1 => by
    rw [part_W (part_x (x := l + ((n : Nat) : Int)) (by omega) (by omega)), row_box s h t y l n, show l + ((n : Nat) : Int) + 1 = l + ((n + 1 : Nat) : Int) by omega, one_W]
    unfold rowR
    rw [show l + ((n + 1 : Nat) : Int) = l + ((n : Nat) : Int) + 1 by omega, sumS_up (by omega)]
    rfl
theorem col_box (s : Int) (h : Fin 4) (t : Bool) (x l : Int) : ∀ n : Nat, boxW (fun m => s + m) h t (x, l, x, l + ((n : Nat) : Int)) = rowR s h t false x l (l + ((n : Nat) : Int))
  | 0 => by
    rw [show l + ((0 : Nat) : Int) = l by omega, one_W]
    unfold rowR
    rw [sumS_one]
    rfl
  | n + 1 => by
    rw [part_W (part_y (y := l + ((n : Nat) : Int)) (by omega) (by omega)), col_box s h t x l n, show l + ((n : Nat) : Int) + 1 = l + ((n + 1 : Nat) : Int) by omega, one_W]
    unfold rowR
    rw [show l + ((n + 1 : Nat) : Int) = l + ((n : Nat) : Int) + 1 by omega, sumS_up (by omega)]
    rfl
/-- the box between the ends f, l by the heading, a, b across -/
def bxE (e : Bool) (f a l b : Int) : Bx := if e = true then (f, a, l, b) else (a, f, b, l)
theorem bxE_ok {e : Bool} {f a l b : Int} : BxOk (bxE e f a l b) ↔ f ≤ l ∧ a ≤ b := by
  unfold bxE BxOk
  cases e
  · show (a ≤ b ∧ f ≤ l) ↔ _
    exact And.comm
  · exact Iff.rfl
theorem bxE_one (s : Int) (h : Fin 4) (t : Bool) (e : Bool) {f l : Int} (a : Int) (hfl : f ≤ l) : boxW (fun m => s + m) h t (bxE e f a l a) = rowR s h t e a f l := by
  obtain ⟨n, rfl⟩ : ∃ n : Nat, l = f + ((n : Nat) : Int) := ⟨(l - f).toNat, by omega⟩
  cases e
  · exact col_box s h t a f n
  · exact row_box s h t a f n
theorem bxE_part {e : Bool} {f a l b x : Int} (h1 : a ≤ x) (h2 : x < b) : Part (bxE e f a l b) (bxE e f a l x) (bxE e f (x + 1) l b) := by
  cases e
  · exact part_x h1 h2
  · exact part_y h1 h2
theorem bxE_last (s : Int) (h : Fin 4) (t : Bool) (e : Bool) {f a l b : Int} (hfl : f ≤ l) (hab : a < b) : boxW (fun m => s + m) h t (bxE e f a l b) = boxW (fun m => s + m) h t (bxE e f a l (b - 1)) + rowR s h t e b f l := by
  rw [part_W (bxE_part (x := b - 1) (by omega) (by omega)), show b - 1 + 1 = b by omega, bxE_one s h t e b hfl]
theorem bxE_first (s : Int) (h : Fin 4) (t : Bool) (e : Bool) {f a l b : Int} (hfl : f ≤ l) (hab : a < b) : boxW (fun m => s + m) h t (bxE e f a l b) = boxW (fun m => s + m) h t (bxE e f (a + 1) l b) + rowR s h t e a f l := by
  rw [part_W (bxE_part (x := a) (by omega) (by omega)), bxE_one s h t e a hfl]
  omega
theorem bxE_rows (s : Int) (h : Fin 4) (t : Bool) (e : Bool) {f a l : Int} (hfl : f ≤ l) : ∀ n : Nat, boxW (fun m => s + m) h t (bxE e f a l (a + ((n : Nat) : Int))) = sumI a (n + 1) fun c => rowR s h t e c f l
  | 0 => by
    rw [show a + ((0 : Nat) : Int) = a by omega, bxE_one s h t e a hfl]
    show _ = 0 + rowR s h t e (a + ((0 : Nat) : Int)) f l
    rw [show a + ((0 : Nat) : Int) = a by omega]
    omega
  | n + 1 => by
    rw [bxE_last s h t e hfl (by omega), show a + ((n + 1 : Nat) : Int) - 1 = a + ((n : Nat) : Int) by omega, bxE_rows s h t e hfl n]
    rfl
end L3

/-! L3: far boxes: the least and the greatest stand at the ends of pieces. -/
namespace L3
open PySem PySem.Spec L2 TL PyProof.Rows
theorem fit_step {h : Fin 4} {t : Bool} {k : Nat} {e : Bool} {a c : Int} (h1 : -((c.natAbs : Nat) : Int) < a - 1) (h2 : a + 1 < ((c.natAbs : Nat) : Int)) (hf : Fit h t k (plc e a c)) :
    ∃ u : Int, (u = 1 ∨ u = -1) ∧ byW (hdR h t (((k : Nat) : Int) + 1)) (plc e (a + 1) c) = byW (hdR h t (((k : Nat) : Int) + 1)) (plc e a c) + u ∧ byW (hdR h t (((k : Nat) : Int) + 1)) (plc e (a - 1) c) = byW (hdR h t (((k : Nat) : Int) + 1)) (plc e a c) - u := by
  have ad := hd_adj2 h t ((k : Nat) : Int)
  unfold Fit at hf
  generalize hdR h t ((k : Nat) : Int) = g at *
  generalize hdR h t (((k : Nat) : Int) + 1) = g' at *
  have e01 : (0 : Fin 4) + 1 = 1 := by decide
  have e11 : (1 : Fin 4) + 1 = 2 := by decide
  have e21 : (2 : Fin 4) + 1 = 3 := by decide
  have e31 : (3 : Fin 4) + 1 = 0 := by decide
  have e03 : (0 : Fin 4) + 3 = 3 := by decide
  have e13 : (1 : Fin 4) + 3 = 0 := by decide
  have e23 : (2 : Fin 4) + 3 = 1 := by decide
  have e33 : (3 : Fin 4) + 3 = 2 := by decide
  cases e <;> rcases ad with rfl | rfl <;> rcases hf4 g with rfl | rfl | rfl | rfl <;>
    simp only [plc, if_true, Bool.false_eq_true, if_false, e01, e11, e21, e31, e03, e13, e23, e33, by_0, by_1, by_2, by_3, rgP] at hf ⊢ <;>
    first
    | (exfalso; omega)
    | exact ⟨1, .inl rfl, by omega, by omega⟩
    | exact ⟨-1, .inr rfl, by omega, by omega⟩
theorem nu_step {h : Fin 4} {t : Bool} {e : Bool} {a c : Int} (h1 : -((c.natAbs : Nat) : Int) < a - 1) (h2 : a + 1 < ((c.natAbs : Nat) : Int)) :
    ∃ u : Int, (u = 1 ∨ u = -1) ∧ nuW h t (plc e (a + 1) c) = nuW h t (plc e a c) + u ∧ nuW h t (plc e (a - 1) c) = nuW h t (plc e a c) - u := by
  have rg : ∀ x : Int, -((c.natAbs : Nat) : Int) < x → x < ((c.natAbs : Nat) : Int) → rgP (plc e x c) = ((c.natAbs : Nat) : Int) := fun x x1 x2 => by
    unfold rgP plc
    cases e <;> simp only [if_true, Bool.false_eq_true, if_false] <;> omega
  obtain ⟨k, k4, hf⟩ := by_some h t (p := plc e a c) (by rw [rg a (by omega) (by omega)]; omega)
  have f0 : Fit h t k (plc e a c) := hf
  have f1 : Fit h t k (plc e (a + 1) c) := fit_move (.inr (.inl ⟨by omega, by omega, by omega, by omega⟩)) f0
  have f2 : Fit h t k (plc e (a - 1) c) := fit_move (.inr (.inl ⟨by omega, by omega, by omega, by omega⟩)) f0
  obtain ⟨u, hu, e1, e2⟩ := fit_step h1 h2 f0
  refine ⟨u, hu, ?_, ?_⟩
  · rw [fit_nu k4 f1, fit_nu k4 f0]
    unfold sdF
    rw [f1.1, f0.1, rg _ (by omega) (by omega), rg _ (by omega) (by omega), e1]
    omega
  · rw [fit_nu k4 f2, fit_nu k4 f0]
    unfold sdF
    rw [f2.1, f0.1, rg _ (by omega) (by omega), rg _ (by omega) (by omega), e2]
    omega
/-! ### the ends of the sides' pieces -/
def atX (l r R : Int) : List Int := [max l (0 - R), min r R, 0 - R, 1 - R, R - 1, R]
def endW (b : Bx) (R w : Int) : List (Int × Int) := (atX b.1 b.2.2.1 R).map (fun a => (a, w)) ++ (atX b.2.1 b.2.2.2 R).map (fun a => (w, a))
def endR (b : Bx) (R : Int) : List (Int × Int) := endW b R R ++ endW b R (0 - R)
def nearB (b : Bx) : Int := max (max (max (max 0 b.1) (0 - b.2.2.1)) b.2.1) (0 - b.2.2.2)
def farB (b : Bx) : Int := max (max (max (0 - b.1) b.2.2.1) (0 - b.2.1)) b.2.2.2
theorem at_in {l r R x : Int} : x ∈ atX l r R ↔ x = max l (0 - R) ∨ x = min r R ∨ x = 0 - R ∨ x = 1 - R ∨ x = R - 1 ∨ x = R := by
  simp only [atX, List.mem_cons, List.not_mem_nil, or_false]
theorem end_mem {b : Bx} {R : Int} {p : Int × Int} : p ∈ endR b R ↔ (p.1 ∈ atX b.1 b.2.2.1 R ∧ (p.2 = R ∨ p.2 = 0 - R)) ∨ (p.2 ∈ atX b.2.1 b.2.2.2 R ∧ (p.1 = R ∨ p.1 = 0 - R)) := by
  obtain ⟨x, y⟩ := p
  unfold endR endW
  simp only [List.mem_append, List.mem_map, Prod.mk.injEq]
  constructor
  · rintro ((⟨a, h, rfl, rfl⟩ | ⟨a, h, rfl, rfl⟩) | (⟨a, h, rfl, rfl⟩ | ⟨a, h, rfl, rfl⟩))
    · exact .inl ⟨h, .inl rfl⟩
    · exact .inr ⟨h, .inl rfl⟩
    · exact .inl ⟨h, .inr rfl⟩
    · exact .inr ⟨h, .inr rfl⟩
  · rintro (⟨h, rfl | rfl⟩ | ⟨h, rfl | rfl⟩)
    · exact .inl (.inl ⟨_, h, rfl, rfl⟩)
    · exact .inr (.inl ⟨_, h, rfl, rfl⟩)
    · exact .inl (.inr ⟨_, h, rfl, rfl⟩)
    · exact .inr (.inr ⟨_, h, rfl, rfl⟩)
/-- what is the least or the greatest of its ring in the box stands at an end -/
theorem at_end {h : Fin 4} {t : Bool} {b : Bx} {p : Int × Int} {R : Int} (hp : inB b p) (hR : rgP p = R) (hx : (∀ q, inB b q → nuW h t p ≤ nuW h t q) ∨ (∀ q, inB b q → nuW h t q ≤ nuW h t p)) : p ∈ endR b R := by
  obtain ⟨x, y⟩ := p
  obtain ⟨p1, p2, p3, p4⟩ := id hp
  dsimp only at p1 p2 p3 p4
  have hR' : max ((x.natAbs : Nat) : Int) ((y.natAbs : Nat) : Int) = R := hR
  rw [end_mem]
  have ho : (y = R ∨ y = 0 - R) ∨ (x = R ∨ x = 0 - R) := by omega
  have key : ∀ (e : Bool) (a c : Int), plc e a c = (x, y) → inB b (plc e (a + 1) c) → inB b (plc e (a - 1) c) → -((c.natAbs : Nat) : Int) < a - 1 → a + 1 < ((c.natAbs : Nat) : Int) → False := by
    intro e a c he i1 i2 l1 l2
    obtain ⟨u, hu, n1, n2⟩ := nu_step (h := h) (t := t) (e := e) l1 l2
    rw [he] at n1 n2
    rcases hx with hx | hx
    · have a1 := hx _ i1
      have a2 := hx _ i2
      omega
    · have a1 := hx _ i1
      have a2 := hx _ i2
      omega
  rcases ho with hy | hy
  · left
    refine ⟨?_, hy⟩
    show x ∈ atX b.1 b.2.2.1 R
    rw [at_in]
    by_cases hc : x = max b.1 (0 - R) ∨ x = min b.2.2.1 R ∨ x = 0 - R ∨ x = 1 - R ∨ x = R - 1 ∨ x = R
    · exact hc
    · exfalso
      exact key true x y rfl ⟨show b.1 ≤ x + 1 by omega, show x + 1 ≤ b.2.2.1 by omega, p3, p4⟩ ⟨show b.1 ≤ x - 1 by omega, show x - 1 ≤ b.2.2.1 by omega, p3, p4⟩ (by omega) (by omega)
  · right
    refine ⟨?_, hy⟩
    show y ∈ atX b.2.1 b.2.2.2 R
    rw [at_in]
    by_cases hc : y = max b.2.1 (0 - R) ∨ y = min b.2.2.2 R ∨ y = 0 - R ∨ y = 1 - R ∨ y = R - 1 ∨ y = R
    · exact hc
    · exfalso
      exact key false y x rfl ⟨p1, p2, show b.2.1 ≤ y + 1 by omega, show y + 1 ≤ b.2.2.2 by omega⟩ ⟨p1, p2, show b.2.1 ≤ y - 1 by omega, show y - 1 ≤ b.2.2.2 by omega⟩ (by omega) (by omega)
theorem ring_less {h : Fin 4} {t : Bool} {p q : Int × Int} (hr : rgP p < rgP q) : nuW h t p < nuW h t q := by
  have h1 := nu_lt (h := h) (t := t) (p := p) (R := rgP p) (Int.le_refl _)
  have h0 : 0 ≤ rgP p := by unfold rgP; omega
  have h2 := nu_ge (h := h) (t := t) (p := q) (R := rgP p) h0 (by show rgP p + 1 ≤ rgP q; omega)
  omega
theorem near_in {b : Bx} (hb : BxOk b) : ∃ q, inB b q ∧ rgP q = nearB b := by
  obtain ⟨l, lo, r, hi⟩ := b
  obtain ⟨o1, o2⟩ := hb
  dsimp only at o1 o2
  refine ⟨(max l (min r 0), max lo (min hi 0)), ⟨?_, ?_, ?_, ?_⟩, ?_⟩
  · show l ≤ max l (min r 0); omega
  · show max l (min r 0) ≤ r; omega
  · show lo ≤ max lo (min hi 0); omega
  · show max lo (min hi 0) ≤ hi; omega
  · unfold rgP nearB
    dsimp only
    omega
theorem near_le {b : Bx} {p : Int × Int} (hp : inB b p) : nearB b ≤ rgP p := by
  obtain ⟨p1, p2, p3, p4⟩ := hp
  unfold rgP nearB
  omega
theorem far_in {b : Bx} (hb : BxOk b) : ∃ q, inB b q ∧ rgP q = farB b := by
  obtain ⟨l, lo, r, hi⟩ := b
  obtain ⟨o1, o2⟩ := hb
  dsimp only at o1 o2
  have hq : ∀ x y : Int, (x = l ∨ x = r) → (y = lo ∨ y = hi) → inB (l, lo, r, hi) (x, y) := fun x y hx hy => ⟨show l ≤ x by omega, show x ≤ r by omega, show lo ≤ y by omega, show y ≤ hi by omega⟩
  by_cases c1 : 0 - l ≤ r <;> by_cases c2 : 0 - lo ≤ hi
  · exact ⟨(r, hi), hq _ _ (.inr rfl) (.inr rfl), by unfold rgP farB; dsimp only; omega⟩
  · exact ⟨(r, lo), hq _ _ (.inr rfl) (.inl rfl), by unfold rgP farB; dsimp only; omega⟩
  · exact ⟨(l, hi), hq _ _ (.inl rfl) (.inr rfl), by unfold rgP farB; dsimp only; omega⟩
  · exact ⟨(l, lo), hq _ _ (.inl rfl) (.inl rfl), by unfold rgP farB; dsimp only; omega⟩
theorem far_le {b : Bx} {p : Int × Int} (hp : inB b p) : rgP p ≤ farB b := by
  obtain ⟨p1, p2, p3, p4⟩ := hp
  unfold rgP farB
  omega
theorem in_nuL {h : Fin 4} {t : Bool} {b : Bx} {p : Int × Int} (hp : inB b p) : nuW h t p ∈ nuL h t b (widB b) := nuL_mem.mpr ⟨nuW_nonneg _ _ _, by rw [plN_of rfl]; exact hp⟩
theorem least_end {h : Fin 4} {t : Bool} {b : Bx} {m : Int} (hb : BxOk b) (hm : MinOf (nuL h t b (widB b)) m) : ∃ p, p ∈ endR b (nearB b) ∧ inB b p ∧ nuW h t p = m := by
  obtain ⟨h1, h2⟩ := hm
  obtain ⟨m0, hi⟩ := nuL_mem.mp h1
  have e := plN_nu (h := h) (t := t) m0
  generalize plN h t m = p at *
  have hall : ∀ q, inB b q → nuW h t p ≤ nuW h t q := fun q hq => by rw [e]; exact h2 _ (in_nuL hq)
  refine ⟨p, at_end hi ?_ (.inl hall), hi, e⟩
  obtain ⟨q, hq, er⟩ := near_in hb
  have h3 := near_le hi
  by_cases hc : rgP p = nearB b
  · exact hc
  · have := ring_less (h := h) (t := t) (p := q) (q := p) (by omega)
    have := hall q hq
    omega
theorem most_end {h : Fin 4} {t : Bool} {b : Bx} {m : Int} (hb : BxOk b) (hm : MaxOf (nuL h t b (widB b)) m) : ∃ p, p ∈ endR b (farB b) ∧ inB b p ∧ nuW h t p = m := by
  obtain ⟨h1, h2⟩ := hm
  obtain ⟨m0, hi⟩ := nuL_mem.mp h1
  have e := plN_nu (h := h) (t := t) m0
  generalize plN h t m = p at *
  have hall : ∀ q, inB b q → nuW h t q ≤ nuW h t p := fun q hq => by rw [e]; exact h2 _ (in_nuL hq)
  refine ⟨p, at_end hi ?_ (.inr hall), hi, e⟩
  obtain ⟨q, hq, er⟩ := far_in hb
  have h3 := far_le hi
  by_cases hc : rgP p = farB b
  · exact hc
  · have := ring_less (h := h) (t := t) (p := p) (q := q) (by omega)
    have := hall q hq
    omega
/-- the candidates, those in the box, their numbers -/
def endsP (b : Bx) : List (Int × Int) := endR b (nearB b) ++ endR b (farB b)
def inBb (b : Bx) (p : Int × Int) : Bool := (decide (b.1 ≤ p.1) && decide (p.1 ≤ b.2.2.1)) && (decide (b.2.1 ≤ p.2) && decide (p.2 ≤ b.2.2.2))
theorem inBb_iff {b : Bx} {p : Int × Int} : inBb b p = true ↔ inB b p := by
  unfold inBb inB
  simp only [Bool.and_eq_true, decide_eq_true_eq, and_assoc]
def endsI (s : Int) (h : Fin 4) (t : Bool) (b : Bx) : List Int := ((endsP b).filter (inBb b)).map fun p => s + nuW h t p
theorem ends_min {s : Int} {h : Fin 4} {t : Bool} {b : Bx} {m : Int} (hb : BxOk b) (hm : MinOf (nuL h t b (widB b)) m) : s + m ∈ endsI s h t b ∧ ∀ y ∈ endsI s h t b, s + m ≤ y := by
  obtain ⟨p, h1, h2, h3⟩ := least_end hb hm
  refine ⟨List.mem_map.mpr ⟨p, List.mem_filter.mpr ⟨List.mem_append_left _ h1, inBb_iff.mpr h2⟩, by rw [h3]⟩, fun y hy => ?_⟩
  obtain ⟨q, hq, rfl⟩ := List.mem_map.mp hy
  have := hm.2 _ (in_nuL (h := h) (t := t) (inBb_iff.mp (List.mem_filter.mp hq).2))
  omega
theorem ends_max {s : Int} {h : Fin 4} {t : Bool} {b : Bx} {m : Int} (hb : BxOk b) (hm : MaxOf (nuL h t b (widB b)) m) : s + m ∈ endsI s h t b ∧ ∀ y ∈ endsI s h t b, y ≤ s + m := by
  obtain ⟨p, h1, h2, h3⟩ := most_end hb hm
  refine ⟨List.mem_map.mpr ⟨p, List.mem_filter.mpr ⟨List.mem_append_right _ h1, inBb_iff.mpr h2⟩, by rw [h3]⟩, fun y hy => ?_⟩
  obtain ⟨q, hq, rfl⟩ := List.mem_map.mp hy
  have := hm.2 _ (in_nuL (h := h) (t := t) (inBb_iff.mp (List.mem_filter.mp hq).2))
  omega
theorem endR_len (b : Bx) (R : Int) : (endR b R).length = 24 := by
  unfold endR endW atX
  simp
end L3

/-! L3: far boxes: rules and small lemmas of the walk. -/
namespace L3
open PySem PySem.Spec L2 TL PyProof.Rows
theorem args_max5 (a b c d e : Value) : argsOk "max" ⟨[a, b, c, d, e], []⟩ := by unfold argsOk; kernel_rfl
theorem mx5 {i j k l n m : Int} (h : m ∈ [i, j, k, l, n]) (h' : ∀ y, y ∈ [i, j, k, l, n] → y ≤ m) : m = max (max (max (max i j) k) l) n := by
  have := h' i (by simp); have := h' j (by simp); have := h' k (by simp); have := h' l (by simp); have := h' n (by simp)
  simp at h; omega
section
variable {X : Cx} {P : Program} {w : World} {K : PySem.W.Frag} {mg : Str → Option Value} {base : Heap} {N : List Str} {sc : Scope} {k : Nat} {ρ : Env} {μ μ1 : Mem} {p : PV} {e : Expr} {pos cp : Pos}
theorem cr_max5 (hc : X.calm = true) : CallR X (.builtin "max") (fun vs H Q => ∃ i j k l n : Int, vs = [.int i, .int j, .int k, .int l, .int n] ∧ Q (.int (max (max (max (max i j) k) l) n)) H) := by
  intro pins s σ H vs us Q I r h
  obtain ⟨i, j, k, l, n, rfl, q⟩ := h
  have ri := vals_ints (ns := [i, j, k, l, n]) r
  cases r with
  | @cons _ u _ us1 r0 rr =>
    obtain ⟨v, t, o, z, rfl⟩ := Vals.cons4 rr
    exact max_many_raw (args_max5 _ _ _ _ _) (le_line (Nat.le_of_ble_eq_true rfl)) (I.ok.hd hc) ri fun h' tk m t' hk h1 h2 => ⟨.int _, H, I.kept hk, ⟨_, rfl⟩, by rw [mx5 h1 h2]; exact q⟩
theorem ca_max5 {i j k l n : Int} (hc : X.calm = true) : CallA X (.builtin "max") [.int i, .int j, .int k, .int l, .int n] μ (.int (max (max (max (max i j) k) l) n)) :=
  ⟨_, cr_max5 hc, fun ad H vs Q m r f => by
    have := r.ints' (ns := [i, j, k, l, n])
    exact ⟨i, j, k, l, n, this, f [] _ H Stp.refl (by rwa [AD.append_nil]) (Rp.int' _)⟩⟩
theorem WE.listTO {Qa : PV → Mem → Prop} (cx : CxD X P w K mg base N sc k) (hx : sc.names.lookup ("list" : Str) = some .globalImplicit) (hm : mg "list" = none) (ha : WE X e ρ μ fun p m => ∃ xs, p = .tup xs ∧ Qa (.obj m.length) (m ++ [.lst xs]))
    (he : starEach [e] X.env = (false, eval e X.env) :: starEach [] X.env := by rfl) (hpl : (backTo pos (starEach [] X.env)).any (·.1) = false := by rfl) :
    WE X (.Call (.Name "list" cp) [e] [] pos) ρ μ Qa := fun ad σ H Q R f => by
  refine wE.of (pe_callTy call_list_of (cx.gl "list" hx) (by rw [cx.emg]; exact hm) rfl (pa_w _) (by decide) (by decide) he hpl) ?_
  refine (WA.cons (es := []) (Qa := fun ps m2 => ∃ xs, ps = [.tup xs] ∧ Qa (.obj m2.length) (m2 ++ [.lst xs])) (WE.mono ha fun p m q => WA.nil (by obtain ⟨xs, rfl, q⟩ := q; exact ⟨xs, rfl, q⟩)) he) ad σ H _ R fun ad1 us H1 ps μ1 s1 m1 r1 q => ?_
  obtain ⟨xs, rfl, q⟩ := q
  obtain ⟨u, e1, ru⟩ := r1.inv1
  obtain ⟨l, vs, e2, hq, rl⟩ := ru.tup_inv
  refine ⟨l, vs, by rw [e1, e2], .inr hq, fun d hd => ?_⟩
  have s2 : Stp (ad ++ ad1) [d] H1 (upd H1 d (.lst vs)) := Stp.fresh hd
  refine f (ad1 ++ [d]) _ _ (.obj μ1.length) (μ1 ++ [.lst xs]) (s1.trans s2) ?_ ?_ q
  · rw [← AD.append_assoc]
    exact m1.push hd ⟨vs, upd_same, RpL.mono (K := X.K) s2 xs vs rl⟩
  · rw [← AD.append_assoc]
    unfold Rp
    exact ⟨d, rfl, AD.at_snoc m1.len⟩
end
/-! ### pieces as pairs -/
theorem zip_pc : ∀ (xs ys : List Int), zipP (xs.map PV.int) (ys.map PV.int) = (xs.zip ys).map ptP
  | [], _ => rfl
  | _ :: _, [] => rfl
  | x :: xs, y :: ys => by
    have := zip_pc xs ys
    show PV.tup [.int x, .int y] :: zipP (xs.map PV.int) (ys.map PV.int) = ptP (x, y) :: (xs.zip ys).map ptP
    rw [this]
    rfl
def heS (e : Bool) : Str := if e = true then "e" else "n"
theorem pl_b {e : Bool} {a c : Int} {g : Fin 4} : byW g (plc e a c) = a ∨ byW g (plc e a c) = -a ∨ byW g (plc e a c) = c ∨ byW g (plc e a c) = -c := by
  cases e
  · show byW g (c, a) = a ∨ byW g (c, a) = -a ∨ byW g (c, a) = c ∨ byW g (c, a) = -c
    rcases hf4 g with rfl | rfl | rfl | rfl
    · exact .inr (.inr (.inl (by_0 _)))
    · exact .inl (by_1 _)
    · exact .inr (.inr (.inr ((by_2 _).trans (Int.zero_sub c))))
    · exact .inr (.inl ((by_3 _).trans (Int.zero_sub a)))
  · show byW g (a, c) = a ∨ byW g (a, c) = -a ∨ byW g (a, c) = c ∨ byW g (a, c) = -c
    rcases hf4 g with rfl | rfl | rfl | rfl
    · exact .inl (by_0 _)
    · exact .inr (.inr (.inl (by_1 _)))
    · exact .inr (.inl ((by_2 _).trans (Int.zero_sub a)))
    · exact .inr (.inr (.inr ((by_3 _).trans (Int.zero_sub c))))
theorem pl_B {e : Bool} {a c : Int} {g : Fin 4} (ha : -2000000000 ≤ a ∧ a ≤ 2000000000) (hc : -2000000000 ≤ c ∧ c ≤ 2000000000) : B 32 (byW g (plc e a c)) := by
  have := pl_b (e := e) (a := a) (c := c) (g := g)
  exact B.rng (a := 2000000000) (by omega) (by omega) (by decide)
theorem sd_B {h : Fin 4} {t : Bool} {k : Nat} {e : Bool} {a c : Int} (k4 : k < 4) (ha : -2000000000 ≤ a ∧ a ≤ 2000000000) (hc : -2000000000 ≤ c ∧ c ≤ 2000000000) : B 70 (sdF h t k (plc e a c)) := by
  unfold sdF moreF
  have b1 := pl_B (e := e) (g := hdR h t ((k : Nat) : Int)) ha hc
  have b2 := pl_B (e := e) (g := hdR h t (((k : Nat) : Int) + 1)) ha hc
  refine B.le (B.add (B.add (B.mul (B.mul (show B 3 (4 : Int) by decide) b1) b1) (B.mul (show B 3 (2 * ((k : Nat) : Int) - 3) from B.rng (a := 3) (by omega) (by omega) (by decide)) b1)) b2) (by decide)
theorem mo_at {k : Nat} (k4 : k < 4) : atI [PV.int (-3), .int (-1), .int 1, .int 3] ((k : Nat) : Int) = some (.int (2 * ((k : Nat) : Int) - 3)) := by
  have : k = 0 ∨ k = 1 ∨ k = 2 ∨ k = 3 := by omega
  rcases this with rfl | rfl | rfl | rfl <;> rfl
/-- every third number of a stretch -/
def sdL (h : Fin 4) (t : Bool) (e : Bool) (c : Int) (k : Nat) (f : Int) (i : Nat) : List PV := (List.range i).map fun (j : Nat) => .int (sdF h t k (plc e (f + ((j : Nat) : Int)) c))
theorem sdL_up {h : Fin 4} {t : Bool} {e : Bool} {c f : Int} {k i : Nat} : sdL h t e c k f (i + 1) = sdL h t e c k f i ++ [.int (sdF h t k (plc e (f + ((i : Nat) : Int)) c))] := by
  unfold sdL
  rw [List.range_succ, List.map_append]
  rfl
theorem sdL_3 {h : Fin 4} {t : Bool} {e : Bool} {c f : Int} {k : Nat} : sdL h t e c k f 3 = [.int (sdF h t k (plc e f c)), .int (sdF h t k (plc e (f + 1) c)), .int (sdF h t k (plc e (f + 2) c))] := by
  show [PV.int (sdF h t k (plc e (f + ((0 : Nat) : Int)) c)), .int (sdF h t k (plc e (f + ((1 : Nat) : Int)) c)), .int (sdF h t k (plc e (f + ((2 : Nat) : Int)) c))] = _
  rw [show f + ((0 : Nat) : Int) = f by omega]
  rfl
theorem sdL_len {h : Fin 4} {t : Bool} {e : Bool} {c f : Int} {k i : Nat} : (sdL h t e c k f i).length = i := by
  unfold sdL
  rw [List.length_map, List.length_range]
/-- those of the next two cuts within the row -/
def cutP2 (f l : Int) (z : Int) : List Int := [z, z + 1].filter fun u => decide (f < u) && decide (u ≤ l)
def inF2 (f l : Int) : PV → Option PV
  | .int u => if (decide (f < u) && decide (u ≤ l)) = true then some (.int u) else none
  | _ => none
theorem inF2_all (f l z : Int) : [PV.int z, .int (z + 1)].filterMap (inF2 f l) = (cutP2 f l z).map PV.int := by
  unfold cutP2
  have key : ∀ us : List Int, (us.map PV.int).filterMap (inF2 f l) = (us.filter fun u => decide (f < u) && decide (u ≤ l)).map PV.int := fun us => by
    induction us with
    | nil => rfl
    | cons u us ih =>
      rw [List.map_cons]
      cases hc : (decide (f < u) && decide (u ≤ l)) with
      | true =>
        have e1 : inF2 f l (.int u) = some (.int u) := if_pos hc
        rw [List.filterMap_cons_some e1, ih, List.filter_cons_of_pos (p := fun u => decide (f < u) && decide (u ≤ l)) hc, List.map_cons]
      | false =>
        have e1 : inF2 f l (.int u) = none := if_neg (by rw [hc]; decide)
        rw [List.filterMap_cons_none e1, ih, List.filter_cons_of_neg (p := fun u => decide (f < u) && decide (u ≤ l)) (by rw [hc]; decide)]
  exact key [z, z + 1]
theorem cutP2_len (f l z : Int) : (cutP2 f l z).length ≤ 2 := List.length_filter_le _ _
theorem cut2_mem {c f l z : Int} : z ∈ cutsF c f l ↔ z ∈ cutP2 f l (0 - ((c.natAbs : Nat) : Int)) ++ cutP2 f l ((c.natAbs : Nat) : Int) := by
  rw [cuts_mem]
  unfold cutP2
  simp only [List.mem_append, List.mem_filter, List.mem_cons, List.not_mem_nil, or_false, Bool.and_eq_true, decide_eq_true_eq]
  omega
/-! ### the candidates -/
def pF (b : Bx) : PV → Option PV
  | .tup [.int x, .int y] => if inBb b (x, y) = true then some (ptP (x, y)) else none
  | _ => none
theorem pF_all (b : Bx) : ∀ ps : List (Int × Int), (ps.map ptP).filterMap (pF b) = (ps.filter (inBb b)).map ptP
  | [] => rfl
  | p :: ps => by
    rw [List.map_cons]
    cases hc : inBb b p with
    | true => rw [List.filterMap_cons_some (show pF b (ptP p) = some (ptP p) by show (if inBb b p = true then _ else _) = _; rw [hc]; rfl), pF_all b ps, List.filter_cons_of_pos hc, List.map_cons]
    | false => rw [List.filterMap_cons_none (show pF b (ptP p) = none by show (if inBb b p = true then _ else _) = _; rw [hc]; rfl), pF_all b ps, List.filter_cons_of_neg (by rw [hc]; decide)]
def nF (s : Int) (h : Fin 4) (t : Bool) : PV → Option PV
  | .tup [.int x, .int y] => some (.int (s + nuW h t (x, y)))
  | _ => none
theorem nF_all (s : Int) (h : Fin 4) (t : Bool) : ∀ ps : List (Int × Int), (ps.map ptP).filterMap (nF s h t) = (ps.map fun p => s + nuW h t p).map PV.int
  | [] => rfl
  | p :: ps => by
    rw [List.map_cons, List.filterMap_cons_some (show nF s h t (ptP p) = some (.int (s + nuW h t p)) from rfl), nF_all s h t ps]
    rfl
theorem endsP_two (b : Bx) : endsP b = [nearB b, farB b].flatMap (endR b) := by
  unfold endsP
  simp
theorem endR_two (b : Bx) (R : Int) : endR b R = [R, 0 - R].flatMap (endW b R) := by
  unfold endR
  simp
theorem flat_up {α : Type} {F : Int → List α} {xs : List Int} {i : Nat} {x : Int} (h : xs[i]? = some x) : (xs.take (i + 1)).flatMap F = (xs.take i).flatMap F ++ F x := by
  rw [List.take_succ, h, List.flatMap_append]
  simp
theorem map_up {α : Type} {F : Int → α} {xs : List Int} {i : Nat} {x : Int} (h : xs[i]? = some x) : (xs.take (i + 1)).map F = (xs.take i).map F ++ [F x] := by
  rw [List.take_succ, h, List.map_append]
  rfl
theorem map_snoc {α β : Type} {F : α → β} {xs : List α} {x : α} : (xs ++ [x]).map F = xs.map F ++ [F x] := by
  rw [List.map_append]
  rfl
theorem endsP_len (b : Bx) : (endsP b).length = 48 := by
  unfold endsP
  rw [List.length_append, endR_len, endR_len]
theorem in_PtS {b : Bx} {p : Int × Int} (hs : BxS b) (hb : BxOk b) (hp : inBb b p = true) : PtS p := by
  obtain ⟨p1, p2, p3, p4⟩ := inBb_iff.mp hp
  obtain ⟨⟨a1, a2⟩, ⟨a3, a4⟩, ⟨a5, a6⟩, a7, a8⟩ := bx_near hb hs
  exact ⟨by omega, by omega, by omega, by omega⟩
theorem bxS_mk {a b c d : Int} (h1 : -1000000000 ≤ a) (h2 : c ≤ 1000000000) (h3 : -1000000000 ≤ b) (h4 : d ≤ 1000000000) : BxS (a, b, c, d) := ⟨h1, h2, h3, h4⟩
theorem bxO_mk {a b c d : Int} (h1 : a ≤ c) (h2 : b ≤ d) : BxOk (a, b, c, d) := ⟨h1, h2⟩
end L3

namespace L3
open PySem PySem.Spec L2 TL
def top (i : Nat) : Stmt := PySem.Challenge.pw_laidround_k13_sums_of_far_boxes.main.body.getD i (.Pass ⟨0, 0, 0, 0⟩)
abbrev s_headings_of : Stmt := top 6
abbrev s_reach : Stmt := top 7
abbrev s_more_at : Stmt := top 8
abbrev s_need_box : Stmt := top 10
abbrev s_has_middle : Stmt := top 11
abbrev s_sides_in : Stmt := top 12
abbrev s_aside : Stmt := top 13
abbrev s_summed : Stmt := top 14
abbrev s_pieces_of : Stmt := top 15
abbrev s_box_sum : Stmt := top 17
abbrev s_box_ends : Stmt := top 18
abbrev s_law_folded : Stmt := top 20
abbrev s_law_seed : Stmt := top 21
abbrev s_law_draw : Stmt := top 22
abbrev s_law_spiral : Stmt := top 23
abbrev s_law_headings : Stmt := top 24
abbrev s_law_by : Stmt := top 27
abbrev s_law_more_at : Stmt := top 28
abbrev s_law_far : Stmt := top 29
abbrev s_law_corner : Stmt := top 30
abbrev s_law_cut : Stmt := top 31
abbrev s_law_box : Stmt := top 33
abbrev s_law_place : Stmt := top 36
abbrev s_law_side_at : Stmt := top 35
abbrev s_law_stretch : Stmt := top 34
abbrev s_law_side : Stmt := top 38
abbrev s_law_row : Stmt := top 37
abbrev s_law_thin : Stmt := top 39
abbrev s_law_shorn : Stmt := top 40
abbrev s_law_split : Stmt := top 41
abbrev s_law_ends : Stmt := top 42
abbrev s_law : Stmt := top 43
abbrev s_Worth_init : Stmt := (clsBody (top 16)).getD 0 (.Pass ⟨0, 0, 0, 0⟩)
abbrev s_Worth_at : Stmt := (clsBody (top 16)).getD 1 (.Pass ⟨0, 0, 0, 0⟩)
structure Txt (K : PySem.W.Frag) (w : World) (mg : Str → Option Value) (CW : Addr) : Prop where
  d_headings_of : DefAt K mg "headings_of" s_headings_of ["spiral"]
  d_reach : DefAt K mg "reach" s_reach ["box", "heading"]
  d_more_at : DefAt K mg "more_at" s_more_at ["side", "distance"]
  d_need_box : DefAt K mg "need_box" s_need_box ["box"]
  d_has_middle : DefAt K mg "has_middle" s_has_middle ["box"]
  d_sides_in : DefAt K mg "sides_in" s_sides_in ["spiral", "box"]
  d_aside : DefAt K mg "aside" s_aside ["distance", "least", "most"]
  d_summed : DefAt K mg "summed" s_summed ["first", "many", "worth"]
  d_pieces_of : DefAt K mg "pieces_of" s_pieces_of ["near", "far", "least", "most"]
  d_box_sum : DefAt K mg "box_sum" s_box_sum ["spiral", "box"]
  d_box_ends : DefAt K mg "box_ends" s_box_ends ["spiral", "box"]
  d_law_folded : DefAt K mg "_law_folded" s_law_folded ["script"]
  d_law_seed : DefAt K mg "_law_seed" s_law_seed ["cell"]
  d_law_draw : DefAt K mg "_law_draw" s_law_draw ["seed", "most"]
  d_law_spiral : DefAt K mg "_law_spiral" s_law_spiral ["seed"]
  d_law_headings : DefAt K mg "_law_headings" s_law_headings ["spiral"]
  d_law_by : DefAt K mg "_law_by" s_law_by ["place", "heading"]
  d_law_more_at : DefAt K mg "_law_more_at" s_law_more_at ["spiral", "place"]
  d_law_far : DefAt K mg "_law_far" s_law_far ["seed"]
  d_law_corner : DefAt K mg "_law_corner" s_law_corner ["seed"]
  d_law_cut : DefAt K mg "_law_cut" s_law_cut ["number"]
  d_law_box : DefAt K mg "_law_box" s_law_box ["seed"]
  d_law_place : DefAt K mg "_law_place" s_law_place ["heading", "at", "across"]
  d_law_side_at : DefAt K mg "_law_side_at" s_law_side_at ["spiral", "side", "heading", "across", "at"]
  d_law_stretch : DefAt K mg "_law_stretch" s_law_stretch ["spiral", "heading", "across", "far", "first", "last"]
  d_law_side : DefAt K mg "_law_side" s_law_side ["spiral", "place"]
  d_law_row : DefAt K mg "_law_row" s_law_row ["spiral", "heading", "across", "first", "last"]
  d_law_thin : DefAt K mg "_law_thin" s_law_thin ["seed", "spiral"]
  d_law_shorn : DefAt K mg "_law_shorn" s_law_shorn ["seed", "spiral", "box"]
  d_law_split : DefAt K mg "_law_split" s_law_split ["seed", "spiral", "box"]
  d_law_ends : DefAt K mg "_law_ends" s_law_ends ["spiral", "box"]
  c_HEADINGS : ∃ t, mg "HEADINGS" = some (.str "enws" t)
  z_range : mg "range" = none
  z_max : mg "max" = none
  z_min : mg "min" = none
  z_len : mg "len" = none
  z_int : mg "int" = none
  z_list : mg "list" = none
  z_zip : mg "zip" = none
  z_sorted : mg "sorted" = none
  z_abs : mg "abs" = none
  z_set : mg "set" = none
  z_tuple : mg "tuple" = none
  k_MORE : KTup K mg "MORE" [.int (-3), .int (-1), .int 1, .int 3]
  cW : Cls K CW
  nW_start : NoAttr K CW "start"
  nW_side : NoAttr K CW "side"
  nW_least : NoAttr K CW "least"
  nW_most : NoAttr K CW "most"
  nW_turned : NoAttr K CW "turned"
  nW_bound : NoAttr K CW "bound"
  i_Worth : IDef K mg CW "Worth" "Worth.__init__" s_Worth_init ["self", "start", "side", "begin", "least", "most"]
  m_Worth_at : MDef K CW "at" "Worth.at" s_Worth_at ["self", "distance"]
section
variable {P : Program} {w : World} {K : PySem.W.Frag} {mg : Str → Option Value} {base : Heap} {CW : Addr}
theorem sc_headings_of : FnScope ["spiral", "start", "heading", "turn", "at", "by", "side"] ["spiral"] (defScope s_headings_of) := ⟨rfl, rfl, rfl, by decide +kernel, rfl, by decide +kernel, by decide +kernel⟩
def A_headings_of : ASp := fun args μ Q _ => ∃ (s : Int) (h : Fin 4) (t : Bool), args = [spP s h t] ∧ Q (.lst (hdsL h t)) μ
theorem ok_headings_of (T : Txt K w mg CW) : FnA P w K mg base 1 "headings_of" A_headings_of := by
  refine T.d_headings_of.ok sc_headings_of (by rintro _ _ _ _ ⟨_, _, _, rfl, _⟩; rfl) ?_
  rintro X _ μ Q E cx ⟨s, h, t, rfl, hQ⟩
  have cd := cx.toCxD
  have v0 : ∀ {pos : Pos}, PE X (.Name "spiral" pos) (tVar 0) := cx.var 0 rfl (by decide +kernel)
  have v1 : ∀ {pos : Pos}, PE X (.Name "start" pos) (tVar 1) := cx.var 1 rfl (by decide +kernel)
  have v2 : ∀ {pos : Pos}, PE X (.Name "heading" pos) (tVar 2) := cx.var 2 rfl (by decide +kernel)
  have v3 : ∀ {pos : Pos}, PE X (.Name "turn" pos) (tVar 3) := cx.var 3 rfl (by decide +kernel)
  have v4 : ∀ {pos : Pos}, PE X (.Name "at" pos) (tVar 4) := cx.var 4 rfl (by decide +kernel)
  have v5 : ∀ {pos : Pos}, PE X (.Name "by" pos) (tVar 5) := cx.var 5 rfl (by decide +kernel)
  have g_HEADINGS : (defScope s_headings_of).names.lookup ("HEADINGS" : Str) = some .globalImplicit := by decide +kernel
  have g_int : (defScope s_headings_of).names.lookup ("int" : Str) = some .globalImplicit := by decide +kernel
  have g_range : (defScope s_headings_of).names.lookup ("range" : Str) = some .globalImplicit := by decide +kernel
  have bt : B 3 (if t = true then (3 : Int) else 1) := by cases t <;> decide
  show DSs X _ [_, _, _, _, _, _, _] _ _
  refine DSs.unpack (p := spP s h t) (DE.pe v0 rfl) ?_
  intro x1 e1
  subst x1
  refine ⟨_, DG.tup cx.calm (DGs.cons (DG.name (cx.tgt 1 rfl (by decide +kernel))) (DGs.cons (DG.name (cx.tgt 2 rfl (by decide +kernel))) (DGs.cons (DG.name (cx.tgt 3 rfl (by decide +kernel))) DGs.nil))), ?_⟩
  show DSs X _ [_, _, _, _, _, _, _] _ _
  refine CxF.setP (q := .int ((h.val : Nat) : Int)) cx 4 rfl (by decide +kernel) (DE.bmS PySem.F.slot_str_index PySem.F.type_str_index (DE.globS cd g_HEADINGS T.c_HEADINGS) (DA.cons (DE.pe v2 rfl) DA.nil) (ma_sindex (hd_idx h))) ?_
  show DSs X _ [_, _, _, _, _, _, _] _ _
  refine CxF.setP (q := .int (if t = true then 3 else 1)) cx 5 rfl (by decide +kernel) (DE.ixL (DE.lst (DA.cons DE.int (DA.cons DE.int DA.nil))) (DE.callTy cd g_int T.z_int boot_int (DA.cons (DE.cast (DE.cmp (DE.pe v3 rfl) DE.str oa_eqS) (congrArg PV.bl (tn_r t))) DA.nil) ca_intB) rfl at_b2i) ?_
  show DSs X _ [_, _, _, _, _, _, _] _ _
  refine DSs.ret1 (DE.cast (q := .lst (hdsL h t)) (DE.comp cx (DI.range1 (cx.gl _ g_range) (by rw [cx.emg]; exact T.z_range) DE.int (by decide) (by decide)) (by decide +kernel) (own := [("side", 6)]) (Tgt.name cx.nd 6 rfl (by decide +kernel)) (by decide) (hdsF h t) trivial (by rw [rngL_length]; exact le_line (by decide)) ?_) (congrArg PV.lst (hdsF_all h t))) ?_
  · intro q hq
    obtain ⟨i, hi⟩ := List.getElem?_of_mem hq
    have hi2 : i < 4 := by simpa [rngL_length] using (List.getElem?_eq_some_iff.mp hi).1
    have hp := rngL_get hi
    rw [Int.zero_add] at hp
    subst hp
    have bk : B 3 ((i : Nat) : Int) := B.rng (a := 4) (by omega) (by omega) (by decide)
    refine ⟨_, rfl, .inr ⟨.str (hdS (hdR h t ((i : Nat) : Int))), rfl, fun X' cx' => WTs.nil ⟨rfl, rfl⟩, fun X' cx' => ?_⟩⟩
    exact DE.ixS (DE.globS cx' (by decide +kernel) T.c_HEADINGS) (DE.cast (q := .int (((hdR h t ((i : Nat) : Int)).val : Nat) : Int)) (DE.bin (DE.bin (DE.pe (cx'.var (x := "at") 4 rfl (by decide +kernel)) rfl) (DE.bin (DE.pe (cx'.var (x := "by") 5 rfl (by decide +kernel)) rfl) (DE.pe (cx'.var (x := "side") 6 rfl (by decide +kernel)) rfl) (oa_mul (mulW bt bk (by decide)))) oa_add) DE.int (oa_mod (by decide : (0 : Int) < 4))) (congrArg PV.int (by rw [Int.mul_comm (if t = true then (3 : Int) else 1)]; exact hdR_val3 h t ((i : Nat) : Int)))) (hd_ix _) (le_line (by decide +kernel))
  · exact fin_same hQ rfl
theorem sc_reach : FnScope ["box", "heading", "left", "low", "right", "high", "ends"] ["box", "heading"] (defScope s_reach) := ⟨rfl, rfl, rfl, by decide +kernel, rfl, by decide +kernel, by decide +kernel⟩
def A_reach : ASp := fun args μ Q _ => ∃ (b : Bx) (g : Fin 4), args = [bxP b, .str (hdS g)] ∧ Q (ptP (rch b g)) μ
theorem ok_reach (T : Txt K w mg CW) : FnA P w K mg base 1 "reach" A_reach := by
  refine T.d_reach.ok sc_reach (by rintro _ _ _ _ ⟨_, _, rfl, _⟩; rfl) ?_
  rintro X _ μ Q E cx ⟨b, g, rfl, hQ⟩
  have cd := cx.toCxD
  have v0 : ∀ {pos : Pos}, PE X (.Name "box" pos) (tVar 0) := cx.var 0 rfl (by decide +kernel)
  have v1 : ∀ {pos : Pos}, PE X (.Name "heading" pos) (tVar 1) := cx.var 1 rfl (by decide +kernel)
  have v2 : ∀ {pos : Pos}, PE X (.Name "left" pos) (tVar 2) := cx.var 2 rfl (by decide +kernel)
  have v3 : ∀ {pos : Pos}, PE X (.Name "low" pos) (tVar 3) := cx.var 3 rfl (by decide +kernel)
  have v4 : ∀ {pos : Pos}, PE X (.Name "right" pos) (tVar 4) := cx.var 4 rfl (by decide +kernel)
  have v5 : ∀ {pos : Pos}, PE X (.Name "high" pos) (tVar 5) := cx.var 5 rfl (by decide +kernel)
  have v6 : ∀ {pos : Pos}, PE X (.Name "ends" pos) (tVar 6) := cx.var 6 rfl (by decide +kernel)
  obtain ⟨l, lo, r, hi⟩ := b
  show DSs X _ [_, _, _, _, _, _, _] _ _
  refine DSs.unpack (p := bxP (l, lo, r, hi)) (DE.pe v0 rfl) ?_
  intro x1 e1 x2 e2 x3 e3 x4 e4
  subst x1
  subst x2
  subst x3
  subst x4
  refine ⟨_, DG.tup cx.calm (DGs.cons (DG.name (cx.tgt 2 rfl (by decide +kernel))) (DGs.cons (DG.name (cx.tgt 3 rfl (by decide +kernel))) (DGs.cons (DG.name (cx.tgt 4 rfl (by decide +kernel))) (DGs.cons (DG.name (cx.tgt 5 rfl (by decide +kernel))) DGs.nil)))), ?_⟩
  rcases hf4 g with rfl | rfl | rfl | rfl
  · show DSs X _ [_, _, _, _, _, _, _] _ _
    refine DSs.ifc (kb := true) (DT.cast (DT.cmp (DE.pe v1 rfl) DE.str oa_inS) (by decide +kernel)) (fun _ => ?_) (fun hc => by cases hc)
    · refine CxF.setP (q := ptP (l, r)) cx 6 rfl (by decide +kernel) (DE.tup (DA.cons (DE.pe v2 rfl) (DA.cons (DE.pe v4 rfl) DA.nil))) (DSs.nil ?_)
      show DSs X _ [_, _, _, _, _, _, _] _ _
      refine DSs.ifc (kb := false) (DT.cast (DT.cmp (DE.pe v1 rfl) DE.str oa_inS) (by decide +kernel)) (fun hc => by cases hc) (fun _ => DSs.nil ?_)
      refine DSs.ret1 (DE.pe v6 rfl) ?_
      exact fin_same hQ rfl
  · show DSs X _ [_, _, _, _, _, _, _] _ _
    refine DSs.ifc (kb := false) (DT.cast (DT.cmp (DE.pe v1 rfl) DE.str oa_inS) (by decide +kernel)) (fun hc => by cases hc) (fun _ => ?_)
    · refine CxF.setP (q := ptP (lo, hi)) cx 6 rfl (by decide +kernel) (DE.tup (DA.cons (DE.pe v3 rfl) (DA.cons (DE.pe v5 rfl) DA.nil))) (DSs.nil ?_)
      show DSs X _ [_, _, _, _, _, _, _] _ _
      refine DSs.ifc (kb := false) (DT.cast (DT.cmp (DE.pe v1 rfl) DE.str oa_inS) (by decide +kernel)) (fun hc => by cases hc) (fun _ => DSs.nil ?_)
      refine DSs.ret1 (DE.pe v6 rfl) ?_
      exact fin_same hQ rfl
  · show DSs X _ [_, _, _, _, _, _, _] _ _
    refine DSs.ifc (kb := true) (DT.cast (DT.cmp (DE.pe v1 rfl) DE.str oa_inS) (by decide +kernel)) (fun _ => ?_) (fun hc => by cases hc)
    · refine CxF.setP (q := ptP (l, r)) cx 6 rfl (by decide +kernel) (DE.tup (DA.cons (DE.pe v2 rfl) (DA.cons (DE.pe v4 rfl) DA.nil))) (DSs.nil ?_)
      show DSs X _ [_, _, _, _, _, _, _] _ _
      refine DSs.ifc (kb := true) (DT.cast (DT.cmp (DE.pe v1 rfl) DE.str oa_inS) (by decide +kernel)) (fun _ => ?_) (fun hc => by cases hc)
      refine DSs.ret1 (DE.tup (DA.cons (DE.bin DE.int (DE.ixT (DE.pe v6 rfl) DE.int rfl) oa_sub) (DA.cons (DE.bin DE.int (DE.ixT (DE.pe v6 rfl) DE.int rfl) oa_sub) DA.nil))) ?_
      exact fin_same hQ rfl
  · show DSs X _ [_, _, _, _, _, _, _] _ _
    refine DSs.ifc (kb := false) (DT.cast (DT.cmp (DE.pe v1 rfl) DE.str oa_inS) (by decide +kernel)) (fun hc => by cases hc) (fun _ => ?_)
    · refine CxF.setP (q := ptP (lo, hi)) cx 6 rfl (by decide +kernel) (DE.tup (DA.cons (DE.pe v3 rfl) (DA.cons (DE.pe v5 rfl) DA.nil))) (DSs.nil ?_)
      show DSs X _ [_, _, _, _, _, _, _] _ _
      refine DSs.ifc (kb := true) (DT.cast (DT.cmp (DE.pe v1 rfl) DE.str oa_inS) (by decide +kernel)) (fun _ => ?_) (fun hc => by cases hc)
      refine DSs.ret1 (DE.tup (DA.cons (DE.bin DE.int (DE.ixT (DE.pe v6 rfl) DE.int rfl) oa_sub) (DA.cons (DE.bin DE.int (DE.ixT (DE.pe v6 rfl) DE.int rfl) oa_sub) DA.nil))) ?_
      exact fin_same hQ rfl

theorem sc_more_at : FnScope ["side", "distance"] ["side", "distance"] (defScope s_more_at) := ⟨rfl, rfl, rfl, by decide +kernel, rfl, by decide +kernel, by decide +kernel⟩
def A_more_at : ASp := fun args μ Q _ => ∃ (k : Nat) (z : Int), args = [.int ((k : Nat) : Int), .int z] ∧ k < 4 ∧ B 200 z ∧ Q (.int (moreF k z)) μ
theorem ok_more_at (T : Txt K w mg CW) : FnA P w K mg base 1 "more_at" A_more_at := by
  refine T.d_more_at.ok sc_more_at (by rintro _ _ _ _ ⟨_, _, rfl, _⟩; rfl) ?_
  rintro X _ μ Q E cx ⟨k, z, rfl, k4, bz, hQ⟩
  have cd := cx.toCxD
  have v0 : ∀ {pos : Pos}, PE X (.Name "side" pos) (tVar 0) := cx.var 0 rfl (by decide +kernel)
  have v1 : ∀ {pos : Pos}, PE X (.Name "distance" pos) (tVar 1) := cx.var 1 rfl (by decide +kernel)
  have g_MORE : (defScope s_more_at).names.lookup ("MORE" : Str) = some .globalImplicit := by decide +kernel
  have bk : B 3 (2 * ((k : Nat) : Int) - 3) := B.rng (a := 4) (by omega) (by omega) (by decide)
  show DSs X _ [_, _] _ _
  refine DSs.ret1 (DE.bin (DE.bin (DE.bin DE.int (DE.pe v1 rfl) (oa_mul (mulW (show B 3 (4 : Int) by decide) bz (by decide)))) (DE.pe v1 rfl) (oa_mul (mulW (B.mul (show B 3 (4 : Int) by decide) bz) bz (by decide)))) (DE.bin (DE.ixV (DE.gtup cd g_MORE T.k_MORE) (DE.pe v0 rfl) (at_more k4)) (DE.pe v1 rfl) (oa_mul (mulW bk bz (by decide)))) oa_add) ?_
  exact fin_same hQ rfl
theorem sc_need_box : FnScope ["box"] ["box"] (defScope s_need_box) := ⟨rfl, rfl, rfl, by decide +kernel, rfl, by decide +kernel, by decide +kernel⟩
def A_need_box : ASp := fun args μ Q _ => ∃ b : Bx, args = [bxP b] ∧ BxOk b ∧ Q .non μ
theorem ok_need_box (T : Txt K w mg CW) : FnA P w K mg base 1 "need_box" A_need_box := by
  refine T.d_need_box.ok sc_need_box (by rintro _ _ _ _ ⟨_, rfl, _⟩; rfl) ?_
  rintro X _ μ Q E cx ⟨b, rfl, hb, hQ⟩
  have cd := cx.toCxD
  have v0 : ∀ {pos : Pos}, PE X (.Name "box" pos) (tVar 0) := cx.var 0 rfl (by decide +kernel)
  have g_NoBox : (defScope s_need_box).names.lookup ("NoBox" : Str) = some .globalImplicit := by decide +kernel
  obtain ⟨h1, h2⟩ := hb
  show DSs X _ [_] _ _
  refine DSs.ifc (kb := false) (DT.cast (DW.t (DW.or (DT.cmp (DE.ixT (DE.pe v0 rfl) DE.int rfl) (DE.ixT (DE.pe v0 rfl) DE.int rfl) oa_gt) (fun _ => DW.or1 (DT.cmp (DE.ixT (DE.pe v0 rfl) DE.int rfl) (DE.ixT (DE.pe v0 rfl) DE.int rfl) oa_gt)))) (by rw [decide_eq_false (by omega), decide_eq_false (by omega)]; rfl)) (fun hc => by cases hc) (fun _ => DSs.nil ?_)
  exact DSs.nil (fin_same hQ rfl)
theorem sc_has_middle : FnScope ["box"] ["box"] (defScope s_has_middle) := ⟨rfl, rfl, rfl, by decide +kernel, rfl, by decide +kernel, by decide +kernel⟩
def A_has_middle : ASp := fun args μ Q _ => ∃ b : Bx, args = [bxP b] ∧ Q (.bl (decide (inB b (0, 0)))) μ
theorem ok_has_middle (T : Txt K w mg CW) : FnA P w K mg base 1 "has_middle" A_has_middle := by
  refine T.d_has_middle.ok sc_has_middle (by rintro _ _ _ _ ⟨_, rfl, _⟩; rfl) ?_
  rintro X _ μ Q E cx ⟨b, rfl, hQ⟩
  have cd := cx.toCxD
  have v0 : ∀ {pos : Pos}, PE X (.Name "box" pos) (tVar 0) := cx.var 0 rfl (by decide +kernel)
  show DSs X _ [_] _ _
  refine DSs.ret1 (DE.and (DE.chain (DE.ixT (DE.pe v0 rfl) DE.int rfl) DE.int oa_le (DE.ixT (DE.pe v0 rfl) DE.int rfl) oa_le) (fun _ => DE.one (DE.chain (DE.ixT (DE.pe v0 rfl) DE.int rfl) DE.int oa_le (DE.ixT (DE.pe v0 rfl) DE.int rfl) oa_le))) ?_
  exact fin_same hQ (congrArg PV.bl (mid_b b))
theorem sc_sides_in : FnScope ["spiral", "box", "found", "headings", "side", "near", "far", "least", "most"] ["spiral", "box"] (defScope s_sides_in) := ⟨rfl, rfl, rfl, by decide +kernel, rfl, by decide +kernel, by decide +kernel⟩
def A_sides_in : ASp := fun args μ Q _ => ∃ (s : Int) (h : Fin 4) (t : Bool) (b : Bx), args = [spP s h t, bxP b] ∧ Q (.obj μ.length) (μ ++ [.lst ((sinK h t b 4).map (sinT h t b))])
theorem ok_sides_in (T : Txt K w mg CW) : FnA P w K mg base 2 "sides_in" A_sides_in := by
  refine T.d_sides_in.ok sc_sides_in (by rintro _ _ _ _ ⟨_, _, _, _, rfl, _⟩; rfl) ?_
  rintro X _ μ Q E cx ⟨s, h, t, b, rfl, hQ⟩
  have cd := cx.toCxD
  have v0 : ∀ {pos : Pos}, PE X (.Name "spiral" pos) (tVar 0) := cx.var 0 rfl (by decide +kernel)
  have v1 : ∀ {pos : Pos}, PE X (.Name "box" pos) (tVar 1) := cx.var 1 rfl (by decide +kernel)
  have v2 : ∀ {pos : Pos}, PE X (.Name "found" pos) (tVar 2) := cx.var 2 rfl (by decide +kernel)
  have v3 : ∀ {pos : Pos}, PE X (.Name "headings" pos) (tVar 3) := cx.var 3 rfl (by decide +kernel)
  have v4 : ∀ {pos : Pos}, PE X (.Name "side" pos) (tVar 4) := cx.var 4 rfl (by decide +kernel)
  have v5 : ∀ {pos : Pos}, PE X (.Name "near" pos) (tVar 5) := cx.var 5 rfl (by decide +kernel)
  have v6 : ∀ {pos : Pos}, PE X (.Name "far" pos) (tVar 6) := cx.var 6 rfl (by decide +kernel)
  have v7 : ∀ {pos : Pos}, PE X (.Name "least" pos) (tVar 7) := cx.var 7 rfl (by decide +kernel)
  have v8 : ∀ {pos : Pos}, PE X (.Name "most" pos) (tVar 8) := cx.var 8 rfl (by decide +kernel)
  have g_headings_of : (defScope s_sides_in).names.lookup ("headings_of" : Str) = some .globalImplicit := by decide +kernel
  have g_range : (defScope s_sides_in).names.lookup ("range" : Str) = some .globalImplicit := by decide +kernel
  have g_reach : (defScope s_sides_in).names.lookup ("reach" : Str) = some .globalImplicit := by decide +kernel
  have g_max : (defScope s_sides_in).names.lookup ("max" : Str) = some .globalImplicit := by decide +kernel
  have F_headings_of := ok_headings_of (P := P) (w := w) (base := base) T
  have F_reach := ok_reach (P := P) (w := w) (base := base) T
  show DSs X _ [_, _, _, _, _, _, _, _, _] _ _
  refine CxF.setP (q := .obj μ.length) cx 2 rfl (by decide +kernel) (DE.lstO DA.nil) ?_
  show DSs X _ [_, _, _, _, _, _, _, _, _] _ _
  refine CxF.setP cx 3 rfl (by decide +kernel) (DE.call cd F_headings_of (by decide) g_headings_of (DA.cons (DE.pe v0 rfl) (DA.nil)) ⟨s, h, t, rfl, rfl, rfl⟩) ?_
  show DSs X _ [_, _, _, _, _, _, _, _, _] _ _
  refine DSs.cons (DS.for cx.po cx.calm (DI.range1 (cx.gl _ g_range) (by rw [cx.emg]; exact T.z_range) DE.int (by decide) (by decide)) (fun i ρ' μ' => (∃ a1 a2 a3 a4 a5 : Option PV, ρ' = [some (spP s h t), some (bxP b), some (.obj μ.length), some (.lst (hdsL h t)), a1, a2, a3, a4, a5]) ∧ μ' = μ ++ [.lst ((sinK h t b i).map (sinT h t b))]) ⟨⟨_, _, _, _, _, rfl⟩, rfl⟩ (fun _ _ _ _ _ => trivial) ?_ ?_)
  · rintro i p ρ' m' hi ⟨⟨a1, a2, a3, a4, a5, rfl⟩, hm⟩
    subst m'
    have i4 : i < 4 := by simpa [rngL_length] using (List.getElem?_eq_some_iff.mp hi).1
    have hp := rngL_get hi
    rw [Int.zero_add] at hp
    subst hp
    refine ⟨_, DG.name (cx.tgt 4 rfl (by decide +kernel)), ?_⟩
    have hs : sinK h t b (i + 1) = if nearF h t b i ≤ (rch b (hdR h t i)).2 then sinK h t b i ++ [i] else sinK h t b i := rfl
    have hT : sinT h t b i = .tup [.int ((i : Nat) : Int), .int (nearF h t b i), .int (rch b (hdR h t i)).2, .int (rch b (hdR h t (((i : Nat) : Int) + 1))).1, .int (rch b (hdR h t (((i : Nat) : Int) + 1))).2] := rfl
    have hnf : nearF h t b i = max (max (max 1 (rch b (hdR h t i)).1) (rch b (hdR h t (((i : Nat) : Int) + 1))).1) (1 - (rch b (hdR h t (((i : Nat) : Int) + 1))).2) := rfl
    generalize hr1 : rch b (hdR h t ((i : Nat) : Int)) = q1 at hs hT hnf
    generalize hr2 : rch b (hdR h t (((i : Nat) : Int) + 1)) = q2 at hT hnf
    obtain ⟨n1, f1⟩ := q1
    obtain ⟨l1, m1⟩ := q2
    dsimp only at hs hT hnf
    show DSs X _ [_, _, _, _, _, _, _, _, _] _ _
    refine DSs.unpack (p := ptP (n1, f1)) (DE.cast (DE.call cd F_reach (by decide) g_reach (DA.cons (DE.pe v1 rfl) (DA.cons (DE.ixL (DE.pe v3 rfl) (DE.pe v4 rfl) rfl (hds_at h t i4)) (DA.nil))) ⟨b, hdR h t ((i : Nat) : Int), rfl, rfl, rfl⟩) (by rw [hr1])) ?_
    intro x1 e1 y1 e2
    subst x1
    subst y1
    refine ⟨_, DG.tup cx.calm (DGs.cons (DG.name (cx.tgt 5 rfl (by decide +kernel))) (DGs.cons (DG.name (cx.tgt 6 rfl (by decide +kernel))) DGs.nil)), ?_⟩
    show DSs X _ [_, _, _, _, _, _, _, _, _] _ _
    refine DSs.unpack (p := ptP (l1, m1)) (DE.cast (DE.call cd F_reach (by decide) g_reach (DA.cons (DE.pe v1 rfl) (DA.cons (DE.ixL (DE.pe v3 rfl) (DE.bin (DE.bin (DE.pe v4 rfl) DE.int oa_add) DE.int (oa_mod (by decide : (0 : Int) < 4))) rfl (hds_at4 h t (((i : Nat) : Int) + 1))) (DA.nil))) ⟨b, hdR h t (((i : Nat) : Int) + 1), rfl, rfl, rfl⟩) (by rw [hr2])) ?_
    intro x1 e1 y1 e2
    subst x1
    subst y1
    refine ⟨_, DG.tup cx.calm (DGs.cons (DG.name (cx.tgt 7 rfl (by decide +kernel))) (DGs.cons (DG.name (cx.tgt 8 rfl (by decide +kernel))) DGs.nil)), ?_⟩
    show DSs X _ [_, _, _, _, _, _, _, _, _] _ _
    refine CxF.setP (q := .int (nearF h t b i)) cx 5 rfl (by decide +kernel) (DE.cast (DE.callB cd g_max T.z_max boot_max (DA.cons DE.int (DA.cons (DE.pe v5 rfl) (DA.cons (DE.pe v7 rfl) (DA.cons (DE.bin DE.int (DE.pe v8 rfl) oa_sub) DA.nil)))) (ca_max4 cx.calm)) (congrArg PV.int hnf.symm)) ?_
    show DSs X _ [_, _, _, _, _, _, _, _, _] _ _
    refine DSs.ifc (DT.cmp (DE.pe v5 rfl) (DE.pe v6 rfl) oa_le) (fun hc => ?_) (fun hc => ?_)
    · rw [if_pos (of_decide_eq_true hc)] at hs
      refine DSs.cons (DS.expr (DE.append (p := sinT h t b i) (DE.pe v2 rfl) (DE.cast (DE.tup (DA.cons (DE.pe v4 rfl) (DA.cons (DE.pe v5 rfl) (DA.cons (DE.pe v6 rfl) (DA.cons (DE.pe v7 rfl) (DA.cons (DE.pe v8 rfl) DA.nil)))))) hT.symm) (asL_obj app_last) app_last ?_) ?_)
      · rw [List.length_map]
        exact Nat.lt_of_le_of_lt (sin_len i) (Nat.lt_of_lt_of_le (show i < 100 by omega) (le_line (by decide)))
      rw [app_setl]
      refine DSs.nil (DSs.nil ⟨⟨_, _, _, _, _, rfl⟩, ?_⟩)
      rw [hs, List.map_append]
      rfl
    · rw [if_neg (of_decide_eq_false hc)] at hs
      refine DSs.nil (DSs.nil ⟨⟨_, _, _, _, _, rfl⟩, ?_⟩)
      rw [hs]
  · rintro ρ' m' ⟨⟨a1, a2, a3, a4, a5, rfl⟩, hm⟩
    subst m'
    show DSs X _ [_, _, _, _, _, _, _, _, _] _ _
    refine DSs.ret1 (DE.pe v2 rfl) ?_
    exact fin_same hQ rfl
theorem sc_aside : FnScope ["distance", "least", "most"] ["distance", "least", "most"] (defScope s_aside) := ⟨rfl, rfl, rfl, by decide +kernel, rfl, by decide +kernel, by decide +kernel⟩
def A_aside : ASp := fun args μ Q _ => ∃ z l m : Int, args = [.int z, .int l, .int m] ∧ Q (ptP (max l (1 - z), min m z)) μ
theorem ok_aside (T : Txt K w mg CW) : FnA P w K mg base 1 "aside" A_aside := by
  refine T.d_aside.ok sc_aside (by rintro _ _ _ _ ⟨_, _, _, rfl, _⟩; rfl) ?_
  rintro X _ μ Q E cx ⟨z, l, m, rfl, hQ⟩
  have cd := cx.toCxD
  have v0 : ∀ {pos : Pos}, PE X (.Name "distance" pos) (tVar 0) := cx.var 0 rfl (by decide +kernel)
  have v1 : ∀ {pos : Pos}, PE X (.Name "least" pos) (tVar 1) := cx.var 1 rfl (by decide +kernel)
  have v2 : ∀ {pos : Pos}, PE X (.Name "most" pos) (tVar 2) := cx.var 2 rfl (by decide +kernel)
  have g_max : (defScope s_aside).names.lookup ("max" : Str) = some .globalImplicit := by decide +kernel
  have g_min : (defScope s_aside).names.lookup ("min" : Str) = some .globalImplicit := by decide +kernel
  show DSs X _ [_, _, _] _ _
  refine DSs.ret1 (DE.tup (DA.cons (DE.callB cd g_max T.z_max boot_max (DA.cons (DE.pe v1 rfl) (DA.cons (DE.bin DE.int (DE.pe v0 rfl) oa_sub) DA.nil)) (ca_max2 cx.calm)) (DA.cons (DE.callB cd g_min T.z_min boot_min (DA.cons (DE.pe v2 rfl) (DA.cons (DE.pe v0 rfl) DA.nil)) (ca_min2 cx.calm)) DA.nil))) ?_
  exact fin_same hQ rfl
theorem sc_Worth_init : FnScope ["self", "start", "side", "begin", "least", "most"] ["self", "start", "side", "begin", "least", "most"] (defScope s_Worth_init) := ⟨rfl, rfl, rfl, by decide +kernel, rfl, by decide +kernel, by decide +kernel⟩
def A_Worth_init (CW : Addr) : ASp := fun args μ Q _ => ∃ (n k : Nat) (st : Option Int) (bg l m : Int), args = [.obj n, stP st, .int ((k : Nat) : Int), .int bg, .int l, .int m] ∧ μ[n]? = some (.ins CW [] []) ∧ Q .non (μ.set n (wObj CW st k l m (decide (1 - bg > l)) (decide (bg > m))))
theorem ok_Worth_init (T : Txt K w mg CW) : InitA P w K mg base 1 "Worth" CW (A_Worth_init CW) := by
  refine T.i_Worth.ok sc_Worth_init (by rintro _ _ _ _ ⟨_, _, _, _, _, _, rfl, _⟩; rfl) ?_
  rintro X _ μ Q E cx ⟨n, k, st, bg, l, m, rfl, h0, hQ⟩
  have cd := cx.toCxD
  have v0 : ∀ {pos : Pos}, PE X (.Name "self" pos) (tVar 0) := cx.var 0 rfl (by decide +kernel)
  have v1 : ∀ {pos : Pos}, PE X (.Name "start" pos) (tVar 1) := cx.var 1 rfl (by decide +kernel)
  have v2 : ∀ {pos : Pos}, PE X (.Name "side" pos) (tVar 2) := cx.var 2 rfl (by decide +kernel)
  have v3 : ∀ {pos : Pos}, PE X (.Name "begin" pos) (tVar 3) := cx.var 3 rfl (by decide +kernel)
  have v4 : ∀ {pos : Pos}, PE X (.Name "least" pos) (tVar 4) := cx.var 4 rfl (by decide +kernel)
  have v5 : ∀ {pos : Pos}, PE X (.Name "most" pos) (tVar 5) := cx.var 5 rfl (by decide +kernel)
  show DSs X _ [_, _, _, _, _, _] _ _
  refine DSs.cons (DS.fld cd T.cW T.nW_start (p := stP st) (DE.pe v1 rfl) (DE.pe v0 rfl) h0 (by decide) ?_)
  rw [wp1]
  have h1 := mset (m' := .ins CW ["start"] [stP st]) h0
  show DSs X _ [_, _, _, _, _, _] _ _
  refine DSs.cons (DS.fld cd T.cW T.nW_side (p := .int ((k : Nat) : Int)) (DE.pe v2 rfl) (DE.pe v0 rfl) h1 (by decide) ?_)
  rw [wp2, List.set_set]
  have h2 := mset (m' := .ins CW ["start", "side"] [stP st, .int ((k : Nat) : Int)]) h0
  show DSs X _ [_, _, _, _, _, _] _ _
  refine DSs.cons (DS.fld cd T.cW T.nW_least (p := .int l) (DE.pe v4 rfl) (DE.pe v0 rfl) h2 (by decide) ?_)
  rw [wp3, List.set_set]
  have h3 := mset (m' := .ins CW ["start", "side", "least"] [stP st, .int ((k : Nat) : Int), .int l]) h0
  show DSs X _ [_, _, _, _, _, _] _ _
  refine DSs.cons (DS.fld cd T.cW T.nW_most (p := .int m) (DE.pe v5 rfl) (DE.pe v0 rfl) h3 (by decide) ?_)
  rw [wp4, List.set_set]
  have h4 := mset (m' := .ins CW ["start", "side", "least", "most"] [stP st, .int ((k : Nat) : Int), .int l, .int m]) h0
  show DSs X _ [_, _, _, _, _, _] _ _
  refine DSs.cons (DS.fld cd T.cW T.nW_turned (p := .bl (decide (1 - bg > l))) (DE.cmp (DE.bin DE.int (DE.pe v3 rfl) oa_sub) (DE.pe v4 rfl) oa_gt) (DE.pe v0 rfl) h4 (by decide) ?_)
  rw [wp5, List.set_set]
  have h5 := mset (m' := .ins CW ["start", "side", "least", "most", "turned"] [stP st, .int ((k : Nat) : Int), .int l, .int m, .bl (decide (1 - bg > l))]) h0
  show DSs X _ [_, _, _, _, _, _] _ _
  refine DSs.cons (DS.fld cd T.cW T.nW_bound (p := .bl (decide (bg > m))) (DE.cmp (DE.pe v3 rfl) (DE.pe v5 rfl) oa_gt) (DE.pe v0 rfl) h5 (by decide) ?_)
  rw [wp6, List.set_set]
  have h6 := mset (m' := .ins CW wFs [stP st, .int ((k : Nat) : Int), .int l, .int m, .bl (decide (1 - bg > l)), .bl (decide (bg > m))]) h0
  refine DSs.nil ?_
  exact fin_same hQ rfl
theorem sc_Worth_at : FnScope ["self", "distance", "low", "high", "many"] ["self", "distance"] (defScope s_Worth_at) := ⟨rfl, rfl, rfl, by decide +kernel, rfl, by decide +kernel, by decide +kernel⟩
def A_Worth_at (CW : Addr) : ASp := fun args μ Q _ => ∃ (n k : Nat) (st : Option Int) (l m : Int) (tu bo : Bool) (x : Int), args = [.obj n, .int x] ∧ μ[n]? = some (wObj CW st k l m tu bo) ∧ (∀ s, st = some s → B 70 s) ∧ B 32 l ∧ B 32 m ∧ k < 4 ∧ B 32 x ∧ Q (.int (wAt st k l m tu bo x)) μ
theorem ok_Worth_at (T : Txt K w mg CW) : MethA P w K mg base 2 CW "at" (A_Worth_at CW) := by
  refine T.m_Worth_at.ok sc_Worth_at (by rintro _ _ _ _ ⟨_, _, _, _, _, _, _, _, rfl, _⟩; rfl) ?_
  rintro X _ μ Q E cx ⟨n, k, st, l, m, tu, bo, x, rfl, h0, bs, bl, bm, k4, bx, hQ⟩
  have cd := cx.toCxD
  have v0 : ∀ {pos : Pos}, PE X (.Name "self" pos) (tVar 0) := cx.var 0 rfl (by decide +kernel)
  have v1 : ∀ {pos : Pos}, PE X (.Name "distance" pos) (tVar 1) := cx.var 1 rfl (by decide +kernel)
  have v2 : ∀ {pos : Pos}, PE X (.Name "low" pos) (tVar 2) := cx.var 2 rfl (by decide +kernel)
  have v3 : ∀ {pos : Pos}, PE X (.Name "high" pos) (tVar 3) := cx.var 3 rfl (by decide +kernel)
  have v4 : ∀ {pos : Pos}, PE X (.Name "many" pos) (tVar 4) := cx.var 4 rfl (by decide +kernel)
  have g_more_at : (defScope s_Worth_at).names.lookup ("more_at" : Str) = some .globalImplicit := by decide +kernel
  have F_more_at := ok_more_at (P := P) (w := w) (base := base) T
  have bw : ∀ z, B 34 z → B 34 z := fun z h => h
  have b1 : B 34 (wLow l tu x) := by
    unfold wLow
    cases tu
    · exact B.le bl (by decide)
    · exact B.le (B.sub (show B 1 (1 : Int) by decide) bx) (by decide)
  have b2 : B 34 (wHigh m bo x) := by
    unfold wHigh
    cases bo
    · exact B.le bx (by decide)
    · exact B.le bm (by decide)
  have b3 : B 37 (wHigh m bo x - wLow l tu x + 1) := B.le (B.add (B.sub b2 b1) (show B 1 (1 : Int) by decide)) (by decide)
  show DSs X _ [_, _, _, _, _] _ _
  refine CxF.setP (q := .int (wLow l tu x)) cx 2 rfl (by decide +kernel) (DE.ifInt (DT.val (DE.fld cd T.cW T.nW_turned (DE.pe v0 rfl) h0 wl_turned)) (fun _ => DE.bin DE.int (DE.pe v1 rfl) oa_sub) (fun _ => DE.fld cd T.cW T.nW_least (DE.pe v0 rfl) h0 wl_least)) ?_
  show DSs X _ [_, _, _, _, _] _ _
  refine CxF.setP (q := .int (wHigh m bo x)) cx 3 rfl (by decide +kernel) (DE.ifInt (DT.val (DE.fld cd T.cW T.nW_bound (DE.pe v0 rfl) h0 wl_bound)) (fun _ => DE.fld cd T.cW T.nW_most (DE.pe v0 rfl) h0 wl_most) (fun _ => DE.pe v1 rfl)) ?_
  show DSs X _ [_, _, _, _, _] _ _
  refine CxF.setP (q := .int (wHigh m bo x - wLow l tu x + 1)) cx 4 rfl (by decide +kernel) (DE.bin (DE.bin (DE.pe v3 rfl) (DE.pe v2 rfl) oa_sub) DE.int oa_add) ?_
  cases st with
  | none =>
    show DSs X _ [_, _, _, _, _] _ _
    refine DSs.ifc (kb := true) (DT.cast (DT.cmp (DE.fld cd T.cW T.nW_start (DE.pe v0 rfl) h0 wl_start) DE.non oa_isN) rfl) (fun _ => ?_) (fun hc => by cases hc)
    refine DSs.ret1 (DE.pe v4 rfl) ?_
    exact fin_same hQ rfl
  | some s =>
    have b4 := more_B bx k4
    have b5 : B 76 (s + moreF k x) := B.le (B.add (bs s rfl) b4) (by decide)
    have b6 : B 35 (wLow l tu x + wHigh m bo x) := B.le (B.add b1 b2) (by decide)
    show DSs X _ [_, _, _, _, _] _ _
    refine DSs.ifc (kb := false) (DT.cast (DT.cmp (DE.fld cd T.cW T.nW_start (DE.pe v0 rfl) h0 wl_start) DE.non oa_isN) rfl) (fun hc => by cases hc) (fun _ => DSs.nil ?_)
    show DSs X _ [_, _, _, _, _] _ _
    refine DSs.ret1 (DE.bin (DE.bin (DE.pe v4 rfl) (DE.bin (p := .int s) (DE.fld cd T.cW T.nW_start (DE.pe v0 rfl) h0 wl_start) (DE.call cd F_more_at (by decide) g_more_at (DA.cons (DE.fld cd T.cW T.nW_side (DE.pe v0 rfl) h0 wl_side) (DA.cons (DE.pe v1 rfl) (DA.nil))) ⟨k, x, rfl, k4, B.le bx (by decide), rfl, rfl⟩) oa_add) (oa_mul (mulW b3 b5 (by decide)))) (DE.bin (DE.bin (DE.bin (DE.pe v2 rfl) (DE.pe v3 rfl) oa_add) (DE.pe v4 rfl) (oa_mul (mulW b6 b3 (by decide)))) DE.int (oa_div (divW (by decide : (0 : Int) < 2) (show B 2 (2 : Int) by decide) (by decide)))) oa_add) ?_
    exact fin_same hQ rfl
theorem sc_summed : FnScope ["first", "many", "worth", "values", "step", "found", "ways", "order", "k"] ["first", "many", "worth"] (defScope s_summed) := ⟨rfl, rfl, rfl, by decide +kernel, rfl, by decide +kernel, by decide +kernel⟩
def A_summed (CW : Addr) : ASp := fun args μ Q _ => ∃ (a z : Int) (n k : Nat) (st : Option Int) (l m : Int) (tu bo : Bool), args = [.int a, .int z, .obj n] ∧ μ[n]? = some (wObj CW st k l m tu bo) ∧ (∀ s, st = some s → B 70 s) ∧ B 32 l ∧ B 32 m ∧ k < 4 ∧ -2000000000 ≤ a ∧ a ≤ 2000000000 ∧ 0 ≤ z ∧ z ≤ 3000000000 ∧ Q (.int (sumI a z.toNat (wAt st k l m tu bo))) μ
theorem ok_summed (T : Txt K w mg CW) : FnA P w K mg base 3 "summed" (A_summed CW) := by
  refine T.d_summed.ok sc_summed (by rintro _ _ _ _ ⟨_, _, _, _, _, _, _, _, _, rfl, _⟩; rfl) ?_
  rintro X _ μ Q E cx ⟨a, z, n, k, st, l, m, tu, bo, rfl, h0, bs, bl, bm, k4, a0, a1, z0, z1, hQ⟩
  have cd := cx.toCxD
  have v0 : ∀ {pos : Pos}, PE X (.Name "first" pos) (tVar 0) := cx.var 0 rfl (by decide +kernel)
  have v1 : ∀ {pos : Pos}, PE X (.Name "many" pos) (tVar 1) := cx.var 1 rfl (by decide +kernel)
  have v2 : ∀ {pos : Pos}, PE X (.Name "worth" pos) (tVar 2) := cx.var 2 rfl (by decide +kernel)
  have v3 : ∀ {pos : Pos}, PE X (.Name "values" pos) (tVar 3) := cx.var 3 rfl (by decide +kernel)
  have v5 : ∀ {pos : Pos}, PE X (.Name "found" pos) (tVar 5) := cx.var 5 rfl (by decide +kernel)
  have v6 : ∀ {pos : Pos}, PE X (.Name "ways" pos) (tVar 6) := cx.var 6 rfl (by decide +kernel)
  have v7 : ∀ {pos : Pos}, PE X (.Name "order" pos) (tVar 7) := cx.var 7 rfl (by decide +kernel)
  have M_at := ok_Worth_at (P := P) (w := w) (base := base) T
  have g_range : (defScope s_summed).names.lookup ("range" : Str) = some .globalImplicit := by decide +kernel
  have g_len : (defScope s_summed).names.lookup ("len" : Str) = some .globalImplicit := by decide +kernel
  obtain ⟨g, hg⟩ : ∃ g, g = wAt st k l m tu bo := ⟨_, rfl⟩
  have bx : ∀ j : Nat, j < 4 → B 32 (a + ((j : Nat) : Int)) := fun j hj => B.rng (a := 2000000010) (by omega) (by omega) (by decide)
  have bg : ∀ j : Nat, j < 4 → B 120 (g (a + ((j : Nat) : Int))) := fun j hj => by rw [hg]; exact w_B bs bl bm (bx j hj) k4
  have bd := Df_B bg
  have bw := wy_B z0 z1
  show DSs X _ [_, _, _, _, _, _, _, _, _] _ _
  refine CxF.setP (q := .lst ((dfL g a 0).map PV.int)) cx 3 rfl (by decide +kernel) (DE.cast (DE.comp cx (DI.range1 (cx.gl _ g_range) (by rw [cx.emg]; exact T.z_range) DE.int (by decide) (by decide)) (by decide +kernel) (own := [("step", 4)]) (Tgt.name cx.nd 4 rfl (by decide +kernel)) (by decide) (wtF g a) trivial (by rw [rngL_length]; exact le_line (by decide)) ?_) (congrArg PV.lst (wtF_all g a))) ?_ (hsw := by unfold swapsWith Env.kindOf Env.blockKind; rw [cx.esc]; rfl)
  · intro q hq
    obtain ⟨j, hj⟩ := List.getElem?_of_mem hq
    have hj4 : j < 4 := by simpa [rngL_length] using (List.getElem?_eq_some_iff.mp hj).1
    have hp := rngL_get hj
    rw [Int.zero_add] at hp
    subst hp
    refine ⟨_, rfl, .inr ⟨_, rfl, fun X' cx' => WTs.nil ⟨rfl, rfl⟩, fun X' cx' => ?_⟩⟩
    rw [hg]
    exact DE.meth cx' T.cW M_at (by decide) (DE.pe (cx'.var (x := "worth") 2 rfl (by decide +kernel)) rfl) h0 wl_at (DA.cons (DE.bin (DE.pe (cx'.var (x := "first") 0 rfl (by decide +kernel)) rfl) (DE.pe (cx'.var (x := "step") 4 rfl (by decide +kernel)) rfl) oa_add) DA.nil) ⟨n, k, st, l, m, tu, bo, _, rfl, h0, bs, bl, bm, k4, bx j hj4, rfl, rfl⟩
  show DSs X _ [_, _, _, _, _, _, _, _, _] _ _
  refine CxF.setP (q := .int (foF g a z 0)) cx 5 rfl (by decide +kernel) DE.int ?_
  show DSs X _ [_, _, _, _, _, _, _, _, _] _ _
  refine CxF.setP (q := .int (wyF z 0)) cx 6 rfl (by decide +kernel) (DE.pe v1 rfl) ?_
  show DSs X _ [_, _, _, _, _, _, _, _, _] _ _
  refine DSs.cons (DS.for cx.po cx.calm (DI.range1 (cx.gl _ g_range) (by rw [cx.emg]; exact T.z_range) DE.int (by decide) (by decide)) (fun i ρ' μ' => (∃ a1 a2 a3 : Option PV, ρ' = [some (.int a), some (.int z), some (.obj n), some (.lst ((dfL g a i).map PV.int)), a1, some (.int (foF g a z i)), some (.int (wyF z i)), a2, a3]) ∧ μ' = μ) ⟨⟨_, _, _, rfl⟩, rfl⟩ (fun _ _ _ _ _ => trivial) ?_ ?_)
  · rintro i p ρ' m' hi ⟨⟨a1, a2, a3, rfl⟩, hm⟩
    subst m'
    have i4 : i < 4 := by simpa [rngL_length] using (List.getElem?_eq_some_iff.mp hi).1
    have hp := rngL_get hi
    rw [Int.zero_add] at hp
    subst hp
    have b0 : B 240 (Df g i a) := by
      have := bd i 0 (by omega)
      rw [show a + ((0 : Nat) : Int) = a by omega] at this
      exact B.le this (by omega)
    have b1 : B 240 (wyF z i) := B.le (bw i (by omega)) (by omega)
    have b2 : B 34 (z - ((i : Nat) : Int) - 1) := B.rng (a := 3000000010) (by omega) (by omega) (by decide)
    have b3 : B 4 (((i : Nat) : Int) + 2) := B.rng (a := 9) (by omega) (by omega) (by decide)
    refine ⟨_, DG.name (cx.tgt 7 rfl (by decide +kernel)), ?_⟩
    show DSs X _ [_, _, _, _, _, _, _, _, _] _ _
    refine CxF.augA cx 5 rfl (by decide +kernel) rfl (DE.bin (DE.pe v6 rfl) (DE.ixL (DE.pe v3 rfl) DE.int rfl (dfL_z i4)) (oa_mul (mulW b1 b0 (by decide)))) ?_
    show DSs X _ [_, _, _, _, _, _, _, _, _] _ _
    refine CxF.setP (q := .int (wyF z (i + 1))) cx 6 rfl (by decide +kernel) (DE.bin (DE.bin (DE.pe v6 rfl) (DE.bin (DE.bin (DE.pe v1 rfl) (DE.pe v7 rfl) oa_sub) DE.int oa_sub) (oa_mul (mulW b1 b2 (by decide)))) (DE.bin (DE.pe v7 rfl) DE.int oa_add) (oa_div (divW (by omega) b3 (by decide)))) ?_
    show DSs X _ [_, _, _, _, _, _, _, _, _] _ _
    refine CxF.setP (q := .lst ((dfL g a (i + 1)).map PV.int)) cx 3 rfl (by decide +kernel) (DE.cast (DE.comp cx (DI.range1 (cx.gl _ g_range) (by rw [cx.emg]; exact T.z_range) (DE.cast (q := .int ((3 - i : Nat) : Int)) (DE.bin (DE.callB cd g_len T.z_len boot_len (DA.cons (DE.pe v3 rfl) DA.nil) (ca_len rfl)) DE.int oa_sub) (congrArg PV.int (by rw [List.length_map, dfL_len]; omega))) (by omega) (by omega)) (by decide +kernel) (own := [("k", 8)]) (Tgt.name cx.nd 8 rfl (by decide +kernel)) (by decide) (dfN g a i) trivial (by rw [rngL_length]; exact le_line (by omega)) ?_) (congrArg PV.lst (by rw [Int.toNat_natCast]; exact dfN_all g a i))) ?_ (hsw := by unfold swapsWith Env.kindOf Env.blockKind; rw [cx.esc]; rfl)
    · intro q hq
      obtain ⟨j, hj⟩ := List.getElem?_of_mem hq
      have hj3 : j < 3 - i := by
        have := (List.getElem?_eq_some_iff.mp hj).1
        rw [rngL_length] at this
        omega
      have hp := rngL_get hj
      rw [Int.zero_add] at hp
      subst hp
      refine ⟨_, rfl, .inr ⟨_, rfl, fun X' cx' => WTs.nil ⟨rfl, rfl⟩, fun X' cx' => ?_⟩⟩
      refine DE.cast (DE.bin (DE.ixL (DE.pe (cx'.var (x := "values") 3 rfl (by decide +kernel)) rfl) (DE.cast (q := .int ((j + 1 : Nat) : Int)) (DE.bin (DE.pe (cx'.var (x := "k") 8 rfl (by decide +kernel)) rfl) DE.int oa_add) (congrArg PV.int (by omega))) rfl (dfL_at (by omega))) (DE.ixL (DE.pe (cx'.var (x := "values") 3 rfl (by decide +kernel)) rfl) (DE.pe (cx'.var (x := "k") 8 rfl (by decide +kernel)) rfl) rfl (dfL_at (by omega))) oa_sub) (congrArg PV.int ?_)
      show Df g i (a + ((j + 1 : Nat) : Int)) - Df g i (a + ((j : Nat) : Int)) = Df g i (a + ((j : Nat) : Int) + 1) - Df g i (a + ((j : Nat) : Int))
      rw [show a + ((j + 1 : Nat) : Int) = a + ((j : Nat) : Int) + 1 by omega]
    exact DSs.nil ⟨⟨_, _, _, rfl⟩, rfl⟩
  · rintro ρ' m' ⟨⟨a1, a2, a3, rfl⟩, hm⟩
    subst m'
    rw [rngL_length]
    show DSs X _ [_, _, _, _, _, _, _, _, _] _ _
    refine DSs.ret1 (DE.pe v5 rfl) ?_
    refine fin_same hQ (congrArg PV.int ?_)
    have := fo_sum (f := g) (a := a) (by rw [hg]; exact w_cub st k l m tu bo a) z.toNat
    rw [show ((z.toNat : Nat) : Int) = z by omega] at this
    rw [← hg]
    exact this
theorem sc_pieces_of : FnScope ["near", "far", "least", "most", "cuts", "cut"] ["near", "far", "least", "most"] (defScope s_pieces_of) := ⟨rfl, rfl, rfl, by decide +kernel, rfl, by decide +kernel, by decide +kernel⟩
def A_pieces_of : ASp := fun args μ Q _ => ∃ near far l m : Int, args = [.int near, .int far, .int l, .int m] ∧ Q (.lst ((pcs near far l m).map ptP)) μ
theorem ok_pieces_of (T : Txt K w mg CW) : FnA P w K mg base 1 "pieces_of" A_pieces_of := by
  refine T.d_pieces_of.ok sc_pieces_of (by rintro _ _ _ _ ⟨_, _, _, _, rfl, _⟩; rfl) ?_
  rintro X _ μ Q E cx ⟨near, far, l, m, rfl, hQ⟩
  have cd := cx.toCxD
  have v0 : ∀ {pos : Pos}, PE X (.Name "near" pos) (tVar 0) := cx.var 0 rfl (by decide +kernel)
  have v1 : ∀ {pos : Pos}, PE X (.Name "far" pos) (tVar 1) := cx.var 1 rfl (by decide +kernel)
  have v2 : ∀ {pos : Pos}, PE X (.Name "least" pos) (tVar 2) := cx.var 2 rfl (by decide +kernel)
  have v3 : ∀ {pos : Pos}, PE X (.Name "most" pos) (tVar 3) := cx.var 3 rfl (by decide +kernel)
  have v4 : ∀ {pos : Pos}, PE X (.Name "cuts" pos) (tVar 4) := cx.var 4 rfl (by decide +kernel)
  have g_sorted : (defScope s_pieces_of).names.lookup ("sorted" : Str) = some .globalImplicit := by decide +kernel
  have g_list : (defScope s_pieces_of).names.lookup ("list" : Str) = some .globalImplicit := by decide +kernel
  have g_zip : (defScope s_pieces_of).names.lookup ("zip" : Str) = some .globalImplicit := by decide +kernel
  have hc2 := cut_len2 near far l m
  have hl1 : (srt2 (cutL near far l m)).length ≤ 2 := by rw [(srt_perm hc2).length_eq]; exact hc2
  have hl2 : ((srt2 (cutL near far l m)).map PV.int).length ≤ sizeLine := by rw [List.length_map, sizeLine_eq]; omega
  show DSs X _ [_, _, _, _, _, _] _ _
  refine CxF.setP (q := .lst ((srt2 (cutL near far l m)).map PV.int)) cx 4 rfl (by decide +kernel) (DE.callB cd g_sorted T.z_sorted boot_sorted (DA.cons (DE.cast (q := .lst ((cutL near far l m).map PV.int)) (DE.comp cx (DI.tuple (xs := [1 - l, m + 1].map PV.int) (DE.tup (DA.cons (DE.bin DE.int (DE.pe v2 rfl) oa_sub) (DA.cons (DE.bin (DE.pe v3 rfl) DE.int oa_add) DA.nil)))) (by decide +kernel) (own := [("cut", 5)]) (Tgt.name cx.nd 5 rfl (by decide +kernel)) (by decide) (keepF (fun c => decide (near < c) && decide (c ≤ far))) trivial (le_line (Nat.le_of_ble_eq_true rfl)) ?_) (congrArg PV.lst fm_filter)) DA.nil) (ca_sorted rfl (srt_perm hc2) (srt_up hc2))) ?_
  · intro q hq
    obtain ⟨c, _, rfl⟩ := List.mem_map.mp hq
    refine ⟨_, rfl, ?_⟩
    cases hs : (decide (near < c) && decide (c ≤ far)) with
    | false => exact .inl ⟨keepF_no hs, fun X' cx' => WTs.one (WT.of (DT.cast (DT.chain (DE.pe (cx'.var (x := "near") 0 rfl (by decide +kernel)) rfl) (DE.pe (cx'.var (x := "cut") 5 rfl (by decide +kernel)) rfl) oa_lt (DE.pe (cx'.var (x := "far") 1 rfl (by decide +kernel)) rfl) oa_le) hs) ⟨rfl, rfl⟩)⟩
    | true => exact .inr ⟨.int c, keepF_yes hs, fun X' cx' => WTs.one (WT.of (DT.cast (DT.chain (DE.pe (cx'.var (x := "near") 0 rfl (by decide +kernel)) rfl) (DE.pe (cx'.var (x := "cut") 5 rfl (by decide +kernel)) rfl) oa_lt (DE.pe (cx'.var (x := "far") 1 rfl (by decide +kernel)) rfl) oa_le) hs) ⟨rfl, rfl⟩), fun X' cx' => DE.pe (cx'.var (x := "cut") 5 rfl (by decide +kernel)) rfl⟩
  show DSs X _ [_, _, _, _, _, _] _ _
  refine DSs.ret1 (DE.listZip cd g_list T.z_list g_zip T.z_zip (DA.cons (DE.bin (DE.lst (DA.cons (DE.pe v0 rfl) DA.nil)) (DE.pe v4 rfl) (oa_cat rfl rfl ?_)) (DA.cons (DE.bin (DE.cast (q := .lst (((srt2 (cutL near far l m)).map (fun c => c - 1)).map PV.int)) (DE.comp cx (DI.list (p := .lst ((srt2 (cutL near far l m)).map PV.int)) (xs := (srt2 (cutL near far l m)).map PV.int) (DE.pe v4 rfl) rfl) (by decide +kernel) (own := [("cut", 5)]) (Tgt.name cx.nd 5 rfl (by decide +kernel)) (by decide) subF (show Keeps (.lst ((srt2 (cutL near far l m)).map PV.int)) ((srt2 (cutL near far l m)).map PV.int) _ from rfl) hl2 ?_) (congrArg PV.lst (sub_all _))) (DE.lst (DA.cons (DE.pe v1 rfl) DA.nil)) (oa_cat rfl rfl ?_)) DA.nil)) rfl rfl) ?_
  · rw [List.length_map, sizeLine_eq]
    simp
    omega
  · intro q hq
    obtain ⟨c, _, rfl⟩ := List.mem_map.mp hq
    exact ⟨_, rfl, .inr ⟨_, rfl, fun X' cx' => WTs.nil ⟨rfl, rfl⟩, fun X' cx' => DE.bin (DE.pe (cx'.var (x := "cut") 5 rfl (by decide +kernel)) rfl) DE.int oa_sub⟩⟩
  · rw [List.length_map, List.length_map, sizeLine_eq]
    simp
    omega
  · exact fin_same hQ (congrArg PV.lst (pcs_P near far l m))
theorem sc_box_sum : FnScope ["spiral", "box", "found", "side", "near", "far", "least", "most", "begin", "end"] ["spiral", "box"] (defScope s_box_sum) := ⟨rfl, rfl, rfl, by decide +kernel, rfl, by decide +kernel, by decide +kernel⟩
def A_box_sum : ASp := fun args μ Q _ => ∃ (s : Int) (h : Fin 4) (t : Bool) (b : Bx), args = [spP s h t, bxP b] ∧ BxOk b ∧ BxS b ∧ B 70 s ∧ Q (.int (boxW (fun n => s + n) h t b)) μ
theorem ok_box_sum (T : Txt K w mg CW) : FnA P w K mg base 4 "box_sum" A_box_sum := by
  refine T.d_box_sum.ok sc_box_sum (by rintro _ _ _ _ ⟨_, _, _, _, rfl, _⟩; rfl) ?_
  rintro X _ μ Q E cx ⟨s, h, t, b, rfl, hb, hs, bs, hQ⟩
  have cd := cx.toCxD
  have v0 : ∀ {pos : Pos}, PE X (.Name "spiral" pos) (tVar 0) := cx.var 0 rfl (by decide +kernel)
  have v1 : ∀ {pos : Pos}, PE X (.Name "box" pos) (tVar 1) := cx.var 1 rfl (by decide +kernel)
  have v2 : ∀ {pos : Pos}, PE X (.Name "found" pos) (tVar 2) := cx.var 2 rfl (by decide +kernel)
  have v3 : ∀ {pos : Pos}, PE X (.Name "side" pos) (tVar 3) := cx.var 3 rfl (by decide +kernel)
  have v4 : ∀ {pos : Pos}, PE X (.Name "near" pos) (tVar 4) := cx.var 4 rfl (by decide +kernel)
  have v5 : ∀ {pos : Pos}, PE X (.Name "far" pos) (tVar 5) := cx.var 5 rfl (by decide +kernel)
  have v6 : ∀ {pos : Pos}, PE X (.Name "least" pos) (tVar 6) := cx.var 6 rfl (by decide +kernel)
  have v7 : ∀ {pos : Pos}, PE X (.Name "most" pos) (tVar 7) := cx.var 7 rfl (by decide +kernel)
  have v8 : ∀ {pos : Pos}, PE X (.Name "begin" pos) (tVar 8) := cx.var 8 rfl (by decide +kernel)
  have v9 : ∀ {pos : Pos}, PE X (.Name "end" pos) (tVar 9) := cx.var 9 rfl (by decide +kernel)
  have I_Worth := ok_Worth_init (P := P) (w := w) (base := base) T
  have g_need_box : (defScope s_box_sum).names.lookup ("need_box" : Str) = some .globalImplicit := by decide +kernel
  have g_int : (defScope s_box_sum).names.lookup ("int" : Str) = some .globalImplicit := by decide +kernel
  have g_has_middle : (defScope s_box_sum).names.lookup ("has_middle" : Str) = some .globalImplicit := by decide +kernel
  have g_sides_in : (defScope s_box_sum).names.lookup ("sides_in" : Str) = some .globalImplicit := by decide +kernel
  have g_pieces_of : (defScope s_box_sum).names.lookup ("pieces_of" : Str) = some .globalImplicit := by decide +kernel
  have g_summed : (defScope s_box_sum).names.lookup ("summed" : Str) = some .globalImplicit := by decide +kernel
  have g_Worth : (defScope s_box_sum).names.lookup ("Worth" : Str) = some .globalImplicit := by decide +kernel
  have F_need_box := ok_need_box (P := P) (w := w) (base := base) T
  have F_has_middle := ok_has_middle (P := P) (w := w) (base := base) T
  have F_sides_in := ok_sides_in (P := P) (w := w) (base := base) T
  have F_pieces_of := ok_pieces_of (P := P) (w := w) (base := base) T
  have F_summed := ok_summed (P := P) (w := w) (base := base) T
  obtain ⟨V, hV⟩ : ∃ V : Nat → Int, V = fun k => sideV (fun n => s + n) h t b k := ⟨_, rfl⟩
  obtain ⟨f0, hf0⟩ : ∃ f0 : Int, f0 = if inB b (0, 0) then s + 0 else 0 := ⟨_, rfl⟩
  have hall : boxW (fun n => s + n) h t b = f0 + ((sinK h t b 4).map V).sum := by
    rw [sin_sum V fun k hk => by rw [hV]; exact side_none hk]
    unfold boxW
    rw [hf0, hV]
  show DSs X _ [_, _, _, _, _, _, _, _, _, _] _ _
  refine DSs.cons (DS.expr (DE.call cd F_need_box (by decide) g_need_box (DA.cons (DE.pe v1 rfl) (DA.nil)) ⟨b, rfl, hb, rfl, rfl⟩) ?_)
  show DSs X _ [_, _, _, _, _, _, _, _, _, _] _ _
  refine CxF.setP (q := .int (f0 + (((sinK h t b 4).take 0).map V).sum)) cx 2 rfl (by decide +kernel) (DE.cast (DE.bin (DE.ixT (DE.pe v0 rfl) DE.int rfl) (DE.callTy cd g_int T.z_int boot_int (DA.cons (DE.call cd F_has_middle (by decide) g_has_middle (DA.cons (DE.pe v1 rfl) (DA.nil)) ⟨b, rfl, rfl, rfl⟩) DA.nil) ca_intB) (oa_mul (mulW bs (show B 2 (if decide (inB b (0, 0)) = true then (1 : Int) else 0) by split <;> decide) (by decide)))) (congrArg PV.int (by rw [hf0]; by_cases c1 : inB b (0, 0) <;> simp [c1]))) ?_
  show DSs X _ [_, _, _, _, _, _, _, _, _, _] _ _
  refine DSs.cons (DS.for cx.po cx.calm (DI.list (DE.call cd F_sides_in (by decide) g_sides_in (DA.cons (DE.pe v0 rfl) (DA.cons (DE.pe v1 rfl) (DA.nil))) ⟨s, h, t, b, rfl, rfl, rfl⟩) (asL_obj app_last)) (fun i ρ' μ' => (∃ a0 a1 a2 a3 a4 a5 a6 : Option PV, ρ' = [some (spP s h t), some (bxP b), some (.int (f0 + (((sinK h t b 4).take i).map V).sum)), a0, a1, a2, a3, a4, a5, a6]) ∧ ∃ ex, μ' = μ ++ [.lst ((sinK h t b 4).map (sinT h t b))] ++ ex) ⟨⟨_, _, _, _, _, _, _, rfl⟩, [], by rw [List.append_nil]⟩ ?_ ?_ ?_)
  · rintro i ρ' m' _ ⟨_, ex, hm'⟩
    subst m'
    exact asL_obj (app_get app_last)
  · rintro i p ρ' m' hi ⟨⟨a0, a1, a2, a3, a4, a5, a6, rfl⟩, ex, hm'⟩
    obtain ⟨k, hk, rfl, k4, hnf⟩ := sinT_get hi
    have htk := take_sum (V := V) hk
    have r1 := rch_s hb hs (hdR h t ((k : Nat) : Int))
    have r2 := rch_s hb hs (hdR h t (((k : Nat) : Int) + 1))
    have r3 := near_s (h := h) (t := t) hb hs k
    obtain ⟨near, hnear⟩ : ∃ x, x = nearF h t b k := ⟨_, rfl⟩
    obtain ⟨far, hfar⟩ : ∃ x, x = (rch b (hdR h t ((k : Nat) : Int))).2 := ⟨_, rfl⟩
    obtain ⟨l, hl⟩ : ∃ x, x = (rch b (hdR h t (((k : Nat) : Int) + 1))).1 := ⟨_, rfl⟩
    obtain ⟨m, hm⟩ : ∃ x, x = (rch b (hdR h t (((k : Nat) : Int) + 1))).2 := ⟨_, rfl⟩
    have hT : sinT h t b k = .tup [.int ((k : Nat) : Int), .int near, .int far, .int l, .int m] := by
      rw [hnear, hfar, hl, hm]
      rfl
    have hside := side_all (h := h) (t := t) (b := b) (k := k) (s := s) hnear hfar hl hm (by rw [hl, hm]; omega) (by rw [hnear, hfar]; exact hnf)
    rw [hT]
    rw [← hnear] at hnf r3
    rw [← hfar] at hnf r1
    rw [← hl, ← hm] at r2
    have hVk : V k = sideV (fun n => s + n) h t b k := by rw [hV]
    rw [hVk, hside] at htk
    clear hside hVk hT
    have bl : B 32 l := B.rng (a := 1000000000) (by omega) (by omega) (by decide)
    have bm : B 32 m := B.rng (a := 1000000000) (by omega) (by omega) (by decide)
    generalize hF : f0 + (((sinK h t b 4).take i).map V).sum = F
    refine ⟨_, DG.tup cx.calm (DGs.cons (DG.name (cx.tgt 3 rfl (by decide +kernel))) (DGs.cons (DG.name (cx.tgt 4 rfl (by decide +kernel))) (DGs.cons (DG.name (cx.tgt 5 rfl (by decide +kernel))) (DGs.cons (DG.name (cx.tgt 6 rfl (by decide +kernel))) (DGs.cons (DG.name (cx.tgt 7 rfl (by decide +kernel))) DGs.nil))))), ?_⟩
    show DSs X _ [_, _, _, _, _, _, _, _, _, _] _ _
    refine DSs.cons (DS.for cx.po cx.calm (DI.list (p := .lst ((pcs near far l m).map ptP)) (xs := (pcs near far l m).map ptP) (DE.call cd F_pieces_of (by decide) g_pieces_of (DA.cons (DE.pe v4 rfl) (DA.cons (DE.pe v5 rfl) (DA.cons (DE.pe v6 rfl) (DA.cons (DE.pe v7 rfl) (DA.nil))))) ⟨near, far, l, m, rfl, rfl, rfl⟩) rfl) (fun j ρ' μ' => (∃ b1 b2 : Option PV, ρ' = [some (spP s h t), some (bxP b), some (.int (F + (((pcs near far l m).take j).map (pieceV (some s) k l m)).sum)), some (.int ((k : Nat) : Int)), some (.int near), some (.int far), some (.int l), some (.int m), b1, b2]) ∧ ∃ ex, μ' = μ ++ [.lst ((sinK h t b 4).map (sinT h t b))] ++ ex) ⟨⟨_, _, by rw [List.take_zero, List.map_nil, List.sum_nil, Int.add_zero]⟩, ex, hm'⟩ (fun _ _ _ _ _ => rfl) ?_ ?_)
    · rintro j p ρ' m2 hj ⟨⟨b1, b2, rfl⟩, ex2, hm2⟩
      obtain ⟨q, hq, rfl⟩ := pcT_get hj
      have ht2 := take_sum (V := pieceV (some s) k l m) hq
      have pb := pcs_b (by omega) (List.mem_of_getElem? hq)
      have hpv : pieceV (some s) k l m q = sumI q.1 (q.2 - q.1 + 1).toNat (wAt (some s) k l m (decide (1 - q.1 > l)) (decide (q.1 > m))) := rfl
      refine ⟨_, DG.tup cx.calm (DGs.cons (DG.name (cx.tgt 8 rfl (by decide +kernel))) (DGs.cons (DG.name (cx.tgt 9 rfl (by decide +kernel))) DGs.nil)), ?_⟩
      show DSs X _ [_, _, _, _, _, _, _, _, _, _] _ _
      refine CxF.augA cx 2 rfl (by decide +kernel) rfl (DE.call cd F_summed (by decide) g_summed (DA.cons (DE.pe v8 rfl) (DA.cons (DE.bin (DE.bin (DE.pe v9 rfl) (DE.pe v8 rfl) oa_sub) DE.int oa_add) (DA.cons (DE.make cd I_Worth (by decide) g_Worth (DA.cons (DE.ixT (DE.pe v0 rfl) DE.int rfl) (DA.cons (DE.pe v3 rfl) (DA.cons (DE.pe v8 rfl) (DA.cons (DE.pe v6 rfl) (DA.cons (DE.pe v7 rfl) DA.nil))))) ⟨_, k, some s, q.1, l, m, rfl, app_last, rfl, rfl⟩) DA.nil))) ⟨q.1, q.2 - q.1 + 1, _, k, some s, l, m, _, _, rfl, mset app_last, (fun s2 e => by cases e; exact bs), bl, bm, k4, by omega, by omega, by omega, by omega, rfl, rfl⟩) ?_
      rw [app_setl, ← hpv]
      rw [show F + (((pcs near far l m).take j).map (pieceV (some s) k l m)).sum + pieceV (some s) k l m q = F + (((pcs near far l m).take (j + 1)).map (pieceV (some s) k l m)).sum by rw [ht2, Int.add_assoc]]
      refine DSs.nil ⟨⟨_, _, rfl⟩, ex2 ++ [wObj CW (some s) k l m (decide (1 - q.1 > l)) (decide (q.1 > m))], ?_⟩
      rw [hm2, List.append_assoc]
    · rintro ρ' m2 ⟨⟨b1, b2, rfl⟩, ex2, hm2⟩
      rw [List.length_map, List.take_length]
      have fe : F + ((pcs near far l m).map (pieceV (some s) k l m)).sum = f0 + (((sinK h t b 4).take (i + 1)).map V).sum := by
        rw [htk, ← hF]
        omega
      rw [fe]
      exact DSs.nil ⟨⟨_, _, _, _, _, _, _, rfl⟩, ex2, hm2⟩
  · rintro ρ' m' ⟨⟨a0, a1, a2, a3, a4, a5, a6, rfl⟩, ex, hm'⟩
    subst m'
    rw [List.length_map, List.take_length, ← hall]
    show DSs X _ [_, _, _, _, _, _, _, _, _, _] _ _
    refine DSs.ret1 (DE.pe v2 rfl) ?_
    rw [List.append_assoc]
    exact fin_drop hQ rfl rfl
theorem sc_box_ends : FnScope ["spiral", "box", "found", "side", "near", "far", "least", "most"] ["spiral", "box"] (defScope s_box_ends) := ⟨rfl, rfl, rfl, by decide +kernel, rfl, by decide +kernel, by decide +kernel⟩
def A_box_ends : ASp := fun args μ Q _ => ∃ (s : Int) (h : Fin 4) (t : Bool) (b : Bx) (mi mx : Int), args = [spP s h t, bxP b] ∧ BxOk b ∧ BxS b ∧ MinOf (nuL h t b (widB b)) mi ∧ MaxOf (nuL h t b (widB b)) mx ∧ Q (ptP (s + mi, s + mx)) μ
theorem ok_box_ends (T : Txt K w mg CW) : FnA P w K mg base 3 "box_ends" A_box_ends := by
  refine T.d_box_ends.ok sc_box_ends (by rintro _ _ _ _ ⟨_, _, _, _, _, _, rfl, _⟩; rfl) ?_
  rintro X _ μ Q E cx ⟨s, h, t, b, mi, mx, rfl, hb, hs, hmi, hmx, hQ⟩
  have cd := cx.toCxD
  have v0 : ∀ {pos : Pos}, PE X (.Name "spiral" pos) (tVar 0) := cx.var 0 rfl (by decide +kernel)
  have v1 : ∀ {pos : Pos}, PE X (.Name "box" pos) (tVar 1) := cx.var 1 rfl (by decide +kernel)
  have v2 : ∀ {pos : Pos}, PE X (.Name "found" pos) (tVar 2) := cx.var 2 rfl (by decide +kernel)
  have v3 : ∀ {pos : Pos}, PE X (.Name "side" pos) (tVar 3) := cx.var 3 rfl (by decide +kernel)
  have v4 : ∀ {pos : Pos}, PE X (.Name "near" pos) (tVar 4) := cx.var 4 rfl (by decide +kernel)
  have v5 : ∀ {pos : Pos}, PE X (.Name "far" pos) (tVar 5) := cx.var 5 rfl (by decide +kernel)
  have v6 : ∀ {pos : Pos}, PE X (.Name "least" pos) (tVar 6) := cx.var 6 rfl (by decide +kernel)
  have v7 : ∀ {pos : Pos}, PE X (.Name "most" pos) (tVar 7) := cx.var 7 rfl (by decide +kernel)
  have g_need_box : (defScope s_box_ends).names.lookup ("need_box" : Str) = some .globalImplicit := by decide +kernel
  have g_int : (defScope s_box_ends).names.lookup ("int" : Str) = some .globalImplicit := by decide +kernel
  have g_has_middle : (defScope s_box_ends).names.lookup ("has_middle" : Str) = some .globalImplicit := by decide +kernel
  have g_sides_in : (defScope s_box_ends).names.lookup ("sides_in" : Str) = some .globalImplicit := by decide +kernel
  have g_more_at : (defScope s_box_ends).names.lookup ("more_at" : Str) = some .globalImplicit := by decide +kernel
  have g_aside : (defScope s_box_ends).names.lookup ("aside" : Str) = some .globalImplicit := by decide +kernel
  have g_min : (defScope s_box_ends).names.lookup ("min" : Str) = some .globalImplicit := by decide +kernel
  have g_max : (defScope s_box_ends).names.lookup ("max" : Str) = some .globalImplicit := by decide +kernel
  have F_need_box := ok_need_box (P := P) (w := w) (base := base) T
  have F_has_middle := ok_has_middle (P := P) (w := w) (base := base) T
  have F_sides_in := ok_sides_in (P := P) (w := w) (base := base) T
  have F_more_at := ok_more_at (P := P) (w := w) (base := base) T
  have F_aside := ok_aside (P := P) (w := w) (base := base) T
  have ne1 := end_min hb hmi
  have ne2 := end_max hb hmx
  have sl : (sinK h t b 4).length ≤ 4 := sin_len 4
  have rp : (List.replicate (if decide (inB b (0, 0)) = true then (1 : Int) else 0).toNat [PV.int s]).flatten = nuP s (endL h t b []) := by
    unfold endL nuP
    by_cases c : inB b (0, 0) <;> simp [c]
  show DSs X _ [_, _, _, _, _, _, _, _] _ _
  refine DSs.cons (DS.expr (DE.call cd F_need_box (by decide) g_need_box (DA.cons (DE.pe v1 rfl) (DA.nil)) ⟨b, rfl, hb, rfl, rfl⟩) ?_)
  show DSs X _ [_, _, _, _, _, _, _, _] _ _
  refine CxF.setP (q := .obj μ.length) cx 2 rfl (by decide +kernel) (DE.repO (DE.lst (DA.cons (DE.ixT (DE.pe v0 rfl) DE.int rfl) DA.nil)) (DE.callTy cd g_int T.z_int boot_int (DA.cons (DE.call cd F_has_middle (by decide) g_has_middle (DA.cons (DE.pe v1 rfl) (DA.nil)) ⟨b, rfl, rfl, rfl⟩) DA.nil) ca_intB) rfl (by split <;> decide) (by split <;> decide) (by refine Nat.le_trans (m := 1) ?_ (le_line (by decide)); show 1 * Int.toNat _ ≤ 1; split <;> decide)) ?_
  rw [rp]
  show DSs X _ [_, _, _, _, _, _, _, _] _ _
  refine DSs.cons (DS.for cx.po cx.calm (DI.list (DE.call cd F_sides_in (by decide) g_sides_in (DA.cons (DE.pe v0 rfl) (DA.cons (DE.pe v1 rfl) (DA.nil))) ⟨s, h, t, b, rfl, rfl, rfl⟩) (asL_obj app_last)) (fun i ρ' μ' => (∃ a0 a1 a2 a3 a4 : Option PV, ρ' = [some (spP s h t), some (bxP b), some (.obj μ.length), a0, a1, a2, a3, a4]) ∧ μ' = μ ++ [.lst (nuP s (endL h t b ((sinK h t b 4).take i)))] ++ [.lst ((sinK h t b 4).map (sinT h t b))]) ⟨⟨_, _, _, _, _, rfl⟩, rfl⟩ ?_ ?_ ?_)
  · rintro i ρ' m' _ ⟨_, hm'⟩
    subst m'
    exact asL_obj two_last
  · rintro i p ρ' m' hi ⟨⟨a0, a1, a2, a3, a4, rfl⟩, hm'⟩
    subst m'
    obtain ⟨k, hk, rfl, k4, hnf⟩ := sinT_get hi
    have hi4 : i < (sinK h t b 4).length := (List.getElem?_eq_some_iff.mp hk).1
    have tk : (sinK h t b 4).take (i + 1) = (sinK h t b 4).take i ++ [k] := by rw [List.take_succ, hk]; rfl
    have tl : ((sinK h t b 4).take i).length ≤ 4 := by rw [List.length_take]; omega
    have el := end_len h t b ((sinK h t b 4).take i)
    have r1 := rch_s hb hs (hdR h t ((k : Nat) : Int))
    have r3 := near_s (h := h) (t := t) hb hs k
    obtain ⟨near, hnear⟩ : ∃ x, x = nearF h t b k := ⟨_, rfl⟩
    obtain ⟨far, hfar⟩ : ∃ x, x = (rch b (hdR h t ((k : Nat) : Int))).2 := ⟨_, rfl⟩
    obtain ⟨l, hl⟩ : ∃ x, x = (rch b (hdR h t (((k : Nat) : Int) + 1))).1 := ⟨_, rfl⟩
    obtain ⟨m, hm⟩ : ∃ x, x = (rch b (hdR h t (((k : Nat) : Int) + 1))).2 := ⟨_, rfl⟩
    have hT : sinT h t b k = .tup [.int ((k : Nat) : Int), .int near, .int far, .int l, .int m] := by
      rw [hnear, hfar, hl, hm]
      rfl
    have hlo : loF h t b k = moreF k near + max l (1 - near) := by rw [hnear, hl]; rfl
    have hhi : hiF h t b k = moreF k far + min m far := by rw [hfar, hm]; rfl
    rw [hT]
    rw [← hnear] at hnf r3
    rw [← hfar] at hnf r1
    have bn : B 200 near := B.rng (a := 2000000000) (by omega) (by omega) (by decide)
    have bf : B 200 far := B.rng (a := 2000000000) (by omega) (by omega) (by decide)
    have l1 : (endL h t b ((sinK h t b 4).take i)).length < sizeLine := by rw [sizeLine_eq]; omega
    have l2 : (endL h t b ((sinK h t b 4).take i) ++ [loF h t b k]).length < sizeLine := by rw [List.length_append, sizeLine_eq]; simp; omega
    refine ⟨_, DG.tup cx.calm (DGs.cons (DG.name (cx.tgt 3 rfl (by decide +kernel))) (DGs.cons (DG.name (cx.tgt 4 rfl (by decide +kernel))) (DGs.cons (DG.name (cx.tgt 5 rfl (by decide +kernel))) (DGs.cons (DG.name (cx.tgt 6 rfl (by decide +kernel))) (DGs.cons (DG.name (cx.tgt 7 rfl (by decide +kernel))) DGs.nil))))), ?_⟩
    show DSs X _ [_, _, _, _, _, _, _, _] _ _
    refine DSs.cons (DS.expr (DE.append (p := .int (s + loF h t b k)) (DE.pe v2 rfl) (DE.cast (DE.bin (DE.bin (DE.ixT (DE.pe v0 rfl) DE.int rfl) (DE.call cd F_more_at (by decide) g_more_at (DA.cons (DE.pe v3 rfl) (DA.cons (DE.pe v4 rfl) (DA.nil))) ⟨k, near, rfl, k4, bn, rfl, rfl⟩) oa_add) (DE.ixT (DE.call cd F_aside (by decide) g_aside (DA.cons (DE.pe v4 rfl) (DA.cons (DE.pe v6 rfl) (DA.cons (DE.pe v7 rfl) (DA.nil)))) ⟨near, l, m, rfl, rfl, rfl⟩) DE.int rfl) oa_add) (congrArg PV.int (by rw [hlo]; omega))) (asL_obj two_get) two_get (by rw [nuP_len]; exact l1)) ?_)
    rw [two_set, ← nuP_snoc]
    show DSs X _ [_, _, _, _, _, _, _, _] _ _
    refine DSs.cons (DS.expr (DE.append (p := .int (s + hiF h t b k)) (DE.pe v2 rfl) (DE.cast (DE.bin (DE.bin (DE.ixT (DE.pe v0 rfl) DE.int rfl) (DE.call cd F_more_at (by decide) g_more_at (DA.cons (DE.pe v3 rfl) (DA.cons (DE.pe v5 rfl) (DA.nil))) ⟨k, far, rfl, k4, bf, rfl, rfl⟩) oa_add) (DE.ixT (DE.call cd F_aside (by decide) g_aside (DA.cons (DE.pe v5 rfl) (DA.cons (DE.pe v6 rfl) (DA.cons (DE.pe v7 rfl) (DA.nil)))) ⟨far, l, m, rfl, rfl, rfl⟩) DE.int rfl) oa_add) (congrArg PV.int (by rw [hhi]; omega))) (asL_obj two_get) two_get (by rw [nuP_len]; exact l2)) ?_)
    rw [two_set, ← nuP_snoc, ← end_up, ← tk]
    exact DSs.nil ⟨⟨_, _, _, _, _, rfl⟩, rfl⟩
  · rintro ρ' m' ⟨⟨a0, a1, a2, a3, a4, rfl⟩, hm'⟩
    subst m'
    rw [List.length_map, List.take_length]
    show DSs X _ [_, _, _, _, _, _, _, _] _ _
    refine DSs.ret1 (DE.tup (DA.cons (DE.callB cd g_min T.z_min boot_min (DA.cons (DE.pe v2 rfl) DA.nil) (ca_min (ns := (endL h t b (sinK h t b 4)).map fun n => s + n) (i := s + mi) cx.calm ((asL_obj two_get).trans (congrArg some (nuP_I s _))) (List.mem_map.mpr ⟨_, ne1.1, rfl⟩) (fun y hy => by obtain ⟨x, hx, rfl⟩ := List.mem_map.mp hy; have := ne1.2 x hx; omega))) (DA.cons (DE.callB cd g_max T.z_max boot_max (DA.cons (DE.pe v2 rfl) DA.nil) (ca_max (ns := (endL h t b (sinK h t b 4)).map fun n => s + n) (i := s + mx) cx.calm ((asL_obj two_get).trans (congrArg some (nuP_I s _))) (List.mem_map.mpr ⟨_, ne2.1, rfl⟩) (fun y hy => by obtain ⟨x, hx, rfl⟩ := List.mem_map.mp hy; have := ne2.2 x hx; omega))) DA.nil))) ?_
    rw [List.append_assoc]
    exact fin_drop hQ rfl rfl
theorem sc_law_folded : FnScope ["script", "found", "cell"] ["script"] (defScope s_law_folded) := ⟨rfl, rfl, rfl, by decide +kernel, rfl, by decide +kernel, by decide +kernel⟩
def A_law_folded : ASp := fun args μ Q _ => ∃ ns : List Int, args = [.scr (ns.map PV.int)] ∧ ns.length ≤ 63 ∧ ∀ r : Int, 0 ≤ r → r < 2147483647 → Q (.int r) μ
theorem ok_law_folded (T : Txt K w mg CW) : FnA P w K mg base 1 "_law_folded" A_law_folded := by
  refine T.d_law_folded.ok sc_law_folded (by rintro _ _ _ _ ⟨_, rfl, _⟩; rfl) ?_
  rintro X _ μ Q E cx ⟨ns, rfl, hl, hQ⟩
  have cd := cx.toCxD
  have v0 : ∀ {pos : Pos}, PE X (.Name "script" pos) (tVar 0) := cx.var 0 rfl (by decide +kernel)
  have v1 : ∀ {pos : Pos}, PE X (.Name "found" pos) (tVar 1) := cx.var 1 rfl (by decide +kernel)
  have v2 : ∀ {pos : Pos}, PE X (.Name "cell" pos) (tVar 2) := cx.var 2 rfl (by decide +kernel)
  have g_len : (defScope s_law_folded).names.lookup ("len" : Str) = some .globalImplicit := by decide +kernel
  show DSs X _ [_, _, _] _ _
  refine CxF.setP (q := .int ((ns.length : Nat) : Int)) cx 1 rfl (by decide +kernel) (DE.cast (DE.callB cd g_len T.z_len boot_len (DA.cons (DE.pe v0 rfl) DA.nil) (ca_len rfl)) (congrArg PV.int (by rw [List.length_map]))) ?_
  show DSs X _ [_, _, _] _ _
  refine DSs.cons (DS.for cx.po cx.calm (DI.list (DE.pe v0 rfl) rfl) (fun i ρ' μ' => ∃ (f : Int) (cv : Option PV), ρ' = [some (.scr (ns.map PV.int)), some (.int f), cv] ∧ μ' = μ ∧ 0 ≤ f ∧ f < 2147483647) ⟨((ns.length : Nat) : Int), none, rfl, rfl, by omega, by omega⟩ (fun _ _ _ _ _ => rfl) ?_ ?_)
  · rintro i p ρ' m' hi ⟨f, cv, rfl, hm, f0, f1⟩
    subst m'
    rw [List.getElem?_map] at hi
    obtain ⟨c, hc, rfl⟩ := Option.map_eq_some_iff.mp hi
    have bf : B 31 f := B.rng (a := 2147483647) (by omega) (by omega) (by decide)
    refine ⟨_, DG.name (cx.tgt 2 rfl (by decide +kernel)), ?_⟩
    show DSs X _ [_, _, _] _ _
    refine cx.setG 1 rfl (by decide +kernel) (DE.bin (DE.bin (DE.bin (DE.pe v1 rfl) DE.int (oa_mul (mulW bf (show B 16 (48271 : Int) by decide) (by decide)))) (DE.bin (DE.pe v2 rfl) DE.int (oa_mod (by decide : (0 : Int) < 2147483629))) oa_add) DE.int (oa_mod (by decide : (0 : Int) < 2147483647))) ?_
    intro z e
    exact DSs.nil ⟨z, _, rfl, rfl, by omega, by omega⟩
  · rintro ρ' m' ⟨f, cv, rfl, hm, f0, f1⟩
    subst m'
    show DSs X _ [_, _, _] _ _
    refine DSs.ret1 (DE.pe v1 rfl) ?_
    exact fin_same (hQ f f0 f1) rfl
theorem sc_law_seed : FnScope ["cell", "number"] ["cell"] (defScope s_law_seed) := ⟨rfl, rfl, rfl, by decide +kernel, rfl, by decide +kernel, by decide +kernel⟩
def A_law_seed : ASp := fun args μ Q _ => ∃ c : Int, args = [.int c] ∧ Builtin.Int.intBits c ≤ 1048576 ∧ ∀ d : DeckC, ScOk d 0 → Q (.obj μ.length) (μ ++ [seMO d])
theorem ok_law_seed (T : Txt K w mg CW) : FnA P w K mg base 1 "_law_seed" A_law_seed := by
  refine T.d_law_seed.ok sc_law_seed (by rintro _ _ _ _ ⟨_, rfl, _⟩; rfl) ?_
  rintro X _ μ Q E cx ⟨c, rfl, hb, hQ⟩
  have cd := cx.toCxD
  have v0 : ∀ {pos : Pos}, PE X (.Name "cell" pos) (tVar 0) := cx.var 0 rfl (by decide +kernel)
  have v1 : ∀ {pos : Pos}, PE X (.Name "number" pos) (tVar 1) := cx.var 1 rfl (by decide +kernel)
  have g_max : (defScope s_law_seed).names.lookup ("max" : Str) = some .globalImplicit := by decide +kernel
  have g_int : (defScope s_law_seed).names.lookup ("int" : Str) = some .globalImplicit := by decide +kernel
  show DSs X _ [_, _] _ _
  refine CxF.setP cx 1 rfl (by decide +kernel) (DE.callB cd g_max T.z_max boot_max (DA.cons (DE.pe v0 rfl) (DA.cons (DE.bin DE.int (DE.pe v0 rfl) oa_sub) DA.nil)) (ca_max2 cx.calm)) ?_
  show DSs X _ [_, _] _ _
  refine DSs.ret1 (DE.lstO (DA.cons (DE.pe v1 rfl) (DA.cons (DE.callTy cd g_int T.z_int boot_int (DA.cons (DE.cmp (DE.pe v1 rfl) (DE.bin DE.int DE.int (oa_powL (r := 1000000000000000000) ⟨by decide, by decide, by decide⟩ (by decide +kernel))) oa_ge) DA.nil) ca_intB) (DA.cons DE.int (DA.cons (DE.bin (DE.pe v0 rfl) DE.int (oa_mod (by decide : (0 : Int) < 1999999913))) DA.nil))))) ?_
  have l1 := Int.emod_nonneg c (show (1999999913 : Int) ≠ 0 by decide)
  have l2 := Int.emod_lt_of_pos c (show (0 : Int) < 1999999913 by decide)
  exact fin_same (hQ ⟨max c (0 - c), _, 0, c % 1999999913⟩ ⟨by show 0 ≤ max c (0 - c); omega, l1, by show c % 1999999913 ≤ 2000000000; omega, Int.le_refl 0, Int.le_refl 0⟩) rfl
theorem sc_law_draw : FnScope ["seed", "most", "found", "number"] ["seed", "most"] (defScope s_law_draw) := ⟨rfl, rfl, rfl, by decide +kernel, rfl, by decide +kernel, by decide +kernel⟩
def A_law_draw : ASp := fun args μ Q _ => ∃ (kd : Nat) (d : DeckC) (n most : Int), args = [.obj kd, .int most] ∧ μ[kd]? = some (seMO d) ∧ ScOk d n ∧ n ≤ 1000000000 ∧ 0 < most ∧ B 7000 most ∧
  ∀ (r : Int) (d' : DeckC), 0 ≤ r → r < most → ScOk d' (n + 1) → Q (.int r) (μ.set kd (seMO d'))
theorem ok_law_draw (T : Txt K w mg CW) : FnA P w K mg base 1 "_law_draw" A_law_draw := by
  refine T.d_law_draw.ok sc_law_draw (by rintro _ _ _ _ ⟨_, _, _, _, rfl, _⟩; rfl) ?_
  rintro X _ μ Q E cx ⟨kd, d, n, most, rfl, hD, hd, hn, pm, bm, hQ⟩
  have cd := cx.toCxD
  have v0 : ∀ {pos : Pos}, PE X (.Name "seed" pos) (tVar 0) := cx.var 0 rfl (by decide +kernel)
  have v1 : ∀ {pos : Pos}, PE X (.Name "most" pos) (tVar 1) := cx.var 1 rfl (by decide +kernel)
  have v2 : ∀ {pos : Pos}, PE X (.Name "found" pos) (tVar 2) := cx.var 2 rfl (by decide +kernel)
  have v3 : ∀ {pos : Pos}, PE X (.Name "number" pos) (tVar 3) := cx.var 3 rfl (by decide +kernel)
  obtain ⟨g, f, c, m⟩ := d
  obtain ⟨g0, m0, m1, c0, c1⟩ := hd
  dsimp only at g0 m0 m1 c0 c1
  show DSs X _ [_, _, _, _] _ _
  refine DSs.setG (n := kd) (DE.bin (DE.ixL (DE.pe v0 rfl) DE.int (asL_obj hD) rfl) DE.int oa_add) (DE.pe v0 rfl) DE.int hD rfl ?_
  intro z1 e1
  try dsimp only at e1
  have h1 : (μ.set kd (seMO ⟨g, f, z1, m⟩))[kd]? = some (seMO ⟨g, f, z1, m⟩) := mset hD
  show DSs X _ [_, _, _, _] _ _
  refine DSs.ifc (DW.t (DW.and (DT.cmp (DE.ixL (DE.pe v0 rfl) DE.int (asL_obj h1) rfl) DE.int oa_eq) (fun _ => DW.and1 (DT.cmp (DE.ixL (DE.pe v0 rfl) DE.int (asL_obj h1) rfl) DE.int oa_gt)))) (fun hc => ?_) (fun hc => ?_)
  · simp only [Bool.and_eq_true, Bool.or_eq_true, Bool.not_eq_true', Bool.not_eq_false', Bool.and_eq_false_iff, Bool.or_eq_false_iff, decide_eq_true_eq, decide_eq_false_iff_not, Bool.not_true, Bool.not_false] at hc
    refine cx.setG 2 rfl (by decide +kernel) (DE.bin (DE.ixL (DE.pe v0 rfl) DE.int (asL_obj h1) rfl) (DE.pe v1 rfl) (oa_mod pm)) ?_
    intro z2 e2
    try dsimp only at e2
    show DSs X _ [_, _, _, _] _ _
    refine DSs.setG (n := kd) (DE.bin (DE.ixL (DE.pe v0 rfl) DE.int (asL_obj h1) rfl) (DE.pe v1 rfl) (oa_div (divW pm bm (by decide)))) (DE.pe v0 rfl) DE.int h1 rfl ?_
    intro z3 e3
    try dsimp only at e3
    show DSs X _ [_, _, _, _] _ _
    refine DSs.ret1 (DE.pe v2 rfl) ?_
    refine fin_mem (hQ z2 ⟨z3, f, z1, m⟩ ?_ ?_ ⟨?_, m0, m1, by show 0 ≤ z1; omega, by show z1 ≤ _; omega⟩) rfl ?_
    · rw [e2]; exact Int.emod_nonneg _ (by omega)
    · rw [e2]; exact Int.emod_lt_of_pos _ pm
    · show 0 ≤ z3
      rw [e3]; exact Int.ediv_nonneg g0 (by omega)
    · rw [List.set_set]; rfl
  · refine DSs.nil ?_
    have bz : B 40 z1 := B.rng (a := 2000000000) (by omega) (by omega) (by decide)
    have bq : B 50 (m + 6997 * z1 + 11) := B.rng (a := 100000000000000) (by omega) (by omega) (by decide)
    show DSs X _ [_, _, _, _] _ _
    refine cx.setG 3 rfl (by decide +kernel) (DE.bin (DE.bin (DE.bin (DE.bin (DE.ixL (DE.pe v0 rfl) DE.int (asL_obj h1) rfl) (DE.bin DE.int (DE.ixL (DE.pe v0 rfl) DE.int (asL_obj h1) rfl) (oa_mul (mulW (show B 13 (6997 : Int) by decide) bz (by decide)))) oa_add) DE.int oa_add) DE.int (oa_mul (mulW bq (show B 16 (48271 : Int) by decide) (by decide)))) DE.int (oa_mod (by decide : (0 : Int) < 2147483647))) ?_
    intro o1 eo1
    have bo1 : B 40 o1 := B.eq eo1 (B.le (B.mod (by decide : (0 : Int) < 2147483647) (show B 32 (2147483647 : Int) by decide)) (by decide))
    show DSs X _ [_, _, _, _] _ _
    refine cx.setG 3 rfl (by decide +kernel) (DE.bin (DE.bin (DE.bin (DE.bin (DE.pe v3 rfl) (DE.pe v3 rfl) (oa_mul (mulW bo1 bo1 (by decide)))) DE.int (oa_mod (by decide : (0 : Int) < 2147483629))) DE.int (oa_mul (mulW (B.mod (by decide : (0 : Int) < 2147483629) (show B 32 (2147483629 : Int) by decide)) (show B 16 (40692 : Int) by decide) (by decide)))) DE.int (oa_mod (by decide : (0 : Int) < 2147483399))) ?_
    intro o2 eo2
    show DSs X _ [_, _, _, _] _ _
    refine DSs.ret1 (DE.bin (DE.bin (DE.pe v3 rfl) DE.int (oa_div (divW (by decide : (0 : Int) < 7) (show B 3 (7 : Int) by decide) (by decide)))) (DE.pe v1 rfl) (oa_mod pm)) ?_
    exact fin_mem (hQ _ ⟨g, f, z1, m⟩ (Int.emod_nonneg _ (by omega)) (Int.emod_lt_of_pos _ pm) ⟨g0, m0, m1, by show 0 ≤ z1; omega, by show z1 ≤ _; omega⟩) rfl rfl
theorem sc_law_spiral : FnScope ["seed", "far", "start"] ["seed"] (defScope s_law_spiral) := ⟨rfl, rfl, rfl, by decide +kernel, rfl, by decide +kernel, by decide +kernel⟩
def A_law_spiral : ASp := fun args μ Q _ => ∃ (kd : Nat) (d : DeckC) (n : Int), args = [.obj kd] ∧ μ[kd]? = some (seMO d) ∧ ScOk d n ∧ n ≤ 800000000 ∧
  ∀ (s : Int) (h : Fin 4) (t : Bool) (d' : DeckC), -1000000000000000000 ≤ s → s ≤ 1000000000000000000 → ScOk d' (n + 7) → Q (spP s h t) (μ.set kd (seMO d'))
theorem ok_law_spiral (T : Txt K w mg CW) : FnA P w K mg base 2 "_law_spiral" A_law_spiral := by
  refine T.d_law_spiral.ok sc_law_spiral (by rintro _ _ _ _ ⟨_, _, _, rfl, _⟩; rfl) ?_
  rintro X _ μ Q E cx ⟨kd, d, n, rfl, hD, hd, hn, hQ⟩
  have cd := cx.toCxD
  have v0 : ∀ {pos : Pos}, PE X (.Name "seed" pos) (tVar 0) := cx.var 0 rfl (by decide +kernel)
  have v1 : ∀ {pos : Pos}, PE X (.Name "far" pos) (tVar 1) := cx.var 1 rfl (by decide +kernel)
  have v2 : ∀ {pos : Pos}, PE X (.Name "start" pos) (tVar 2) := cx.var 2 rfl (by decide +kernel)
  have g_law_draw : (defScope s_law_spiral).names.lookup ("_law_draw" : Str) = some .globalImplicit := by decide +kernel
  have F_law_draw := ok_law_draw (P := P) (w := w) (base := base) T
  show DSs X _ [_, _, _] _ _
  refine cx.setGW 1 rfl (by decide +kernel) ?_
  refine WE.bin ?_
  refine WE.bin ?_
  refine WE.bin ?_
  refine WE.call cd F_law_draw (by decide) g_law_draw ?_
  refine WA.cons ?_
  refine WE.of (DE.pe v0 rfl) ?_
  refine WA.cons ?_
  refine WE.of (DE.bin DE.int DE.int (oa_powL (r := 1000000) ⟨by decide, by decide, by decide⟩ (by decide +kernel))) ?_
  refine WA.nil ?_
  refine ⟨_, _, _, _, rfl, hD, hd, by omega, (by decide), B.le (show B 20 (1000000 : Int) by decide) (by decide), ?_⟩
  intro r1 d2 p_r1 q_r1 ok_d2
  have h_d2 := mset (m' := seMO d2) hD
  refine WE.of (DE.bin DE.int DE.int (oa_powL (r := 1000000000000) ⟨by decide, by decide, by decide⟩ (by decide +kernel))) ?_
  refine ⟨_, (oa_mul (mulW (B.rngT p_r1 q_r1 (show B 20 (1000000 : Int) by decide)) (show B 40 (1000000000000 : Int) by decide) (by decide))), ?_⟩
  refine WE.bin ?_
  refine WE.call cd F_law_draw (by decide) g_law_draw ?_
  refine WA.cons ?_
  refine WE.of (DE.pe v0 rfl) ?_
  refine WA.cons ?_
  refine WE.of (DE.bin DE.int DE.int (oa_powL (r := 1000000) ⟨by decide, by decide, by decide⟩ (by decide +kernel))) ?_
  refine WA.nil ?_
  refine ⟨_, _, _, _, rfl, h_d2, ok_d2, by omega, (by decide), B.le (show B 20 (1000000 : Int) by decide) (by decide), ?_⟩
  intro r3 d4 p_r3 q_r3 ok_d4
  have h_d4 := mset (m' := seMO d4) h_d2
  refine WE.of (DE.bin DE.int DE.int (oa_powL (r := 1000000) ⟨by decide, by decide, by decide⟩ (by decide +kernel))) ?_
  refine ⟨_, (oa_mul (mulW (B.rngT p_r3 q_r3 (show B 20 (1000000 : Int) by decide)) (show B 20 (1000000 : Int) by decide) (by decide))), ?_⟩
  refine ⟨_, oa_add, ?_⟩
  refine WE.call cd F_law_draw (by decide) g_law_draw ?_
  refine WA.cons ?_
  refine WE.of (DE.pe v0 rfl) ?_
  refine WA.cons ?_
  refine WE.of (DE.bin DE.int DE.int (oa_powL (r := 1000000) ⟨by decide, by decide, by decide⟩ (by decide +kernel))) ?_
  refine WA.nil ?_
  refine ⟨_, _, _, _, rfl, h_d4, ok_d4, by omega, (by decide), B.le (show B 20 (1000000 : Int) by decide) (by decide), ?_⟩
  intro r5 d6 p_r5 q_r5 ok_d6
  have h_d6 := mset (m' := seMO d6) h_d4
  refine ⟨_, oa_add, ?_⟩
  show DSs X _ [_, _, _] _ _
  refine cx.setGW 2 rfl (by decide +kernel) ?_
  refine WE.ix ?_
  refine WE.lst ?_
  refine WA.cons ?_
  refine WE.of (DE.int) ?_
  refine WA.cons ?_
  refine WE.of (DE.int) ?_
  refine WA.cons ?_
  refine WE.bin ?_
  refine WE.call cd F_law_draw (by decide) g_law_draw ?_
  refine WA.cons ?_
  refine WE.of (DE.pe v0 rfl) ?_
  refine WA.cons ?_
  refine WE.of (DE.int) ?_
  refine WA.nil ?_
  refine ⟨_, _, _, _, rfl, h_d6, ok_d6, by omega, (by decide), B.le (show B 6 (60 : Int) by decide) (by decide), ?_⟩
  intro r7 d8 p_r7 q_r7 ok_d8
  have h_d8 := mset (m' := seMO d8) h_d6
  refine WE.of (DE.int) ?_
  refine ⟨_, oa_sub, ?_⟩
  refine WA.cons ?_
  refine WE.of (DE.pe v1 rfl) ?_
  refine WA.cons ?_
  refine WE.of (DE.bin (DE.int) (DE.pe v1 rfl) oa_sub) ?_
  refine WA.cons ?_
  refine WE.of (DE.bin DE.int DE.int (oa_powL (r := 1000000000000000000) ⟨by decide, by decide, by decide⟩ (by decide +kernel))) ?_
  refine WA.cons ?_
  refine WE.of (DE.bin (DE.int) (DE.bin DE.int DE.int (oa_powL (r := 1000000000000000000) ⟨by decide, by decide, by decide⟩ (by decide +kernel))) oa_sub) ?_
  refine WA.nil ?_
  refine ⟨le_line (Nat.le_of_ble_eq_true rfl), ?_⟩
  refine WE.call cd F_law_draw (by decide) g_law_draw ?_
  refine WA.cons ?_
  refine WE.of (DE.pe v0 rfl) ?_
  refine WA.cons ?_
  refine WE.of (DE.int) ?_
  refine WA.nil ?_
  refine ⟨_, _, _, _, rfl, h_d8, ok_d8, by omega, (by decide), B.le (show B 3 (7 : Int) by decide) (by decide), ?_⟩
  intro r9 d10 p_r9 q_r9 ok_d10
  have h_d10 := mset (m' := seMO d10) h_d8
  refine ixWI (lo := -1000000000000000000) (hi := 1000000000000000000) rfl p_r9 (by simpa using q_r9) (by simp only [AllI, List.cons_append, List.nil_append]; (repeat' apply And.intro) <;> first | exact True.intro | omega) ?_
  intro z11 l_z11 u_z11
  show DSs X _ [_, _, _] _ _
  refine DSs.ret1W ?_
  refine WE.tup ?_
  refine WA.cons ?_
  refine WE.of (DE.pe v2 rfl) ?_
  refine WA.cons ?_
  refine WE.ix ?_
  refine WE.of (DE.str) ?_
  refine WE.call cd F_law_draw (by decide) g_law_draw ?_
  refine WA.cons ?_
  refine WE.of (DE.pe v0 rfl) ?_
  refine WA.cons ?_
  refine WE.of (DE.int) ?_
  refine WA.nil ?_
  refine ⟨_, _, _, _, rfl, h_d10, ok_d10, by omega, (by decide), B.le (show B 3 (4 : Int) by decide) (by decide), ?_⟩
  intro r12 d13 p_r12 q_r12 ok_d13
  have h_d13 := mset (m' := seMO d13) h_d10
  obtain ⟨c14, h_c14, _⟩ := hd_at p_r12 q_r12
  refine ⟨.str (hdS c14), ia_str h_c14 (le_line (by decide +kernel)), ?_⟩
  refine WA.cons ?_
  refine WE.ix ?_
  refine WE.of (DE.str) ?_
  refine WE.call cd F_law_draw (by decide) g_law_draw ?_
  refine WA.cons ?_
  refine WE.of (DE.pe v0 rfl) ?_
  refine WA.cons ?_
  refine WE.of (DE.int) ?_
  refine WA.nil ?_
  refine ⟨_, _, _, _, rfl, h_d13, ok_d13, by omega, (by decide), B.le (show B 2 (2 : Int) by decide) (by decide), ?_⟩
  intro r15 d16 p_r15 q_r15 ok_d16
  have h_d16 := mset (m' := seMO d16) h_d13
  obtain ⟨c17, h_c17⟩ := tn_at p_r15 q_r15
  refine ⟨.str (tnS c17), ia_str h_c17 (le_line (by decide +kernel)), ?_⟩
  refine WA.nil ?_
  refine ⟨le_line (Nat.le_of_ble_eq_true rfl), ?_⟩
  exact fin_mem (hQ z11 c14 c17 _ l_z11 u_z11 (ok_d16.mono (by omega))) rfl (by simp only [List.set_set])
theorem sc_law_headings : FnScope ["spiral", "order", "at"] ["spiral"] (defScope s_law_headings) := ⟨rfl, rfl, rfl, by decide +kernel, rfl, by decide +kernel, by decide +kernel⟩
def A_law_headings : ASp := fun args μ Q _ => ∃ (s : Int) (h : Fin 4) (t : Bool), args = [spP s h t] ∧ Q (.str (hsS h t)) μ
theorem ok_law_headings (T : Txt K w mg CW) : FnA P w K mg base 1 "_law_headings" A_law_headings := by
  refine T.d_law_headings.ok sc_law_headings (by rintro _ _ _ _ ⟨_, _, _, rfl, _⟩; rfl) ?_
  rintro X _ μ Q E cx ⟨s, h, t, rfl, hQ⟩
  have cd := cx.toCxD
  have v0 : ∀ {pos : Pos}, PE X (.Name "spiral" pos) (tVar 0) := cx.var 0 rfl (by decide +kernel)
  have v1 : ∀ {pos : Pos}, PE X (.Name "order" pos) (tVar 1) := cx.var 1 rfl (by decide +kernel)
  have v2 : ∀ {pos : Pos}, PE X (.Name "at" pos) (tVar 2) := cx.var 2 rfl (by decide +kernel)
  have g_int : (defScope s_law_headings).names.lookup ("int" : Str) = some .globalImplicit := by decide +kernel
  have ol : (ordS t).length ≤ sizeLine := Nat.le_trans (or_len t) (le_line (by decide))
  show DSs X _ [_, _, _] _ _
  refine CxF.setP (q := .str (ordS t)) cx 1 rfl (by decide +kernel) (DE.ixL (DE.lst (DA.cons DE.str (DA.cons DE.str DA.nil))) (DE.callTy cd g_int T.z_int boot_int (DA.cons (DE.cast (DE.cmp (DE.ixT (DE.pe v0 rfl) DE.int rfl) DE.str oa_eqS) (congrArg PV.bl (tn_r t))) DA.nil) ca_intB) rfl (at_ord t)) ?_
  show DSs X _ [_, _, _] _ _
  refine CxF.setP (q := .int ((atO h t : Nat) : Int)) cx 2 rfl (by decide +kernel) (DE.bmS PySem.F.slot_str_index PySem.F.type_str_index (DE.pe v1 rfl) (DA.cons (DE.ixT (DE.pe v0 rfl) DE.int rfl) DA.nil) (ma_sindex (or_idx h t))) ?_
  show DSs X _ [_, _, _] _ _
  refine DSs.ret1 (DE.bin (DE.slice (DE.pe v1 rfl) (DO.some (DE.pe v2 rfl)) DO.none (sa_str ol)) (DE.slice (DE.pe v1 rfl) DO.none (DO.some (DE.pe v2 rfl)) (sa_str ol)) (oa_addS (Nat.le_trans (or_cat h t) (le_line (by decide))))) ?_
  exact fin_same hQ rfl
theorem sc_law_by : FnScope ["place", "heading", "along", "up"] ["place", "heading"] (defScope s_law_by) := ⟨rfl, rfl, rfl, by decide +kernel, rfl, by decide +kernel, by decide +kernel⟩
def A_law_by : ASp := fun args μ Q _ => ∃ (p : Int × Int) (g : Fin 4) (q : PV), args = [q, .str (hdS g)] ∧ Sq μ q [.int p.1, .int p.2] ∧ Q (.int (byW g p)) μ
theorem ok_law_by (T : Txt K w mg CW) : FnA P w K mg base 1 "_law_by" A_law_by := by
  refine T.d_law_by.ok sc_law_by (by rintro _ _ _ _ ⟨_, _, _, rfl, _⟩; rfl) ?_
  rintro X _ μ Q E cx ⟨p, g, q, rfl, hp, hQ⟩
  have cd := cx.toCxD
  have v0 : ∀ {pos : Pos}, PE X (.Name "place" pos) (tVar 0) := cx.var 0 rfl (by decide +kernel)
  have v1 : ∀ {pos : Pos}, PE X (.Name "heading" pos) (tVar 1) := cx.var 1 rfl (by decide +kernel)
  have v2 : ∀ {pos : Pos}, PE X (.Name "along" pos) (tVar 2) := cx.var 2 rfl (by decide +kernel)
  have v3 : ∀ {pos : Pos}, PE X (.Name "up" pos) (tVar 3) := cx.var 3 rfl (by decide +kernel)
  show DSs X _ [_, _, _, _] _ _
  refine DSs.cons (DS.asg (DE.pe v0 rfl) (DG.seq cx.calm hp (DGs.cons (DG.name (cx.tgt 2 rfl (by decide +kernel))) (DGs.cons (DG.name (cx.tgt 3 rfl (by decide +kernel))) DGs.nil))) ?_)
  show DSs X _ [_, _, _, _] _ _
  refine DSs.ret1 (DE.ixL (DE.lst (DA.cons (DE.pe v2 rfl) (DA.cons (DE.pe v3 rfl) (DA.cons (DE.bin DE.int (DE.pe v2 rfl) oa_sub) (DA.cons (DE.bin DE.int (DE.pe v3 rfl) oa_sub) DA.nil))))) (DE.bmS PySem.F.slot_str_index PySem.F.type_str_index DE.str (DA.cons (DE.pe v1 rfl) DA.nil) (ma_sindex (en_idx g))) rfl (by_at g p)) ?_
  exact fin_same hQ rfl
theorem sc_law_more_at : FnScope ["spiral", "place", "headings", "ring", "behind", "side", "onward"] ["spiral", "place"] (defScope s_law_more_at) := ⟨rfl, rfl, rfl, by decide +kernel, rfl, by decide +kernel, by decide +kernel⟩
def A_law_more_at : ASp := fun args μ Q _ => ∃ (s : Int) (h : Fin 4) (t : Bool) (p : Int × Int) (q : PV), args = [spP s h t, q] ∧ Sq μ q [.int p.1, .int p.2] ∧ PtS p ∧ Q (.int (nuW h t p)) μ
theorem ok_law_more_at (T : Txt K w mg CW) : FnA P w K mg base 2 "_law_more_at" A_law_more_at := by
  refine T.d_law_more_at.ok sc_law_more_at (by rintro _ _ _ _ ⟨_, _, _, _, _, rfl, _⟩; rfl) ?_
  rintro X _ μ Q E cx ⟨s, h, t, p, q, rfl, hp, ⟨b1, b2, b3, b4⟩, hQ⟩
  have cd := cx.toCxD
  have v0 : ∀ {pos : Pos}, PE X (.Name "spiral" pos) (tVar 0) := cx.var 0 rfl (by decide +kernel)
  have v1 : ∀ {pos : Pos}, PE X (.Name "place" pos) (tVar 1) := cx.var 1 rfl (by decide +kernel)
  have v2 : ∀ {pos : Pos}, PE X (.Name "headings" pos) (tVar 2) := cx.var 2 rfl (by decide +kernel)
  have v3 : ∀ {pos : Pos}, PE X (.Name "ring" pos) (tVar 3) := cx.var 3 rfl (by decide +kernel)
  have v4 : ∀ {pos : Pos}, PE X (.Name "behind" pos) (tVar 4) := cx.var 4 rfl (by decide +kernel)
  have v5 : ∀ {pos : Pos}, PE X (.Name "side" pos) (tVar 5) := cx.var 5 rfl (by decide +kernel)
  have v6 : ∀ {pos : Pos}, PE X (.Name "onward" pos) (tVar 6) := cx.var 6 rfl (by decide +kernel)
  have g_law_headings : (defScope s_law_more_at).names.lookup ("_law_headings" : Str) = some .globalImplicit := by decide +kernel
  have g_max : (defScope s_law_more_at).names.lookup ("max" : Str) = some .globalImplicit := by decide +kernel
  have g_abs : (defScope s_law_more_at).names.lookup ("abs" : Str) = some .globalImplicit := by decide +kernel
  have g_range : (defScope s_law_more_at).names.lookup ("range" : Str) = some .globalImplicit := by decide +kernel
  have g_law_by : (defScope s_law_more_at).names.lookup ("_law_by" : Str) = some .globalImplicit := by decide +kernel
  have F_law_headings := ok_law_headings (P := P) (w := w) (base := base) T
  have F_law_by := ok_law_by (P := P) (w := w) (base := base) T
  have rb : 0 ≤ rgP p ∧ rgP p ≤ 1000000000 := by
    unfold rgP
    omega
  obtain ⟨rb0, rb1⟩ := rb
  have br : B 31 (rgP p) := B.rng (a := 1000000000) (by omega) (by omega) (by decide)
  show DSs X _ [_, _, _, _, _, _, _] _ _
  refine CxF.setP cx 2 rfl (by decide +kernel) (DE.call cd F_law_headings (by decide) g_law_headings (DA.cons (DE.pe v0 rfl) (DA.nil)) ⟨s, h, t, rfl, rfl, rfl⟩) ?_
  show DSs X _ [_, _, _, _, _, _, _] _ _
  refine CxF.setP (q := .int (rgP p)) cx 3 rfl (by decide +kernel) (DE.callB cd g_max T.z_max boot_max (DA.cons (DE.callB cd g_abs T.z_abs boot_abs (DA.cons (DE.ixE hp (DE.pe v1 rfl) DE.int rfl) DA.nil) ca_abs) (DA.cons (DE.callB cd g_abs T.z_abs boot_abs (DA.cons (DE.ixE hp (DE.pe v1 rfl) DE.int rfl) DA.nil) ca_abs) DA.nil)) (ca_max2 cx.calm)) ?_
  show DSs X _ [_, _, _, _, _, _, _] _ _
  refine DSs.ifc (DT.cmp (DE.pe v3 rfl) DE.int oa_eq) (fun hc => ?_) (fun hc => DSs.nil ?_)
  · refine DSs.ret1 DE.int ?_
    have e := rg_0 (of_decide_eq_true hc)
    subst e
    exact fin_same hQ (congrArg PV.int (nu_zero h t).symm)
  have r1 : 1 ≤ rgP p := by
    have := of_decide_eq_false hc
    omega
  show DSs X _ [_, _, _, _, _, _, _] _ _
  refine CxF.setP (q := .int ((2 * rgP p - 1) * (2 * rgP p - 1) - 1)) cx 4 rfl (by decide +kernel) (DE.bin (DE.bin (DE.bin (DE.bin DE.int (DE.pe v3 rfl) (oa_mul (mulW (show B 2 (2 : Int) by decide) br (by decide)))) DE.int oa_sub) (DE.bin (DE.bin DE.int (DE.pe v3 rfl) (oa_mul (mulW (show B 2 (2 : Int) by decide) br (by decide)))) DE.int oa_sub) (oa_mul (mulW (B.sub (B.mul (show B 2 (2 : Int) by decide) br) (show B 1 (1 : Int) by decide)) (B.sub (B.mul (show B 2 (2 : Int) by decide) br) (show B 1 (1 : Int) by decide)) (by decide)))) DE.int oa_sub) ?_
  show DSs X _ [_, _, _, _, _, _, _] _ _
  refine DSs.cons (DS.for cx.po cx.calm (DI.range1 (cx.gl _ g_range) (by rw [cx.emg]; exact T.z_range) DE.int (by decide) (by decide)) (fun i ρ' μ' => (∃ a0 a1 : Option PV, ρ' = [some (spP s h t), some q, some (.str (hsS h t)), some (.int (rgP p)), some (.int ((2 * rgP p - 1) * (2 * rgP p - 1) - 1)), a0, a1]) ∧ μ' = μ ∧ ∀ j : Nat, j < i → ¬ (byW (hdR h t ((j : Nat) : Int)) p = rgP p ∧ byW (hdR h t (((j : Nat) : Int) + 1)) p > 0 - rgP p)) ⟨⟨_, _, rfl⟩, rfl, nofun⟩ (fun _ _ _ _ _ => trivial) ?_ ?_)
  · rintro i x ρ' m' hi ⟨⟨a0, a1, rfl⟩, hm', hno⟩
    subst m'
    have i4 : i < 4 := by simpa [rngL_length] using (List.getElem?_eq_some_iff.mp hi).1
    have hx := rngL_get hi
    rw [Int.zero_add] at hx
    subst hx
    refine ⟨_, DG.name (cx.tgt 5 rfl (by decide +kernel)), ?_⟩
    show DSs X _ [_, _, _, _, _, _, _] _ _
    refine CxF.setP cx 6 rfl (by decide +kernel) (DE.call cd F_law_by (by decide) g_law_by (DA.cons (DE.pe v1 rfl) (DA.cons (DE.cast (q := .str (hdS (hdR h t (((i : Nat) : Int) + 1)))) (DE.ixS (DE.pe v2 rfl) (DE.bin (DE.bin (DE.pe v5 rfl) DE.int oa_add) DE.int (oa_mod (by decide : (0 : Int) < 4))) (hs_at h t (((i : Nat) : Int) + 1)) (Nat.le_trans (hs_len h t) (le_line (by decide)))) rfl) DA.nil)) ⟨p, hdR h t (((i : Nat) : Int) + 1), q, rfl, hp, rfl, rfl⟩) ?_
    show DSs X _ [_, _, _, _, _, _, _] _ _
    refine DSs.ifc (DW.t (DW.and (DT.cmp (DE.call cd F_law_by (by decide) g_law_by (DA.cons (DE.pe v1 rfl) (DA.cons (DE.cast (q := .str (hdS (hdR h t ((i : Nat) : Int)))) (DE.ixS (DE.pe v2 rfl) (DE.pe v5 rfl) (hs_at4 h t i4) (Nat.le_trans (hs_len h t) (le_line (by decide)))) rfl) DA.nil)) ⟨p, hdR h t ((i : Nat) : Int), q, rfl, hp, rfl, rfl⟩) (DE.pe v3 rfl) oa_eq) (fun _ => DW.and1 (DT.cmp (DE.pe v6 rfl) (DE.bin DE.int (DE.pe v3 rfl) oa_sub) oa_gt)))) (fun hc => ?_) (fun hc => ?_)
    · rw [Bool.and_eq_true] at hc
      have c1 := of_decide_eq_true hc.1
      have c2 := of_decide_eq_true hc.2
      refine DSs.ret1 (DE.bin (DE.bin (DE.bin (DE.pe v4 rfl) (DE.bin (DE.bin DE.int (DE.pe v3 rfl) (oa_mul (mulW (show B 2 (2 : Int) by decide) br (by decide)))) (DE.pe v5 rfl) (oa_mul (mulW (B.mul (show B 2 (2 : Int) by decide) br) (show B 4 ((i : Nat) : Int) from B.rng (a := 4) (by omega) (by omega) (by decide)) (by decide)))) oa_add) (DE.pe v3 rfl) oa_add) (DE.pe v6 rfl) oa_add) ?_
      exact fin_same hQ (congrArg PV.int ((more_val (i := ((i : Nat) : Int))).trans (by_num i4 r1 c1 c2).symm))
    · refine DSs.nil (DSs.nil ⟨⟨_, _, rfl⟩, rfl, fun j hj => ?_⟩)
      by_cases e : j = i
      · subst e
        rintro ⟨c1, c2⟩
        rw [decide_eq_true c1, decide_eq_true c2] at hc
        cases hc
      · exact hno j (by omega)
  · rintro ρ' m' ⟨⟨a0, a1, rfl⟩, hm', hno⟩
    exfalso
    obtain ⟨j, j4, c⟩ := by_some h t r1
    exact hno j (by simpa [rngL_length] using j4) c
theorem sc_law_far : FnScope ["seed", "some"] ["seed"] (defScope s_law_far) := ⟨rfl, rfl, rfl, by decide +kernel, rfl, by decide +kernel, by decide +kernel⟩
def A_law_far : ASp := fun args μ Q _ => ∃ (kd : Nat) (d : DeckC) (n : Int), args = [.obj kd] ∧ μ[kd]? = some (seMO d) ∧ ScOk d n ∧ n ≤ 800000000 ∧ ∀ (r : Int) (d' : DeckC), 0 ≤ r → r ≤ 1000000000 → ScOk d' (n + 7) → Q (.int r) (μ.set kd (seMO d'))
theorem ok_law_far (T : Txt K w mg CW) : FnA P w K mg base 2 "_law_far" A_law_far := by
  refine T.d_law_far.ok sc_law_far (by rintro _ _ _ _ ⟨_, _, _, rfl, _⟩; rfl) ?_
  rintro X _ μ Q E cx ⟨kd, d, n, rfl, hD, hd, hn, hQ⟩
  have cd := cx.toCxD
  have v0 : ∀ {pos : Pos}, PE X (.Name "seed" pos) (tVar 0) := cx.var 0 rfl (by decide +kernel)
  have v1 : ∀ {pos : Pos}, PE X (.Name "some" pos) (tVar 1) := cx.var 1 rfl (by decide +kernel)
  have g_law_draw : (defScope s_law_far).names.lookup ("_law_draw" : Str) = some .globalImplicit := by decide +kernel
  have F_law_draw := ok_law_draw (P := P) (w := w) (base := base) T
  show DSs X _ [_, _] _ _
  refine cx.setGW 1 rfl (by decide +kernel) ?_
  refine WE.lstO ?_
  refine WA.cons ?_
  refine WE.call cd F_law_draw (by decide) g_law_draw ?_
  refine WA.of (DA.cons (DE.pe v0 rfl) (DA.cons (DE.int) DA.nil)) ?_
  refine ⟨kd, d, _, _, rfl, hD, hd, by omega, by decide, (show B 7000 (4 : Int) by decide +kernel), ?_⟩
  intro r1 d1 p1 q1 ok1
  have k1 := mset (m' := seMO d1) hD
  refine WA.cons ?_
  refine WE.call cd F_law_draw (by decide) g_law_draw ?_
  refine WA.of (DA.cons (DE.pe v0 rfl) (DA.cons (DE.int) DA.nil)) ?_
  refine ⟨kd, d1, _, _, rfl, k1, ok1, by omega, by decide, (show B 7000 (60 : Int) by decide +kernel), ?_⟩
  intro r2 d2 p2 q2 ok2
  have k2 := mset (m' := seMO d2) k1
  refine WA.cons ?_
  refine WE.call cd F_law_draw (by decide) g_law_draw ?_
  refine WA.of (DA.cons (DE.pe v0 rfl) (DA.cons (DE.bin DE.int DE.int (oa_powL (r := 100000) ⟨by decide, by decide, by decide⟩ (by decide +kernel))) DA.nil)) ?_
  refine ⟨kd, d2, _, _, rfl, k2, ok2, by omega, by decide, (show B 7000 (100000 : Int) by decide +kernel), ?_⟩
  intro r3 d3 p3 q3 ok3
  have k3 := mset (m' := seMO d3) k2
  refine WA.cons ?_
  refine WE.bin ?_
  refine WE.of (DE.bin DE.int DE.int (oa_powL (r := 1000000000) ⟨by decide, by decide, by decide⟩ (by decide +kernel))) ?_
  refine WE.call cd F_law_draw (by decide) g_law_draw ?_
  refine WA.of (DA.cons (DE.pe v0 rfl) (DA.cons (DE.int) DA.nil)) ?_
  refine ⟨kd, d3, _, _, rfl, k3, ok3, by omega, by decide, (show B 7000 (9 : Int) by decide +kernel), ?_⟩
  intro r4 d4 p4 q4 ok4
  refine ⟨_, oa_sub, ?_⟩
  refine WA.nil ?_
  refine ⟨le_line (Nat.le_of_ble_eq_true rfl), ?_⟩
  simp only [List.set_set, List.length_set]
  have k4 := mset (m' := seMO d4) hD
  have k4' : (μ.set kd (seMO d4) ++ [.lst [.int r1, .int r2, .int r3, .int (1000000000 - r4)]])[kd]? = some (seMO d4) := get_app k4
  show DSs X _ [_, _] _ _
  refine DSs.cons (DS.exprW (WE.append (DE.pe v1 rfl) (asL_obj app_lastS) ?_))
  refine WE.bin ?_
  refine WE.bin ?_
  refine WE.call cd F_law_draw (by decide) g_law_draw ?_
  refine WA.of (DA.cons (DE.pe v0 rfl) (DA.cons (DE.bin DE.int DE.int (oa_powL (r := 100000) ⟨by decide, by decide, by decide⟩ (by decide +kernel))) DA.nil)) ?_
  refine ⟨kd, d4, _, _, rfl, k4', ok4, by omega, by decide, (show B 7000 (100000 : Int) by decide +kernel), ?_⟩
  intro r5 d5 p5 q5 ok5
  rw [set_app k4, List.set_set]
  have k5 := mset (m' := seMO d5) hD
  have k5' : (μ.set kd (seMO d5) ++ [.lst [.int r1, .int r2, .int r3, .int (1000000000 - r4)]])[kd]? = some (seMO d5) := get_app k5
  refine WE.of (DE.bin DE.int DE.int (oa_powL (r := 10000) ⟨by decide, by decide, by decide⟩ (by decide +kernel))) ?_
  refine ⟨_, oa_mul (mulW (show B 17 r5 from B.rng (a := 100000) (by omega) (by omega) (by decide)) (show B 14 (10000 : Int) by decide) (by decide)), ?_⟩
  refine WE.call cd F_law_draw (by decide) g_law_draw ?_
  refine WA.of (DA.cons (DE.pe v0 rfl) (DA.cons (DE.bin DE.int DE.int (oa_powL (r := 10000) ⟨by decide, by decide, by decide⟩ (by decide +kernel))) DA.nil)) ?_
  refine ⟨kd, d5, _, _, rfl, k5', ok5, by omega, by decide, (show B 7000 (10000 : Int) by decide +kernel), ?_⟩
  intro r6 d6 p6 q6 ok6
  rw [set_app k5, List.set_set]
  have k6 := mset (m' := seMO d6) hD
  refine ⟨_, oa_add, ?_⟩
  refine ⟨_, app_lastS, Nat.lt_of_lt_of_le (show 4 < 100 by decide) (le_line (by decide)), ?_⟩
  rw [app_setlS]
  have k6' : (μ.set kd (seMO d6) ++ [.lst ([.int r1, .int r2, .int r3, .int (1000000000 - r4)] ++ [.int (r5 * 10000 + r6)])])[kd]? = some (seMO d6) := get_app k6
  show DSs X _ [_, _] _ _
  refine DSs.ret1W ?_
  refine WE.ix ?_
  refine WE.of (DE.pe v1 rfl) ?_
  refine WE.call cd F_law_draw (by decide) g_law_draw ?_
  refine WA.of (DA.cons (DE.pe v0 rfl) (DA.cons (DE.int) DA.nil)) ?_
  refine ⟨kd, d6, _, _, rfl, k6', ok6, by omega, by decide, (show B 7000 (5 : Int) by decide +kernel), ?_⟩
  intro r7 d7 p7 q7 ok7
  rw [set_app k6, List.set_set]
  refine ixWI (lo := 0) (hi := 1000000000) (asL_obj app_lastS) p7 (by simpa using q7) (by simp only [AllI, List.cons_append, List.nil_append]; (repeat' apply And.intro) <;> first | exact True.intro | omega) ?_
  intro z z0 z1
  exact fin_dropS (hQ z d7 z0 z1 (ok7.mono (by omega))) rfl rfl
theorem sc_law_corner : FnScope ["seed", "one", "way", "other"] ["seed"] (defScope s_law_corner) := ⟨rfl, rfl, rfl, by decide +kernel, rfl, by decide +kernel, by decide +kernel⟩
def A_law_corner : ASp := fun args μ Q _ => ∃ (kd : Nat) (d : DeckC) (n : Int), args = [.obj kd] ∧ μ[kd]? = some (seMO d) ∧ ScOk d n ∧ n ≤ 700000000 ∧ ∀ (p : Int × Int) (d' : DeckC), PtS p → ScOk d' (n + 20) → Q (ptP p) (μ.set kd (seMO d'))
theorem ok_law_corner (T : Txt K w mg CW) : FnA P w K mg base 3 "_law_corner" A_law_corner := by
  refine T.d_law_corner.ok sc_law_corner (by rintro _ _ _ _ ⟨_, _, _, rfl, _⟩; rfl) ?_
  rintro X _ μ Q E cx ⟨kd, d, n, rfl, hD, hd, hn, hQ⟩
  have cd := cx.toCxD
  have v0 : ∀ {pos : Pos}, PE X (.Name "seed" pos) (tVar 0) := cx.var 0 rfl (by decide +kernel)
  have v1 : ∀ {pos : Pos}, PE X (.Name "one" pos) (tVar 1) := cx.var 1 rfl (by decide +kernel)
  have v2 : ∀ {pos : Pos}, PE X (.Name "way" pos) (tVar 2) := cx.var 2 rfl (by decide +kernel)
  have v3 : ∀ {pos : Pos}, PE X (.Name "other" pos) (tVar 3) := cx.var 3 rfl (by decide +kernel)
  have g_law_far : (defScope s_law_corner).names.lookup ("_law_far" : Str) = some .globalImplicit := by decide +kernel
  have g_law_draw : (defScope s_law_corner).names.lookup ("_law_draw" : Str) = some .globalImplicit := by decide +kernel
  have g_max : (defScope s_law_corner).names.lookup ("max" : Str) = some .globalImplicit := by decide +kernel
  have g_min : (defScope s_law_corner).names.lookup ("min" : Str) = some .globalImplicit := by decide +kernel
  have F_law_far := ok_law_far (P := P) (w := w) (base := base) T
  have F_law_draw := ok_law_draw (P := P) (w := w) (base := base) T
  show DSs X _ [_, _, _, _] _ _
  refine cx.setGW 1 rfl (by decide +kernel) ?_
  refine WE.bin ?_
  refine WE.call cd F_law_far (by decide) g_law_far ?_
  refine WA.of (DA.cons (DE.pe v0 rfl) DA.nil) ?_
  refine ⟨kd, d, _, rfl, hD, hd, by omega, ?_⟩
  intro z1 d1 zlz1 zuz1 ok1
  have h1 := mset (m' := seMO d1) hD
  refine WE.ix ?_
  refine WE.of (DE.lst (DA.cons DE.int (DA.cons (DE.neg DE.int) DA.nil))) ?_
  refine WE.call cd F_law_draw (by decide) g_law_draw ?_
  refine WA.of (DA.cons (DE.pe v0 rfl) (DA.cons (DE.int) DA.nil)) ?_
  refine ⟨kd, d1, _, _, rfl, h1, ok1, by omega, by decide, (show B 7000 (2 : Int) by decide +kernel), ?_⟩
  intro r2 d2 p2 q2 ok2
  have h2 := mset (m' := seMO d2) h1
  obtain ⟨e1, hee1, hse1⟩ := sg2_at p2 q2
  refine ⟨_, ia_lst rfl hee1, ?_⟩
  refine ⟨_, oa_mul (mulW (show B 31 z1 from B.rng (a := 1000000000) (by omega) (by omega) (by decide)) (show B 2 e1 by rcases hse1 with rfl | rfl <;> decide) (by decide)), ?_⟩
  obtain ⟨one, ho⟩ : ∃ one : Int, one = z1 * e1 := ⟨_, rfl⟩
  rw [← ho]
  have o0 : -1000000000 ≤ one ∧ one ≤ 1000000000 := by rcases hse1 with rfl | rfl <;> omega
  show DSs X _ [_, _, _, _] _ _
  refine cx.setGW 2 rfl (by decide +kernel) ?_
  refine WE.call cd F_law_draw (by decide) g_law_draw ?_
  refine WA.of (DA.cons (DE.pe v0 rfl) (DA.cons (DE.int) DA.nil)) ?_
  refine ⟨kd, d2, _, _, rfl, h2, ok2, by omega, by decide, (show B 7000 (4 : Int) by decide +kernel), ?_⟩
  intro r3 d3 p3 q3 ok3
  simp only [List.set_set]
  obtain ⟨w, hw⟩ : ∃ w : Int, w = r3 := ⟨_, rfl⟩
  rw [← hw] at p3 q3
  rw [← hw]
  have h3 := mset (m' := seMO d3) hD
  show DSs X _ [_, _, _, _] _ _
  refine DSs.ifJ (fun ρ' μ' => ∃ (o : Int) (d' : DeckC), ρ' = [some (.obj kd), some (.int one), some (.int w), some (.int o)] ∧ μ' = μ.set kd (seMO d') ∧ ScOk d' (n + 18)) ?_ ?_
  · refine WT.of (DT.cmp (DE.pe v2 rfl) DE.int oa_eq) ?_
    by_cases hz : w = 0
    · rw [decide_eq_true hz]
      show DSs X _ _ _ _
      refine cx.setGW 3 rfl (by decide +kernel) ?_
      refine WE.bin ?_
      refine WE.call cd F_law_far (by decide) g_law_far ?_
      refine WA.of (DA.cons (DE.pe v0 rfl) DA.nil) ?_
      refine ⟨kd, d3, _, rfl, h3, ok3, by omega, ?_⟩
      intro z4 d4 zlz4 zuz4 ok4
      have h4 := mset (m' := seMO d4) h3
      refine WE.ix ?_
      refine WE.of (DE.lst (DA.cons DE.int (DA.cons (DE.neg DE.int) DA.nil))) ?_
      refine WE.call cd F_law_draw (by decide) g_law_draw ?_
      refine WA.of (DA.cons (DE.pe v0 rfl) (DA.cons (DE.int) DA.nil)) ?_
      refine ⟨kd, d4, _, _, rfl, h4, ok4, by omega, by decide, (show B 7000 (2 : Int) by decide +kernel), ?_⟩
      intro r5 d5 p5 q5 ok5
      have h5 := mset (m' := seMO d5) h4
      obtain ⟨e4, hee4, hse4⟩ := sg2_at p5 q5
      refine ⟨_, ia_lst rfl hee4, ?_⟩
      refine ⟨_, oa_mul (mulW (show B 31 z4 from B.rng (a := 1000000000) (by omega) (by omega) (by decide)) (show B 2 e4 by rcases hse4 with rfl | rfl <;> decide) (by decide)), ?_⟩
      exact DSs.nil ⟨_, d5, rfl, by simp only [List.set_set], ok5.mono (by omega)⟩
    · rw [decide_eq_false hz]
      show DSs X _ _ _ _
      refine DSs.ifc (DT.cmp (DE.pe v2 rfl) DE.int oa_eq) (fun hc => ?_) (fun hc => ?_)
      · refine CxF.setP cx 3 rfl (by decide +kernel) DE.int ?_
        exact DSs.nil (DSs.nil ⟨_, d3, rfl, rfl, ok3.mono (by omega)⟩)
      · have w2 : w = 2 ∨ w = 3 := by
          have := of_decide_eq_false hc
          omega
        obtain ⟨c, hc1, hc2⟩ := pick_2 (a := one) (b := 0 - one) w2
        refine cx.setGW 3 rfl (by decide +kernel) ?_
        refine WE.bin ?_
        refine WE.bin ?_
        refine WE.of (DE.ixL (DE.lst (DA.cons (DE.pe v1 rfl) (DA.cons (DE.bin DE.int (DE.pe v1 rfl) oa_sub) DA.nil))) (DE.bin (DE.pe v2 rfl) DE.int oa_sub) rfl hc1) ?_
        refine WE.call cd F_law_draw (by decide) g_law_draw ?_
        refine WA.of (DA.cons (DE.pe v0 rfl) (DA.cons (DE.int) DA.nil)) ?_
        refine ⟨kd, d3, _, _, rfl, h3, ok3, by omega, by decide, (show B 7000 (5 : Int) by decide +kernel), ?_⟩
        intro r6 d6 p6 q6 ok6
        refine ⟨_, oa_add, ?_⟩
        refine WE.of DE.int ?_
        refine ⟨_, oa_sub, ?_⟩
        exact DSs.nil (DSs.nil ⟨_, d6, rfl, by simp only [List.set_set], ok6.mono (by omega)⟩)
  rintro ρ' μ' ⟨o, d7, rfl, rfl, ok7⟩
  have h7 := mset (m' := seMO d7) hD
  show DSs X _ [_, _, _, _] _ _
  refine CxF.setP (q := .int (cutF o)) cx 3 rfl (by decide +kernel) (DE.callB cd g_max T.z_max boot_max (DA.cons (DE.bin DE.int (DE.bin DE.int DE.int (oa_powL (r := 1000000000) ⟨by decide, by decide, by decide⟩ (by decide +kernel))) oa_sub) (DA.cons (DE.callB cd g_min T.z_min boot_min (DA.cons (DE.bin DE.int DE.int (oa_powL (r := 1000000000) ⟨by decide, by decide, by decide⟩ (by decide +kernel))) (DA.cons (DE.pe v3 rfl) DA.nil)) (ca_min2 cx.calm)) DA.nil)) (ca_max2 cx.calm)) ?_
  have c0 := cut_in o
  show DSs X _ [_, _, _, _] _ _
  refine DSs.ret1W ?_
  refine WE.ix ?_
  refine WE.of (DE.lst (DA.cons (DE.tup (DA.cons (DE.pe v1 rfl) (DA.cons (DE.pe v3 rfl) DA.nil))) (DA.cons (DE.tup (DA.cons (DE.pe v3 rfl) (DA.cons (DE.pe v1 rfl) DA.nil))) DA.nil))) ?_
  refine WE.call cd F_law_draw (by decide) g_law_draw ?_
  refine WA.of (DA.cons (DE.pe v0 rfl) (DA.cons (DE.int) DA.nil)) ?_
  refine ⟨kd, d7, _, _, rfl, h7, ok7, by omega, by decide, (show B 7000 (2 : Int) by decide +kernel), ?_⟩
  intro r8 d8 p8 q8 ok8
  refine ixWP (lo := -1000000000) (hi := 1000000000) rfl p8 (by simpa using q8) (by simp only [AllPt]; (repeat' apply And.intro) <;> first | exact True.intro | omega) ?_
  intro a b la ua lb ub
  exact fin_mem (hQ (a, b) d8 ⟨la, ua, lb, ub⟩ (ok8.mono (by omega))) rfl (by simp only [List.set_set])
theorem sc_law_cut : FnScope ["number"] ["number"] (defScope s_law_cut) := ⟨rfl, rfl, rfl, by decide +kernel, rfl, by decide +kernel, by decide +kernel⟩
def A_law_cut : ASp := fun args μ Q _ => ∃ n : Int, args = [.int n] ∧ Q (.int (cutF n)) μ
theorem ok_law_cut (T : Txt K w mg CW) : FnA P w K mg base 1 "_law_cut" A_law_cut := by
  refine T.d_law_cut.ok sc_law_cut (by rintro _ _ _ _ ⟨_, rfl, _⟩; rfl) ?_
  rintro X _ μ Q E cx ⟨n, rfl, hQ⟩
  have cd := cx.toCxD
  have v0 : ∀ {pos : Pos}, PE X (.Name "number" pos) (tVar 0) := cx.var 0 rfl (by decide +kernel)
  have g_max : (defScope s_law_cut).names.lookup ("max" : Str) = some .globalImplicit := by decide +kernel
  have g_min : (defScope s_law_cut).names.lookup ("min" : Str) = some .globalImplicit := by decide +kernel
  show DSs X _ [_] _ _
  refine DSs.ret1 (DE.callB cd g_max T.z_max boot_max (DA.cons (DE.bin DE.int (DE.bin DE.int DE.int (oa_powL (r := 1000000000) ⟨by decide, by decide, by decide⟩ (by decide +kernel))) oa_sub) (DA.cons (DE.callB cd g_min T.z_min boot_min (DA.cons (DE.bin DE.int DE.int (oa_powL (r := 1000000000) ⟨by decide, by decide, by decide⟩ (by decide +kernel))) (DA.cons (DE.pe v0 rfl) DA.nil)) (ca_min2 cx.calm)) DA.nil)) (ca_max2 cx.calm)) ?_
  exact fin_same hQ rfl
theorem sc_law_box : FnScope ["seed", "one", "other"] ["seed"] (defScope s_law_box) := ⟨rfl, rfl, rfl, by decide +kernel, rfl, by decide +kernel, by decide +kernel⟩
def A_law_box : ASp := fun args μ Q _ => ∃ (kd : Nat) (d : DeckC) (n : Int), args = [.obj kd] ∧ μ[kd]? = some (seMO d) ∧ ScOk d n ∧ n ≤ 600000000 ∧ ∀ (b : Bx) (d' : DeckC), BxOk b → BxS b → ScOk d' (n + 40) → Q (bxP b) (μ.set kd (seMO d'))
theorem ok_law_box (T : Txt K w mg CW) : FnA P w K mg base 4 "_law_box" A_law_box := by
  refine T.d_law_box.ok sc_law_box (by rintro _ _ _ _ ⟨_, _, _, rfl, _⟩; rfl) ?_
  rintro X _ μ Q E cx ⟨kd, d, n, rfl, hD, hd, hn, hQ⟩
  have cd := cx.toCxD
  have v0 : ∀ {pos : Pos}, PE X (.Name "seed" pos) (tVar 0) := cx.var 0 rfl (by decide +kernel)
  have v1 : ∀ {pos : Pos}, PE X (.Name "one" pos) (tVar 1) := cx.var 1 rfl (by decide +kernel)
  have v2 : ∀ {pos : Pos}, PE X (.Name "other" pos) (tVar 2) := cx.var 2 rfl (by decide +kernel)
  have g_law_corner : (defScope s_law_box).names.lookup ("_law_corner" : Str) = some .globalImplicit := by decide +kernel
  have g_min : (defScope s_law_box).names.lookup ("min" : Str) = some .globalImplicit := by decide +kernel
  have g_max : (defScope s_law_box).names.lookup ("max" : Str) = some .globalImplicit := by decide +kernel
  have F_law_corner := ok_law_corner (P := P) (w := w) (base := base) T
  show DSs X _ [_, _, _] _ _
  refine cx.setGW 1 rfl (by decide +kernel) ?_
  refine WE.call cd F_law_corner (by decide) g_law_corner ?_
  refine WA.of (DA.cons (DE.pe v0 rfl) DA.nil) ?_
  refine ⟨kd, d, _, rfl, hD, hd, by omega, ?_⟩
  intro p d1 s1 ok1
  have h1 := mset (m' := seMO d1) hD
  show DSs X _ [_, _, _] _ _
  refine cx.setGW 2 rfl (by decide +kernel) ?_
  refine WE.call cd F_law_corner (by decide) g_law_corner ?_
  refine WA.of (DA.cons (DE.pe v0 rfl) DA.nil) ?_
  refine ⟨kd, d1, _, rfl, h1, ok1, by omega, ?_⟩
  intro q d2 s2 ok2
  obtain ⟨a1, a2, a3, a4⟩ := s1
  obtain ⟨e1, e2, e3, e4⟩ := s2
  show DSs X _ [_, _, _] _ _
  refine DSs.ret1 (DE.tup (DA.cons (DE.callB cd g_min T.z_min boot_min (DA.cons (DE.ixT (DE.pe v1 rfl) DE.int rfl) (DA.cons (DE.ixT (DE.pe v2 rfl) DE.int rfl) DA.nil)) (ca_min2 cx.calm)) (DA.cons (DE.callB cd g_min T.z_min boot_min (DA.cons (DE.ixT (DE.pe v1 rfl) DE.int rfl) (DA.cons (DE.ixT (DE.pe v2 rfl) DE.int rfl) DA.nil)) (ca_min2 cx.calm)) (DA.cons (DE.callB cd g_max T.z_max boot_max (DA.cons (DE.ixT (DE.pe v1 rfl) DE.int rfl) (DA.cons (DE.ixT (DE.pe v2 rfl) DE.int rfl) DA.nil)) (ca_max2 cx.calm)) (DA.cons (DE.callB cd g_max T.z_max boot_max (DA.cons (DE.ixT (DE.pe v1 rfl) DE.int rfl) (DA.cons (DE.ixT (DE.pe v2 rfl) DE.int rfl) DA.nil)) (ca_max2 cx.calm)) DA.nil))))) ?_
  refine fin_mem (hQ (min p.1 q.1, min p.2 q.2, max p.1 q.1, max p.2 q.2) d2 ⟨?_, ?_⟩ ⟨?_, ?_, ?_, ?_⟩ (ok2.mono (by omega))) rfl (by simp only [List.set_set])
  · show min p.1 q.1 ≤ max p.1 q.1
    omega
  · show min p.2 q.2 ≤ max p.2 q.2
    omega
  · show -1000000000 ≤ min p.1 q.1
    omega
  · show max p.1 q.1 ≤ 1000000000
    omega
  · show -1000000000 ≤ min p.2 q.2
    omega
  · show max p.2 q.2 ≤ 1000000000
    omega
theorem sc_law_place : FnScope ["heading", "at", "across"] ["heading", "at", "across"] (defScope s_law_place) := ⟨rfl, rfl, rfl, by decide +kernel, rfl, by decide +kernel, by decide +kernel⟩
def A_law_place : ASp := fun args μ Q _ => ∃ (e : Bool) (a c : Int), args = [.str (heS e), .int a, .int c] ∧ Q (ptP (plc e a c)) μ
theorem ok_law_place (T : Txt K w mg CW) : FnA P w K mg base 1 "_law_place" A_law_place := by
  refine T.d_law_place.ok sc_law_place (by rintro _ _ _ _ ⟨_, _, _, rfl, _⟩; rfl) ?_
  rintro X _ μ Q E cx ⟨e, a, c, rfl, hQ⟩
  have cd := cx.toCxD
  have v0 : ∀ {pos : Pos}, PE X (.Name "heading" pos) (tVar 0) := cx.var 0 rfl (by decide +kernel)
  have v1 : ∀ {pos : Pos}, PE X (.Name "at" pos) (tVar 1) := cx.var 1 rfl (by decide +kernel)
  have v2 : ∀ {pos : Pos}, PE X (.Name "across" pos) (tVar 2) := cx.var 2 rfl (by decide +kernel)
  cases e
  · show DSs X _ [_, _, _] _ _
    refine DSs.ifc (kb := false) (DT.cast (DT.cmp (DE.pe v0 rfl) DE.str oa_eqS) (by decide +kernel)) (fun hc => by cases hc) (fun _ => DSs.nil ?_)
    show DSs X _ [_, _, _] _ _
    refine DSs.ret1 (DE.tup (DA.cons (DE.pe v2 rfl) (DA.cons (DE.pe v1 rfl) DA.nil))) ?_
    exact fin_same hQ rfl
  · show DSs X _ [_, _, _] _ _
    refine DSs.ifc (kb := true) (DT.cast (DT.cmp (DE.pe v0 rfl) DE.str oa_eqS) (by decide +kernel)) (fun _ => ?_) (fun hc => by cases hc)
    refine DSs.ret1 (DE.tup (DA.cons (DE.pe v1 rfl) (DA.cons (DE.pe v2 rfl) DA.nil))) ?_
    exact fin_same hQ rfl
theorem sc_law_side_at : FnScope ["spiral", "side", "heading", "across", "at", "headings", "beside", "place", "far"] ["spiral", "side", "heading", "across", "at"] (defScope s_law_side_at) := ⟨rfl, rfl, rfl, by decide +kernel, rfl, by decide +kernel, by decide +kernel⟩
def A_law_side_at : ASp := fun args μ Q _ => ∃ (s : Int) (h : Fin 4) (t : Bool) (k : Nat) (e : Bool) (c a : Int), args = [spP s h t, .int ((k : Nat) : Int), .str (heS e), .int c, .int a] ∧ k < 4 ∧ (-2000000000 ≤ a ∧ a ≤ 2000000000) ∧ (-2000000000 ≤ c ∧ c ≤ 2000000000) ∧ Q (.int (sdF h t k (plc e a c))) μ
theorem ok_law_side_at (T : Txt K w mg CW) : FnA P w K mg base 2 "_law_side_at" A_law_side_at := by
  refine T.d_law_side_at.ok sc_law_side_at (by rintro _ _ _ _ ⟨_, _, _, _, _, _, _, rfl, _⟩; rfl) ?_
  rintro X _ μ Q E cx ⟨s, h, t, k, e, c, a, rfl, k4, ha, hc, hQ⟩
  have cd := cx.toCxD
  have v0 : ∀ {pos : Pos}, PE X (.Name "spiral" pos) (tVar 0) := cx.var 0 rfl (by decide +kernel)
  have v1 : ∀ {pos : Pos}, PE X (.Name "side" pos) (tVar 1) := cx.var 1 rfl (by decide +kernel)
  have v2 : ∀ {pos : Pos}, PE X (.Name "heading" pos) (tVar 2) := cx.var 2 rfl (by decide +kernel)
  have v3 : ∀ {pos : Pos}, PE X (.Name "across" pos) (tVar 3) := cx.var 3 rfl (by decide +kernel)
  have v4 : ∀ {pos : Pos}, PE X (.Name "at" pos) (tVar 4) := cx.var 4 rfl (by decide +kernel)
  have v5 : ∀ {pos : Pos}, PE X (.Name "headings" pos) (tVar 5) := cx.var 5 rfl (by decide +kernel)
  have v6 : ∀ {pos : Pos}, PE X (.Name "beside" pos) (tVar 6) := cx.var 6 rfl (by decide +kernel)
  have v7 : ∀ {pos : Pos}, PE X (.Name "place" pos) (tVar 7) := cx.var 7 rfl (by decide +kernel)
  have v8 : ∀ {pos : Pos}, PE X (.Name "far" pos) (tVar 8) := cx.var 8 rfl (by decide +kernel)
  have g_law_headings : (defScope s_law_side_at).names.lookup ("_law_headings" : Str) = some .globalImplicit := by decide +kernel
  have g_law_place : (defScope s_law_side_at).names.lookup ("_law_place" : Str) = some .globalImplicit := by decide +kernel
  have g_law_by : (defScope s_law_side_at).names.lookup ("_law_by" : Str) = some .globalImplicit := by decide +kernel
  have F_law_headings := ok_law_headings (P := P) (w := w) (base := base) T
  have F_law_place := ok_law_place (P := P) (w := w) (base := base) T
  have F_law_by := ok_law_by (P := P) (w := w) (base := base) T
  have bf : B 32 (byW (hdR h t ((k : Nat) : Int)) (plc e a c)) := pl_B ha hc
  show DSs X _ [_, _, _, _, _, _, _, _, _] _ _
  refine CxF.setP cx 5 rfl (by decide +kernel) (DE.call cd F_law_headings (by decide) g_law_headings (DA.cons (DE.pe v0 rfl) (DA.nil)) ⟨s, h, t, rfl, rfl, rfl⟩) ?_
  show DSs X _ [_, _, _, _, _, _, _, _, _] _ _
  refine CxF.setP cx 6 rfl (by decide +kernel) (DE.cast (q := .str (hdS (hdR h t (((k : Nat) : Int) + 1)))) (DE.ixS (DE.pe v5 rfl) (DE.bin (DE.bin (DE.pe v1 rfl) DE.int oa_add) DE.int (oa_mod (by decide : (0 : Int) < 4))) (hs_at h t (((k : Nat) : Int) + 1)) (Nat.le_trans (hs_len h t) (le_line (by decide)))) rfl) ?_
  show DSs X _ [_, _, _, _, _, _, _, _, _] _ _
  refine CxF.setP (q := ptP (plc e a c)) cx 7 rfl (by decide +kernel) (DE.call cd F_law_place (by decide) g_law_place (DA.cons (DE.pe v2 rfl) (DA.cons (DE.pe v4 rfl) (DA.cons (DE.pe v3 rfl) (DA.nil)))) ⟨e, a, c, rfl, rfl, rfl⟩) ?_
  show DSs X _ [_, _, _, _, _, _, _, _, _] _ _
  refine CxF.setP (q := .int (byW (hdR h t ((k : Nat) : Int)) (plc e a c))) cx 8 rfl (by decide +kernel) (DE.call cd F_law_by (by decide) g_law_by (DA.cons (DE.pe v7 rfl) (DA.cons (DE.cast (q := .str (hdS (hdR h t ((k : Nat) : Int)))) (DE.ixS (DE.pe v5 rfl) (DE.pe v1 rfl) (hs_at4 h t k4) (Nat.le_trans (hs_len h t) (le_line (by decide)))) rfl) DA.nil)) ⟨(plc e a c), hdR h t ((k : Nat) : Int), _, rfl, .inl rfl, rfl, rfl⟩) ?_
  show DSs X _ [_, _, _, _, _, _, _, _, _] _ _
  refine DSs.ret1 (DE.bin (DE.bin (DE.bin (DE.bin DE.int (DE.pe v8 rfl) (oa_mul (mulW (show B 3 (4 : Int) by decide) bf (by decide)))) (DE.pe v8 rfl) (oa_mul (mulW (B.mul (show B 3 (4 : Int) by decide) bf) bf (by decide)))) (DE.bin (DE.ixL (DE.lst (DA.cons (DE.neg DE.int) (DA.cons (DE.neg DE.int) (DA.cons DE.int (DA.cons DE.int DA.nil))))) (DE.pe v1 rfl) rfl (mo_at k4)) (DE.pe v8 rfl) (oa_mul (mulW (show B 3 (2 * ((k : Nat) : Int) - 3) from B.rng (a := 3) (by omega) (by omega) (by decide)) bf (by decide)))) oa_add) (DE.call cd F_law_by (by decide) g_law_by (DA.cons (DE.pe v7 rfl) (DA.cons (DE.pe v6 rfl) DA.nil)) ⟨(plc e a c), hdR h t (((k : Nat) : Int) + 1), _, rfl, .inl rfl, rfl, rfl⟩) oa_add) ?_
  exact fin_same hQ rfl
theorem sc_law_stretch : FnScope ["spiral", "heading", "across", "far", "first", "last", "many", "some", "step", "least", "one", "other", "two", "three"] ["spiral", "heading", "across", "far", "first", "last"] (defScope s_law_stretch) := ⟨rfl, rfl, rfl, by decide +kernel, rfl, by decide +kernel, by decide +kernel⟩
def A_law_stretch : ASp := fun args μ Q _ => ∃ (s : Int) (h : Fin 4) (t : Bool) (e : Bool) (c f l : Int) (k : Nat), args = [spP s h t, .str (heS e), .int c, .int ((k : Nat) : Int), .int f, .int l] ∧ k < 4 ∧ f ≤ l ∧ (-1000000000 ≤ f ∧ l ≤ 1000000000 ∧ -1000000000 ≤ c ∧ c ≤ 1000000000) ∧ B 70 s ∧ Q (.int (strS s h t e c k f l)) μ
theorem ok_law_stretch (T : Txt K w mg CW) : FnA P w K mg base 3 "_law_stretch" A_law_stretch := by
  refine T.d_law_stretch.ok sc_law_stretch (by rintro _ _ _ _ ⟨_, _, _, _, _, _, _, _, rfl, _⟩; rfl) ?_
  rintro X _ μ Q E cx ⟨s, h, t, e, c, f, l, k, rfl, k4, hfl, ⟨b1, b2, b3, b4⟩, bs, hQ⟩
  have cd := cx.toCxD
  have v0 : ∀ {pos : Pos}, PE X (.Name "spiral" pos) (tVar 0) := cx.var 0 rfl (by decide +kernel)
  have v1 : ∀ {pos : Pos}, PE X (.Name "heading" pos) (tVar 1) := cx.var 1 rfl (by decide +kernel)
  have v2 : ∀ {pos : Pos}, PE X (.Name "across" pos) (tVar 2) := cx.var 2 rfl (by decide +kernel)
  have v3 : ∀ {pos : Pos}, PE X (.Name "far" pos) (tVar 3) := cx.var 3 rfl (by decide +kernel)
  have v4 : ∀ {pos : Pos}, PE X (.Name "first" pos) (tVar 4) := cx.var 4 rfl (by decide +kernel)
  have v5 : ∀ {pos : Pos}, PE X (.Name "last" pos) (tVar 5) := cx.var 5 rfl (by decide +kernel)
  have v6 : ∀ {pos : Pos}, PE X (.Name "many" pos) (tVar 6) := cx.var 6 rfl (by decide +kernel)
  have v7 : ∀ {pos : Pos}, PE X (.Name "some" pos) (tVar 7) := cx.var 7 rfl (by decide +kernel)
  have v8 : ∀ {pos : Pos}, PE X (.Name "step" pos) (tVar 8) := cx.var 8 rfl (by decide +kernel)
  have v9 : ∀ {pos : Pos}, PE X (.Name "least" pos) (tVar 9) := cx.var 9 rfl (by decide +kernel)
  have v10 : ∀ {pos : Pos}, PE X (.Name "one" pos) (tVar 10) := cx.var 10 rfl (by decide +kernel)
  have v11 : ∀ {pos : Pos}, PE X (.Name "other" pos) (tVar 11) := cx.var 11 rfl (by decide +kernel)
  have v12 : ∀ {pos : Pos}, PE X (.Name "two" pos) (tVar 12) := cx.var 12 rfl (by decide +kernel)
  have v13 : ∀ {pos : Pos}, PE X (.Name "three" pos) (tVar 13) := cx.var 13 rfl (by decide +kernel)
  have g_range : (defScope s_law_stretch).names.lookup ("range" : Str) = some .globalImplicit := by decide +kernel
  have g_law_side_at : (defScope s_law_stretch).names.lookup ("_law_side_at" : Str) = some .globalImplicit := by decide +kernel
  have F_law_side_at := ok_law_side_at (P := P) (w := w) (base := base) T
  have bv0 : B 70 (sdF h t k (plc e f c)) := sd_B k4 (by omega) (by omega)
  have bv1 : B 70 (sdF h t k (plc e (f + 1) c)) := sd_B k4 (by omega) (by omega)
  have bv2 : B 70 (sdF h t k (plc e (f + 2) c)) := sd_B k4 (by omega) (by omega)
  have bm : B 32 (l - f + 1) := B.rng (a := 2000000001) (by omega) (by omega) (by decide)
  show DSs X _ [_, _, _, _, _, _, _, _, _, _, _, _, _, _] _ _
  refine DSs.ifc (kb := false) (DT.cast (DT.cmp (DE.pe v4 rfl) (DE.pe v5 rfl) oa_gt) (decide_eq_false (by omega))) (fun hc => by cases hc) (fun _ => DSs.nil ?_)
  show DSs X _ [_, _, _, _, _, _, _, _, _, _, _, _, _, _] _ _
  refine CxF.setP (q := .int (l - f + 1)) cx 6 rfl (by decide +kernel) (DE.bin (DE.bin (DE.pe v5 rfl) (DE.pe v4 rfl) oa_sub) DE.int oa_add) ?_
  show DSs X _ [_, _, _, _, _, _, _, _, _, _, _, _, _, _] _ _
  refine CxF.setP (q := .obj μ.length) cx 7 rfl (by decide +kernel) (DE.lstO DA.nil) ?_
  show DSs X _ [_, _, _, _, _, _, _, _, _, _, _, _, _, _] _ _
  refine DSs.cons (DS.for cx.po cx.calm (DI.range1 (cx.gl _ g_range) (by rw [cx.emg]; exact T.z_range) DE.int (by decide) (by decide)) (fun i ρ' μ' => (∃ a8 : Option PV, ρ' = [some (spP s h t), some (.str (heS e)), some (.int c), some (.int ((k : Nat) : Int)), some (.int f), some (.int l), some (.int (l - f + 1)), some (.obj μ.length), a8, none, none, none, none, none]) ∧ μ' = μ ++ [.lst (sdL h t e c k f i)]) ⟨⟨_, rfl⟩, rfl⟩ (fun _ _ _ _ _ => trivial) ?_ ?_)
  · rintro i x ρ' m' hi ⟨⟨a8, rfl⟩, hm'⟩
    subst m'
    have i3 : i < 3 := by simpa [rngL_length] using (List.getElem?_eq_some_iff.mp hi).1
    have hx := rngL_get hi
    rw [Int.zero_add] at hx
    subst hx
    refine ⟨_, DG.name (cx.tgt 8 rfl (by decide +kernel)), ?_⟩
    show DSs X _ [_, _, _, _, _, _, _, _, _, _, _, _, _, _] _ _
    refine DSs.cons (DS.expr (DE.append (p := .int (sdF h t k (plc e (f + ((i : Nat) : Int)) c))) (DE.pe v7 rfl) (DE.call cd F_law_side_at (by decide) g_law_side_at (DA.cons (DE.pe v0 rfl) (DA.cons (DE.pe v3 rfl) (DA.cons (DE.pe v1 rfl) (DA.cons (DE.pe v2 rfl) (DA.cons (DE.bin (DE.pe v4 rfl) (DE.pe v8 rfl) oa_add) (DA.nil)))))) ⟨s, h, t, k, e, c, _, rfl, k4, ⟨by omega, by omega⟩, ⟨by omega, by omega⟩, rfl, rfl⟩) (asL_obj app_last) app_last (by rw [sdL_len, sizeLine_eq]; omega)) ?_)
    rw [app_setl, ← sdL_up]
    exact DSs.nil ⟨⟨_, rfl⟩, rfl⟩
  rintro ρ' m' ⟨⟨a8, rfl⟩, hm'⟩
  rw [rngL_length, show Int.toNat 3 = 3 from rfl, sdL_3] at hm'
  subst m'
  have kS : (μ ++ [MO.lst [PV.int (sdF h t k (plc e f c)), .int (sdF h t k (plc e (f + 1) c)), .int (sdF h t k (plc e (f + 2) c))]])[μ.length]? = some (.lst [PV.int (sdF h t k (plc e f c)), .int (sdF h t k (plc e (f + 1) c)), .int (sdF h t k (plc e (f + 2) c))]) := app_last
  show DSs X _ [_, _, _, _, _, _, _, _, _, _, _, _, _, _] _ _
  refine CxF.setP (q := .int (s + (sdF h t k (plc e f c)))) cx 9 rfl (by decide +kernel) (DE.bin (DE.ixT (DE.pe v0 rfl) DE.int rfl) (DE.ixL (DE.pe v7 rfl) DE.int (asL_obj kS) rfl) oa_add) ?_
  show DSs X _ [_, _, _, _, _, _, _, _, _, _, _, _, _, _] _ _
  refine CxF.setP (q := .int ((sdF h t k (plc e (f + 1) c)) - (sdF h t k (plc e f c)))) cx 10 rfl (by decide +kernel) (DE.bin (DE.ixL (DE.pe v7 rfl) DE.int (asL_obj kS) rfl) (DE.ixL (DE.pe v7 rfl) DE.int (asL_obj kS) rfl) oa_sub) ?_
  show DSs X _ [_, _, _, _, _, _, _, _, _, _, _, _, _, _] _ _
  refine CxF.setP (q := .int ((sdF h t k (plc e (f + 2) c)) - 2 * (sdF h t k (plc e (f + 1) c)) + (sdF h t k (plc e f c)))) cx 11 rfl (by decide +kernel) (DE.bin (DE.bin (DE.ixL (DE.pe v7 rfl) DE.int (asL_obj kS) rfl) (DE.bin DE.int (DE.ixL (DE.pe v7 rfl) DE.int (asL_obj kS) rfl) (oa_mul (mulW (show B 2 (2 : Int) by decide) bv1 (by decide)))) oa_sub) (DE.ixL (DE.pe v7 rfl) DE.int (asL_obj kS) rfl) oa_add) ?_
  show DSs X _ [_, _, _, _, _, _, _, _, _, _, _, _, _, _] _ _
  refine CxF.setP (q := .int ((l - f + 1) * ((l - f + 1) - 1) / 2)) cx 12 rfl (by decide +kernel) (DE.bin (DE.bin (DE.pe v6 rfl) (DE.bin (DE.pe v6 rfl) DE.int oa_sub) (oa_mul (mulW bm (B.sub bm (show B 1 (1 : Int) by decide)) (by decide)))) DE.int (oa_div (divW (by decide : (0 : Int) < 2) (show B 2 (2 : Int) by decide) (by decide)))) ?_
  have bt : B 70 ((l - f + 1) * ((l - f + 1) - 1) / 2) := B.le (B.div (B.mul bm (B.sub bm (show B 1 (1 : Int) by decide)))) (by decide)
  show DSs X _ [_, _, _, _, _, _, _, _, _, _, _, _, _, _] _ _
  refine CxF.setP (q := .int (((l - f + 1) * ((l - f + 1) - 1) / 2) * ((l - f + 1) - 2) / 3)) cx 13 rfl (by decide +kernel) (DE.bin (DE.bin (DE.pe v12 rfl) (DE.bin (DE.pe v6 rfl) DE.int oa_sub) (oa_mul (mulW bt (B.sub bm (show B 2 (2 : Int) by decide)) (by decide)))) DE.int (oa_div (divW (by decide : (0 : Int) < 3) (show B 2 (3 : Int) by decide) (by decide)))) ?_
  have bh : B 110 (((l - f + 1) * ((l - f + 1) - 1) / 2) * ((l - f + 1) - 2) / 3) := B.le (B.div (B.mul bt (B.sub bm (show B 2 (2 : Int) by decide)))) (by decide)
  show DSs X _ [_, _, _, _, _, _, _, _, _, _, _, _, _, _] _ _
  refine DSs.ret1 (DE.bin (DE.bin (DE.bin (DE.pe v6 rfl) (DE.pe v9 rfl) (oa_mul (mulW bm (B.add bs bv0) (by decide)))) (DE.bin (DE.pe v10 rfl) (DE.pe v12 rfl) (oa_mul (mulW (B.sub bv1 bv0) bt (by decide)))) oa_add) (DE.bin (DE.pe v11 rfl) (DE.pe v13 rfl) (oa_mul (mulW (B.add (B.sub bv2 (B.mul (show B 2 (2 : Int) by decide) bv1)) bv0) bh (by decide)))) oa_add) ?_
  exact ⟨.int (strS s h t e c k f l), μ, by rw [str_newton hfl]; exact .drop _ _ _ Chg.refl rfl, hQ⟩
theorem sc_law_side : FnScope ["spiral", "place", "headings", "ring", "side"] ["spiral", "place"] (defScope s_law_side) := ⟨rfl, rfl, rfl, by decide +kernel, rfl, by decide +kernel, by decide +kernel⟩
def A_law_side : ASp := fun args μ Q _ => ∃ (s : Int) (h : Fin 4) (t : Bool) (p : Int × Int), args = [spP s h t, ptP p] ∧ ∀ k : Nat, SideOk h t p k → Q (.int ((k : Nat) : Int)) μ
theorem ok_law_side (T : Txt K w mg CW) : FnA P w K mg base 2 "_law_side" A_law_side := by
  refine T.d_law_side.ok sc_law_side (by rintro _ _ _ _ ⟨_, _, _, _, rfl, _⟩; rfl) ?_
  rintro X _ μ Q E cx ⟨s, h, t, p, rfl, hQ⟩
  have cd := cx.toCxD
  have v0 : ∀ {pos : Pos}, PE X (.Name "spiral" pos) (tVar 0) := cx.var 0 rfl (by decide +kernel)
  have v1 : ∀ {pos : Pos}, PE X (.Name "place" pos) (tVar 1) := cx.var 1 rfl (by decide +kernel)
  have v2 : ∀ {pos : Pos}, PE X (.Name "headings" pos) (tVar 2) := cx.var 2 rfl (by decide +kernel)
  have v3 : ∀ {pos : Pos}, PE X (.Name "ring" pos) (tVar 3) := cx.var 3 rfl (by decide +kernel)
  have v4 : ∀ {pos : Pos}, PE X (.Name "side" pos) (tVar 4) := cx.var 4 rfl (by decide +kernel)
  have g_law_headings : (defScope s_law_side).names.lookup ("_law_headings" : Str) = some .globalImplicit := by decide +kernel
  have g_max : (defScope s_law_side).names.lookup ("max" : Str) = some .globalImplicit := by decide +kernel
  have g_abs : (defScope s_law_side).names.lookup ("abs" : Str) = some .globalImplicit := by decide +kernel
  have g_range : (defScope s_law_side).names.lookup ("range" : Str) = some .globalImplicit := by decide +kernel
  have g_law_by : (defScope s_law_side).names.lookup ("_law_by" : Str) = some .globalImplicit := by decide +kernel
  have F_law_headings := ok_law_headings (P := P) (w := w) (base := base) T
  have F_law_by := ok_law_by (P := P) (w := w) (base := base) T
  show DSs X _ [_, _, _, _, _] _ _
  refine CxF.setP cx 2 rfl (by decide +kernel) (DE.call cd F_law_headings (by decide) g_law_headings (DA.cons (DE.pe v0 rfl) (DA.nil)) ⟨s, h, t, rfl, rfl, rfl⟩) ?_
  show DSs X _ [_, _, _, _, _] _ _
  refine CxF.setP (q := .int (rgP p)) cx 3 rfl (by decide +kernel) (DE.callB cd g_max T.z_max boot_max (DA.cons (DE.callB cd g_abs T.z_abs boot_abs (DA.cons (DE.ixT (DE.pe v1 rfl) DE.int rfl) DA.nil) ca_abs) (DA.cons (DE.callB cd g_abs T.z_abs boot_abs (DA.cons (DE.ixT (DE.pe v1 rfl) DE.int rfl) DA.nil) ca_abs) DA.nil)) (ca_max2 cx.calm)) ?_
  show DSs X _ [_, _, _, _, _] _ _
  refine DSs.cons (DS.for cx.po cx.calm (DI.range1 (cx.gl _ g_range) (by rw [cx.emg]; exact T.z_range) DE.int (by decide) (by decide)) (fun i ρ' μ' => (∃ a0 : Option PV, ρ' = [some (spP s h t), some (ptP p), some (.str (hsS h t)), some (.int (rgP p)), a0]) ∧ μ' = μ ∧ ∀ j : Nat, j < i → ¬ Fit h t j p) ⟨⟨_, rfl⟩, rfl, nofun⟩ (fun _ _ _ _ _ => trivial) ?_ ?_)
  · rintro i x ρ' m' hi ⟨⟨a0, rfl⟩, hm', hno⟩
    subst m'
    have i4 : i < 4 := by simpa [rngL_length] using (List.getElem?_eq_some_iff.mp hi).1
    have hx := rngL_get hi
    rw [Int.zero_add] at hx
    subst hx
    refine ⟨_, DG.name (cx.tgt 4 rfl (by decide +kernel)), ?_⟩
    show DSs X _ [_, _, _, _, _] _ _
    refine DSs.ifc (DW.t (DW.and (DT.cmp (DE.call cd F_law_by (by decide) g_law_by (DA.cons (DE.pe v1 rfl) (DA.cons (DE.cast (q := .str (hdS (hdR h t ((i : Nat) : Int)))) (DE.ixS (DE.pe v2 rfl) (DE.pe v4 rfl) (hs_at4 h t i4) (Nat.le_trans (hs_len h t) (le_line (by decide)))) rfl) DA.nil)) ⟨p, hdR h t ((i : Nat) : Int), _, rfl, .inl rfl, rfl, rfl⟩) (DE.pe v3 rfl) oa_eq) (fun _ => DW.and1 (DT.cmp (DE.call cd F_law_by (by decide) g_law_by (DA.cons (DE.pe v1 rfl) (DA.cons (DE.cast (q := .str (hdS (hdR h t (((i : Nat) : Int) + 1)))) (DE.ixS (DE.pe v2 rfl) (DE.bin (DE.bin (DE.pe v4 rfl) DE.int oa_add) DE.int (oa_mod (by decide : (0 : Int) < 4))) (hs_at h t (((i : Nat) : Int) + 1)) (Nat.le_trans (hs_len h t) (le_line (by decide)))) rfl) DA.nil)) ⟨p, hdR h t (((i : Nat) : Int) + 1), _, rfl, .inl rfl, rfl, rfl⟩) (DE.bin DE.int (DE.pe v3 rfl) oa_sub) oa_gt)))) (fun hc => ?_) (fun hc => ?_)
    · rw [Bool.and_eq_true] at hc
      have c1 := of_decide_eq_true hc.1
      have c2 := of_decide_eq_true hc.2
      refine DSs.ret1 (DE.pe v4 rfl) ?_
      exact fin_same (hQ i ⟨i4, .inl ⟨c1, c2⟩⟩) rfl
    · refine DSs.nil (DSs.nil ⟨⟨_, rfl⟩, rfl, fun j hj => ?_⟩)
      by_cases e : j = i
      · subst e
        rintro ⟨c1, c2⟩
        rw [decide_eq_true c1, decide_eq_true c2] at hc
        cases hc
      · exact hno j (by omega)
  · rintro ρ' m' ⟨⟨a0, rfl⟩, hm', hno⟩
    subst m'
    show DSs X _ [_, _, _, _, _] _ _
    refine DSs.ret1 DE.int ?_
    refine fin_same (hQ 0 ⟨by decide, .inr ⟨?_, rfl⟩⟩) rfl
    by_cases hz : rgP p = 0
    · exact hz
    · exfalso
      have h0 : 0 ≤ rgP p := by unfold rgP; omega
      obtain ⟨j, j4, c⟩ := by_some h t (p := p) (by omega)
      exact hno j (by simpa [rngL_length] using j4) c
def lessF : PV → Option PV
  | .int z => some (.int (z - 1))
  | _ => none
theorem lessF_all : ∀ ms : List Int, (ms.map PV.int).filterMap lessF = (ms.map (fun c => c - 1)).map PV.int
  | [] => rfl
  | m :: ms => by
    rw [List.map_cons, List.filterMap_cons_some (show lessF (.int m) = some (.int (m - 1)) from rfl), lessF_all ms]
    rfl
theorem sc_law_row : FnScope ["spiral", "heading", "across", "first", "last", "cuts", "cut", "one", "found", "begin", "end", "place"] ["spiral", "heading", "across", "first", "last"] (defScope s_law_row) := ⟨rfl, rfl, rfl, by decide +kernel, rfl, by decide +kernel, by decide +kernel⟩
def A_law_row : ASp := fun args μ Q _ => ∃ (s : Int) (h : Fin 4) (t : Bool) (e : Bool) (c f l : Int), args = [spP s h t, .str (heS e), .int c, .int f, .int l] ∧ f ≤ l ∧ (-1000000000 ≤ f ∧ l ≤ 1000000000 ∧ -1000000000 ≤ c ∧ c ≤ 1000000000) ∧ B 70 s ∧ Q (.int (rowR s h t e c f l)) μ
theorem ok_law_row (T : Txt K w mg CW) : FnA P w K mg base 4 "_law_row" A_law_row := by
  refine T.d_law_row.ok sc_law_row (by rintro _ _ _ _ ⟨_, _, _, _, _, _, _, rfl, _⟩; rfl) ?_
  rintro X _ μ Q E cx ⟨s, h, t, e, c, f, l, rfl, hfl, ⟨b1, b2, b3, b4⟩, bs, hQ⟩
  have cd := cx.toCxD
  have v0 : ∀ {pos : Pos}, PE X (.Name "spiral" pos) (tVar 0) := cx.var 0 rfl (by decide +kernel)
  have v1 : ∀ {pos : Pos}, PE X (.Name "heading" pos) (tVar 1) := cx.var 1 rfl (by decide +kernel)
  have v2 : ∀ {pos : Pos}, PE X (.Name "across" pos) (tVar 2) := cx.var 2 rfl (by decide +kernel)
  have v3 : ∀ {pos : Pos}, PE X (.Name "first" pos) (tVar 3) := cx.var 3 rfl (by decide +kernel)
  have v4 : ∀ {pos : Pos}, PE X (.Name "last" pos) (tVar 4) := cx.var 4 rfl (by decide +kernel)
  have v5 : ∀ {pos : Pos}, PE X (.Name "cuts" pos) (tVar 5) := cx.var 5 rfl (by decide +kernel)
  have v6 : ∀ {pos : Pos}, PE X (.Name "cut" pos) (tVar 6) := cx.var 6 rfl (by decide +kernel)
  have v8 : ∀ {pos : Pos}, PE X (.Name "found" pos) (tVar 8) := cx.var 8 rfl (by decide +kernel)
  have v9 : ∀ {pos : Pos}, PE X (.Name "begin" pos) (tVar 9) := cx.var 9 rfl (by decide +kernel)
  have v10 : ∀ {pos : Pos}, PE X (.Name "end" pos) (tVar 10) := cx.var 10 rfl (by decide +kernel)
  have v11 : ∀ {pos : Pos}, PE X (.Name "place" pos) (tVar 11) := cx.var 11 rfl (by decide +kernel)
  have g_abs : (defScope s_law_row).names.lookup ("abs" : Str) = some .globalImplicit := by decide +kernel
  have g_sorted : (defScope s_law_row).names.lookup ("sorted" : Str) = some .globalImplicit := by decide +kernel
  have g_set : (defScope s_law_row).names.lookup ("set" : Str) = some .globalImplicit := by decide +kernel
  have g_zip : (defScope s_law_row).names.lookup ("zip" : Str) = some .globalImplicit := by decide +kernel
  have g_law_place : (defScope s_law_row).names.lookup ("_law_place" : Str) = some .globalImplicit := by decide +kernel
  have g_law_stretch : (defScope s_law_row).names.lookup ("_law_stretch" : Str) = some .globalImplicit := by decide +kernel
  have g_law_side : (defScope s_law_row).names.lookup ("_law_side" : Str) = some .globalImplicit := by decide +kernel
  have F_law_place := ok_law_place (P := P) (w := w) (base := base) T
  have F_law_stretch := ok_law_stretch (P := P) (w := w) (base := base) T
  have F_law_side := ok_law_side (P := P) (w := w) (base := base) T
  have lC := cuts_len c f l
  show DSs X _ [_, _, _, _, _, _, _, _, _, _, _, _] _ _
  refine CxF.setP (q := .obj μ.length) cx 5 rfl (by decide +kernel) (DE.lstO DA.nil) ?_
  show DSs X _ [_, _, _, _, _, _, _, _, _, _, _, _] _ _
  refine DSs.cons (DS.for cx.po cx.calm (DI.tuple (xs := [PV.int (0 - ((c.natAbs : Nat) : Int)), .int ((c.natAbs : Nat) : Int)]) (DE.tup (DA.cons (DE.bin DE.int (DE.callB cd g_abs T.z_abs boot_abs (DA.cons (DE.pe v2 rfl) DA.nil) ca_abs) oa_sub) (DA.cons (DE.callB cd g_abs T.z_abs boot_abs (DA.cons (DE.pe v2 rfl) DA.nil) ca_abs) DA.nil)))) (fun i ρ' μ' => (∃ a6 : Option PV, ρ' = [some (spP s h t), some (.str (heS e)), some (.int c), some (.int f), some (.int l), some (.obj μ.length), a6, none, none, none, none, none]) ∧ μ' = μ ++ [.lst ((([0 - ((c.natAbs : Nat) : Int), ((c.natAbs : Nat) : Int)].take i).flatMap (cutP2 f l)).map PV.int)]) ⟨⟨_, rfl⟩, rfl⟩ (fun _ _ _ _ _ => trivial) ?_ ?_)
  · rintro i x ρ' m' hi ⟨⟨a6, rfl⟩, hm'⟩
    subst m'
    have hi2 : ([PV.int (0 - ((c.natAbs : Nat) : Int)), .int ((c.natAbs : Nat) : Int)])[i]? = some x := hi
    obtain ⟨z, rfl, hz⟩ : ∃ z : Int, x = .int z ∧ [0 - ((c.natAbs : Nat) : Int), ((c.natAbs : Nat) : Int)][i]? = some z := by
      rcases i with _ | _ | i
      · exact ⟨_, (Option.some.inj hi2).symm, rfl⟩
      · exact ⟨_, (Option.some.inj hi2).symm, rfl⟩
      · simp at hi2
    have i2 : i < 2 := (List.getElem?_eq_some_iff.mp hi2).1
    have ll : (([0 - ((c.natAbs : Nat) : Int), ((c.natAbs : Nat) : Int)].take i).flatMap (cutP2 f l)).length ≤ 4 := by
      have : i = 0 ∨ i = 1 := by omega
      rcases this with rfl | rfl
      · exact Nat.zero_le _
      · have := cutP2_len f l (0 - ((c.natAbs : Nat) : Int))
        show (cutP2 f l (0 - ((c.natAbs : Nat) : Int)) ++ []).length ≤ 4
        rw [List.append_nil]
        omega
    refine ⟨_, DG.name (cx.tgt 6 rfl (by decide +kernel)), ?_⟩
    show DSs X _ [_, _, _, _, _, _, _, _, _, _, _, _] _ _
    refine DSs.cons (DS.expr (DE.extend (zs := (cutP2 f l z).map PV.int) (DE.pe v5 rfl) (DE.cast (q := .lst ((cutP2 f l z).map PV.int)) (DE.comp cx (DI.tuple (xs := [PV.int z, .int (z + 1)]) (DE.tup (DA.cons (DE.pe v6 rfl) (DA.cons (DE.bin (DE.pe v6 rfl) DE.int oa_add) DA.nil)))) (by decide +kernel) (own := [("one", 7)]) (Tgt.name cx.nd 7 rfl (by decide +kernel)) (by decide) (inF2 f l) trivial (le_line (Nat.le_of_ble_eq_true rfl)) ?_) (congrArg PV.lst (inF2_all f l z))) (asL_obj app_last) app_last rfl (by have := cutP2_len f l z; rw [List.length_map, List.length_map, sizeLine_eq]; omega)) ?_)
    · intro q hq
      have hq2 : ∃ u : Int, q = .int u := by
        simp only [List.mem_cons, List.not_mem_nil, or_false] at hq
        rcases hq with rfl | rfl <;> exact ⟨_, rfl⟩
      obtain ⟨u, rfl⟩ := hq2
      refine ⟨_, rfl, ?_⟩
      cases hc : (decide (f < u) && decide (u ≤ l)) with
      | true => exact .inr ⟨_, if_pos hc, fun X' cx' => WTs.one (WT.of (DT.cast (DT.chain (DE.pe (cx'.var (x := "first") 3 rfl (by decide +kernel)) rfl) (DE.pe (cx'.var (x := "one") 7 rfl (by decide +kernel)) rfl) oa_lt (DE.pe (cx'.var (x := "last") 4 rfl (by decide +kernel)) rfl) oa_le) hc) ⟨rfl, rfl⟩), fun X' cx' => DE.pe (cx'.var (x := "one") 7 rfl (by decide +kernel)) rfl⟩
      | false => exact .inl ⟨if_neg (by rw [hc]; decide), fun X' cx' => WTs.one (WT.of (DT.cast (DT.chain (DE.pe (cx'.var (x := "first") 3 rfl (by decide +kernel)) rfl) (DE.pe (cx'.var (x := "one") 7 rfl (by decide +kernel)) rfl) oa_lt (DE.pe (cx'.var (x := "last") 4 rfl (by decide +kernel)) rfl) oa_le) hc) ⟨rfl, rfl⟩)⟩
    · rw [app_setl, ← List.map_append, ← flat_up hz]
      exact DSs.nil ⟨⟨_, rfl⟩, rfl⟩
  rintro ρ' m' ⟨⟨a6, rfl⟩, hm'⟩
  have e2 : ([0 - ((c.natAbs : Nat) : Int), ((c.natAbs : Nat) : Int)].take ([PV.int (0 - ((c.natAbs : Nat) : Int)), .int ((c.natAbs : Nat) : Int)] : List PV).length).flatMap (cutP2 f l) = cutP2 f l (0 - ((c.natAbs : Nat) : Int)) ++ cutP2 f l ((c.natAbs : Nat) : Int) := by
    show cutP2 f l (0 - ((c.natAbs : Nat) : Int)) ++ (cutP2 f l ((c.natAbs : Nat) : Int) ++ []) = _
    rw [List.append_nil]
  rw [e2] at hm'
  subst m'
  show DSs X _ [_, _, _, _, _, _, _, _, _, _, _, _] _ _
  refine CxF.setP (q := .lst ((cutsF c f l).map PV.int)) cx 5 rfl (by decide +kernel) (DE.sortSet (ns := cutP2 f l (0 - ((c.natAbs : Nat) : Int)) ++ cutP2 f l ((c.natAbs : Nat) : Int)) cd cx.calm g_sorted T.z_sorted g_set T.z_set (DE.pe v5 rfl) (asL_obj app_last) (by have h1 := cutP2_len f l (0 - ((c.natAbs : Nat) : Int)); have h2 := cutP2_len f l ((c.natAbs : Nat) : Int); rw [List.length_append]; omega) (cuts_up c f l) (fun z => cut2_mem)) ?_
  show DSs X _ [_, _, _, _, _, _, _, _, _, _, _, _] _ _
  refine CxF.setP (q := .int 0) cx 8 rfl (by decide +kernel) DE.int ?_
  show DSs X _ [_, _, _, _, _, _, _, _, _, _, _, _] _ _
  refine DSs.cons (DS.for cx.po cx.calm (DI.zip cd g_zip T.z_zip (DA.cons (DE.cast (q := .lst ((f :: cutsF c f l).map PV.int)) (DE.bin (DE.lst (DA.cons (DE.pe v3 rfl) DA.nil)) (DE.pe v5 rfl) (oa_cat rfl rfl (by rw [List.length_map, sizeLine_eq]; show 1 + _ ≤ _; omega))) rfl) (DA.cons (DE.cast (q := .lst (((cutsF c f l).map (fun c => c - 1) ++ [l]).map PV.int)) (DE.bin (DE.cast (q := .lst (((cutsF c f l).map (fun c => c - 1)).map PV.int)) (DE.comp cx (DI.list (p := .lst ((cutsF c f l).map PV.int)) (xs := ((cutsF c f l).map PV.int)) (DE.pe v5 rfl) rfl) (by decide +kernel) (own := [("cut", 6)]) (Tgt.name cx.nd 6 rfl (by decide +kernel)) (by decide) lessF rfl (by rw [List.length_map, sizeLine_eq]; omega) ?_) (congrArg PV.lst (lessF_all _))) (DE.lst (DA.cons (DE.pe v4 rfl) DA.nil)) (oa_cat rfl rfl (by rw [List.length_map, List.length_map, sizeLine_eq]; show _ + 1 ≤ _; omega))) (congrArg PV.lst (by rw [List.map_append]; rfl))) DA.nil)) rfl rfl) (fun i ρ' μ' => (∃ (z8 : Int) (a6 a9 a10 a11 : Option PV), ρ' = [some (spP s h t), some (.str (heS e)), some (.int c), some (.int f), some (.int l), some (.lst ((cutsF c f l).map PV.int)), a6, none, some (.int z8), a9, a10, a11] ∧ z8 = (((pcR f (cutsF c f l) l).take i).map fun q => rowR s h t e c q.1 q.2).sum) ∧ μ' = μ ++ [.lst ((cutP2 f l (0 - ((c.natAbs : Nat) : Int)) ++ cutP2 f l ((c.natAbs : Nat) : Int)).map PV.int)]) ⟨⟨0, _, _, _, _, rfl, rfl⟩, rfl⟩ (fun _ _ _ _ _ => ⟨rfl, rfl⟩) ?_ ?_)
  · intro q hq
    obtain ⟨u, hu, rfl⟩ := List.mem_map.mp hq
    exact ⟨_, rfl, .inr ⟨.int (u - 1), rfl, fun X' cx' => WTs.nil ⟨rfl, rfl⟩, fun X' cx' => DE.bin (DE.pe (cx'.var (x := "cut") 6 rfl (by decide +kernel)) rfl) DE.int oa_sub⟩⟩
  · rintro i x ρ' m' hi ⟨⟨z8, a6, a9, a10, a11, rfl, hz8⟩, hm'⟩
    subst m'
    rw [zip_pc] at hi
    have hi2 : ((pcR f (cutsF c f l) l).map ptP)[i]? = some x := hi
    rw [List.getElem?_map] at hi2
    obtain ⟨q, hq, rfl⟩ := Option.map_eq_some_iff.mp hi2
    have hqm := List.mem_of_getElem? hq
    obtain ⟨q1, q2, q3, _⟩ := pcR_in hfl (cuts_up c f l) (fun z hz => (cuts_mem.mp hz).2) hqm
    refine ⟨_, DG.tup cx.calm (DGs.cons (DG.name (cx.tgt 9 rfl (by decide +kernel))) (DGs.cons (DG.name (cx.tgt 10 rfl (by decide +kernel))) DGs.nil)), ?_⟩
    show DSs X _ [_, _, _, _, _, _, _, _, _, _, _, _] _ _
    refine CxF.setP (q := ptP (plc e q.1 c)) cx 11 rfl (by decide +kernel) (DE.call cd F_law_place (by decide) g_law_place (DA.cons (DE.pe v1 rfl) (DA.cons (DE.pe v9 rfl) (DA.cons (DE.pe v2 rfl) (DA.nil)))) ⟨e, _, _, rfl, rfl, rfl⟩) ?_
    show DSs X _ [_, _, _, _, _, _, _, _, _, _, _, _] _ _
    refine cx.setGW 8 rfl (by decide +kernel) ?_
    refine WE.bin ?_
    refine WE.of (DE.pe v8 rfl) ?_
    refine WE.call cd F_law_stretch (by decide) g_law_stretch ?_
    refine WA.cons ?_
    refine WE.of (DE.pe v0 rfl) ?_
    refine WA.cons ?_
    refine WE.of (DE.pe v1 rfl) ?_
    refine WA.cons ?_
    refine WE.of (DE.pe v2 rfl) ?_
    refine WA.cons ?_
    refine WE.call cd F_law_side (by decide) g_law_side ?_
    refine WA.of (DA.cons (DE.pe v0 rfl) (DA.cons (DE.pe v11 rfl) DA.nil)) ?_
    refine ⟨s, h, t, _, rfl, ?_⟩
    intro k hk
    refine WA.of (DA.cons (DE.pe v9 rfl) (DA.cons (DE.pe v10 rfl) DA.nil)) ?_
    refine ⟨s, h, t, e, c, q.1, q.2, k, rfl, hk.1, q2, ⟨by omega, by omega, b3, b4⟩, bs, ?_⟩
    refine ⟨_, oa_add, ?_⟩
    refine DSs.nil ⟨⟨_, _, _, _, _, rfl, ?_⟩, rfl⟩
    rw [take_sum hq, ← hz8, row_piece hfl hqm hk]
  rintro ρ' m' ⟨⟨z8, a6, a9, a10, a11, rfl, hz8⟩, hm'⟩
  subst m'
  rw [zip_pc, List.length_map, show ((f :: cutsF c f l).zip ((cutsF c f l).map (fun c => c - 1) ++ [l])) = (pcR f (cutsF c f l) l) from rfl, List.take_length, row_sum] at hz8
  show DSs X _ [_, _, _, _, _, _, _, _, _, _, _, _] _ _
  refine DSs.ret1 (DE.pe v8 rfl) ?_
  exact ⟨.int (rowR s h t e c f l), μ, by rw [← hz8]; exact .drop _ _ _ Chg.refl rfl, hQ⟩
theorem sc_law_thin : FnScope ["seed", "spiral", "box", "many", "flat", "due", "across"] ["seed", "spiral"] (defScope s_law_thin) := ⟨rfl, rfl, rfl, by decide +kernel, rfl, by decide +kernel, by decide +kernel⟩
def A_law_thin : ASp := fun args μ Q _ => ∃ (kd : Nat) (d : DeckC) (n0 s : Int) (h : Fin 4) (t : Bool), args = [.obj kd, spP s h t] ∧ μ[kd]? = some (seMO d) ∧ ScOk d n0 ∧ n0 ≤ 500000000 ∧ B 70 s ∧ ∀ d' : DeckC, ScOk d' (n0 + 60) → Q (.bl true) (μ.set kd (seMO d'))
theorem ok_law_thin (T : Txt K w mg CW) : FnA P w K mg base 5 "_law_thin" A_law_thin := by
  refine T.d_law_thin.ok sc_law_thin (by rintro _ _ _ _ ⟨_, _, _, _, _, _, rfl, _⟩; rfl) ?_
  rintro X _ μ Q E cx ⟨kd, d, n0, s, h, t, rfl, hD, hd, hn, bs, hQ⟩
  have cd := cx.toCxD
  have v0 : ∀ {pos : Pos}, PE X (.Name "seed" pos) (tVar 0) := cx.var 0 rfl (by decide +kernel)
  have v1 : ∀ {pos : Pos}, PE X (.Name "spiral" pos) (tVar 1) := cx.var 1 rfl (by decide +kernel)
  have v2 : ∀ {pos : Pos}, PE X (.Name "box" pos) (tVar 2) := cx.var 2 rfl (by decide +kernel)
  have v3 : ∀ {pos : Pos}, PE X (.Name "many" pos) (tVar 3) := cx.var 3 rfl (by decide +kernel)
  have v4 : ∀ {pos : Pos}, PE X (.Name "flat" pos) (tVar 4) := cx.var 4 rfl (by decide +kernel)
  have v5 : ∀ {pos : Pos}, PE X (.Name "due" pos) (tVar 5) := cx.var 5 rfl (by decide +kernel)
  have v6 : ∀ {pos : Pos}, PE X (.Name "across" pos) (tVar 6) := cx.var 6 rfl (by decide +kernel)
  have g_list : (defScope s_law_thin).names.lookup ("list" : Str) = some .globalImplicit := by decide +kernel
  have g_law_box : (defScope s_law_thin).names.lookup ("_law_box" : Str) = some .globalImplicit := by decide +kernel
  have g_law_draw : (defScope s_law_thin).names.lookup ("_law_draw" : Str) = some .globalImplicit := by decide +kernel
  have g_law_cut : (defScope s_law_thin).names.lookup ("_law_cut" : Str) = some .globalImplicit := by decide +kernel
  have g_range : (defScope s_law_thin).names.lookup ("range" : Str) = some .globalImplicit := by decide +kernel
  have g_law_row : (defScope s_law_thin).names.lookup ("_law_row" : Str) = some .globalImplicit := by decide +kernel
  have g_box_sum : (defScope s_law_thin).names.lookup ("box_sum" : Str) = some .globalImplicit := by decide +kernel
  have g_tuple : (defScope s_law_thin).names.lookup ("tuple" : Str) = some .globalImplicit := by decide +kernel
  have F_law_box := ok_law_box (P := P) (w := w) (base := base) T
  have F_law_draw := ok_law_draw (P := P) (w := w) (base := base) T
  have F_law_cut := ok_law_cut (P := P) (w := w) (base := base) T
  have F_law_row := ok_law_row (P := P) (w := w) (base := base) T
  have F_box_sum := ok_box_sum (P := P) (w := w) (base := base) T
  show DSs X _ [_, _, _, _, _, _, _] _ _
  refine cx.setGW 2 rfl (by decide +kernel) ?_
  refine WE.listTO cd g_list T.z_list ?_
  refine WE.call cd F_law_box (by decide) g_law_box ?_
  refine WA.of (DA.cons (DE.pe v0 rfl) DA.nil) ?_
  refine ⟨kd, d, _, rfl, hD, hd, by omega, ?_⟩
  intro b d1 hb hs ok1
  refine ⟨_, rfl, ?_⟩
  rw [List.length_set]
  obtain ⟨l0, lo, r0, hi⟩ := b
  obtain ⟨o1, o2⟩ := hb
  obtain ⟨s1, s2, s3, s4⟩ := hs
  dsimp only at o1 o2 s1 s2 s3 s4
  have h1 := mset (m' := seMO d1) hD
  have h1' : (μ.set kd (seMO d1) ++ [MO.lst [PV.int l0, .int lo, .int r0, .int hi]])[kd]? = some (seMO d1) := get_app h1
  show DSs X _ [_, _, _, _, _, _, _] (μ.set kd (seMO d1) ++ [MO.lst [PV.int l0, .int lo, .int r0, .int hi]]) _
  refine cx.setGW 3 rfl (by decide +kernel) ?_
  refine WE.call cd F_law_draw (by decide) g_law_draw ?_
  refine WA.of (DA.cons (DE.pe v0 rfl) (DA.cons (DE.int) DA.nil)) ?_
  refine ⟨kd, d1, _, _, rfl, h1', ok1, by omega, by decide, (show B 7000 (3 : Int) by decide +kernel), ?_⟩
  intro r2 d2 p2 q2 ok2
  rw [set_app h1, List.set_set]
  have h2 := mset (m' := seMO d2) hD
  have h2' : (μ.set kd (seMO d2) ++ [MO.lst [PV.int l0, .int lo, .int r0, .int hi]])[kd]? = some (seMO d2) := get_app h2
  show DSs X _ [_, _, _, _, _, _, _] _ _
  refine cx.setGW 4 rfl (by decide +kernel) ?_
  refine WE.call cd F_law_draw (by decide) g_law_draw ?_
  refine WA.of (DA.cons (DE.pe v0 rfl) (DA.cons (DE.int) DA.nil)) ?_
  refine ⟨kd, d2, _, _, rfl, h2', ok2, by omega, by decide, (show B 7000 (2 : Int) by decide +kernel), ?_⟩
  intro r3 d3 p3 q3 ok3
  rw [set_app h2, List.set_set]
  have kB : (μ.set kd (seMO d3) ++ [MO.lst [PV.int l0, .int lo, .int r0, .int hi]])[μ.length]? = some (.lst [PV.int l0, .int lo, .int r0, .int hi]) := app_lastS
  show DSs X _ [_, _, _, _, _, _, _] _ _
  have hr : r3 = 0 ∨ r3 = 1 := by omega
  rcases hr with rfl | rfl
  · have c1 : -1000000000 ≤ lo ∧ lo ≤ 1000000000 ∧ l0 ≤ r0 ∧ -1000000000 ≤ l0 ∧ r0 ≤ 1000000000 := by omega
    obtain ⟨c2, c3, c4, c5, c6⟩ := c1
    have cin := cut_in (lo + r2)
    have cle : lo ≤ (cutF (lo + r2)) := by unfold cutF; omega
    have cge : (cutF (lo + r2)) ≤ lo + 3 := by unfold cutF; omega
    refine DSs.cons (DS.setI (j := 3) (p := .int (cutF (lo + r2))) (DE.call cd F_law_cut (by decide) g_law_cut (DA.cons (DE.bin (DE.ixL (DE.pe v2 rfl) (DE.bin DE.int (DE.pe v4 rfl) oa_sub) (asL_obj kB) rfl) (DE.pe v3 rfl) oa_add) DA.nil) ⟨_, rfl, rfl, rfl⟩) (DE.pe v2 rfl) (DE.bin DE.int (DE.pe v4 rfl) oa_sub) kB rfl ?_)
    have em : (μ.set kd (seMO d3) ++ [MO.lst [PV.int l0, .int lo, .int r0, .int hi]]).set μ.length (.lst [PV.int l0, .int lo, .int r0, .int (cutF (lo + r2))]) = (μ.set kd (seMO d3) ++ [MO.lst [PV.int l0, .int lo, .int r0, .int (cutF (lo + r2))]]) := app_setlS
    rw [show ([PV.int l0, .int lo, .int r0, .int hi]).set 3 (.int (cutF (lo + r2))) = [PV.int l0, .int lo, .int r0, .int (cutF (lo + r2))] from rfl, em]
    have kM : (μ.set kd (seMO d3) ++ [MO.lst [PV.int l0, .int lo, .int r0, .int (cutF (lo + r2))]])[μ.length]? = some (.lst [PV.int l0, .int lo, .int r0, .int (cutF (lo + r2))]) := app_lastS
    show DSs X _ [_, _, _, _, _, _, _] _ _
    refine CxF.setP (q := .int 0) cx 5 rfl (by decide +kernel) DE.int ?_
    show DSs X _ [_, _, _, _, _, _, _] _ _
    refine DSs.cons (DS.for cx.po cx.calm (DI.range2 (i := lo) (j := (cutF (lo + r2)) + 1) (cx.gl _ g_range) (by rw [cx.emg]; exact T.z_range) (DE.ixL (DE.pe v2 rfl) (DE.bin DE.int (DE.pe v4 rfl) oa_sub) (asL_obj kM) rfl) (DE.bin (DE.ixL (DE.pe v2 rfl) (DE.bin DE.int (DE.pe v4 rfl) oa_sub) (asL_obj kM) rfl) DE.int oa_add) ⟨by omega, by omega, by omega, by omega⟩) (fun i ρ' μ' => (∃ (z5 : Int) (a6 : Option PV), ρ' = [some (.obj kd), some (spP s h t), some (.obj μ.length), some (.int r2), some (.int 0), some (.int z5), a6] ∧ z5 = sumI lo i fun c => rowR s h t true c l0 r0) ∧ μ' = (μ.set kd (seMO d3) ++ [MO.lst [PV.int l0, .int lo, .int r0, .int (cutF (lo + r2))]])) ⟨⟨0, _, rfl, rfl⟩, rfl⟩ (fun _ _ _ _ _ => trivial) ?_ ?_)
    · rintro i x ρ' m' hix ⟨⟨z5, a6, rfl, hz5⟩, hm'⟩
      subst m'
      have hil : i < 4 := by
        have := (List.getElem?_eq_some_iff.mp hix).1
        rw [rngL_length] at this
        omega
      have hib : lo + ((i : Nat) : Int) ≤ (cutF (lo + r2)) := by
        have := (List.getElem?_eq_some_iff.mp hix).1
        rw [rngL_length] at this
        omega
      have hx := rngL_get hix
      subst hx
      refine ⟨_, DG.name (cx.tgt 6 rfl (by decide +kernel)), ?_⟩
      show DSs X _ [_, _, _, _, _, _, _] _ _
      refine CxF.setP (q := .int (z5 + rowR s h t true (lo + ((i : Nat) : Int)) l0 r0)) cx 5 rfl (by decide +kernel) (DE.bin (DE.pe v5 rfl) (DE.call cd F_law_row (by decide) g_law_row (DA.cons (DE.pe v1 rfl) (DA.cons (DE.cast (q := .str (heS true)) (DE.ixS DE.str (DE.pe v4 rfl) (c := 101) (by decide +kernel) (le_line (by decide +kernel))) (congrArg PV.str (by decide +kernel))) (DA.cons (DE.pe v6 rfl) (DA.cons (DE.ixL (DE.pe v2 rfl) (DE.pe v4 rfl) (asL_obj kM) rfl) (DA.cons (DE.ixL (DE.pe v2 rfl) (DE.bin DE.int (DE.pe v4 rfl) oa_add) (asL_obj kM) rfl) (DA.nil)))))) ⟨s, h, t, true, _, l0, r0, rfl, c4, ⟨by omega, by omega, by omega, by omega⟩, bs, rfl, rfl⟩) oa_add) ?_
      refine DSs.nil ⟨⟨_, _, rfl, ?_⟩, rfl⟩
      rw [hz5]
      rfl
    · rintro ρ' m' ⟨⟨z5, a6, rfl, hz5⟩, hm'⟩
      subst m'
      rw [rngL_length] at hz5
      have ebx : boxW (fun m => s + m) h t (bxE true l0 lo r0 (cutF (lo + r2))) = z5 := by
        have e1 := bxE_rows s h t true (a := lo) c4 ((cutF (lo + r2)) - lo).toNat
        rw [show lo + ((((cutF (lo + r2)) - lo).toNat : Nat) : Int) = (cutF (lo + r2)) by omega] at e1
        rw [e1, hz5, show ((cutF (lo + r2)) + 1 - lo).toNat = ((cutF (lo + r2)) - lo).toNat + 1 by omega]
      show DSs X _ [_, _, _, _, _, _, _] _ _
      refine DSs.ret1 (DE.cast (q := .bl true) (DE.cmp (DE.call cd F_box_sum (by decide) g_box_sum (DA.cons (DE.pe v1 rfl) (DA.cons (DE.cast (q := bxP (bxE true l0 lo r0 (cutF (lo + r2)))) (DE.callTy cd g_tuple T.z_tuple boot_tuple (DA.cons (DE.pe v2 rfl) DA.nil) (ca_tuple (asL_obj kM))) rfl) DA.nil)) ⟨s, h, t, (bxE true l0 lo r0 (cutF (lo + r2))), rfl, bxE_ok.mpr ⟨c4, cle⟩, (show BxS (l0, lo, r0, (cutF (lo + r2))) from bxS_mk (by omega) (by omega) (by omega) (by omega)), bs, rfl, rfl⟩) (DE.pe v5 rfl) oa_eq) (congrArg PV.bl (decide_eq_true ebx))) ?_
      exact fin_dropS (hQ d3 (ok3.mono (by omega))) rfl rfl
  · have c1 : -1000000000 ≤ l0 ∧ l0 ≤ 1000000000 ∧ lo ≤ hi ∧ -1000000000 ≤ lo ∧ hi ≤ 1000000000 := by omega
    obtain ⟨c2, c3, c4, c5, c6⟩ := c1
    have cin := cut_in (l0 + r2)
    have cle : l0 ≤ (cutF (l0 + r2)) := by unfold cutF; omega
    have cge : (cutF (l0 + r2)) ≤ l0 + 3 := by unfold cutF; omega
    refine DSs.cons (DS.setI (j := 2) (p := .int (cutF (l0 + r2))) (DE.call cd F_law_cut (by decide) g_law_cut (DA.cons (DE.bin (DE.ixL (DE.pe v2 rfl) (DE.bin DE.int (DE.pe v4 rfl) oa_sub) (asL_obj kB) rfl) (DE.pe v3 rfl) oa_add) DA.nil) ⟨_, rfl, rfl, rfl⟩) (DE.pe v2 rfl) (DE.bin DE.int (DE.pe v4 rfl) oa_sub) kB rfl ?_)
    have em : (μ.set kd (seMO d3) ++ [MO.lst [PV.int l0, .int lo, .int r0, .int hi]]).set μ.length (.lst [PV.int l0, .int lo, .int (cutF (l0 + r2)), .int hi]) = (μ.set kd (seMO d3) ++ [MO.lst [PV.int l0, .int lo, .int (cutF (l0 + r2)), .int hi]]) := app_setlS
    rw [show ([PV.int l0, .int lo, .int r0, .int hi]).set 2 (.int (cutF (l0 + r2))) = [PV.int l0, .int lo, .int (cutF (l0 + r2)), .int hi] from rfl, em]
    have kM : (μ.set kd (seMO d3) ++ [MO.lst [PV.int l0, .int lo, .int (cutF (l0 + r2)), .int hi]])[μ.length]? = some (.lst [PV.int l0, .int lo, .int (cutF (l0 + r2)), .int hi]) := app_lastS
    show DSs X _ [_, _, _, _, _, _, _] _ _
    refine CxF.setP (q := .int 0) cx 5 rfl (by decide +kernel) DE.int ?_
    show DSs X _ [_, _, _, _, _, _, _] _ _
    refine DSs.cons (DS.for cx.po cx.calm (DI.range2 (i := l0) (j := (cutF (l0 + r2)) + 1) (cx.gl _ g_range) (by rw [cx.emg]; exact T.z_range) (DE.ixL (DE.pe v2 rfl) (DE.bin DE.int (DE.pe v4 rfl) oa_sub) (asL_obj kM) rfl) (DE.bin (DE.ixL (DE.pe v2 rfl) (DE.bin DE.int (DE.pe v4 rfl) oa_sub) (asL_obj kM) rfl) DE.int oa_add) ⟨by omega, by omega, by omega, by omega⟩) (fun i ρ' μ' => (∃ (z5 : Int) (a6 : Option PV), ρ' = [some (.obj kd), some (spP s h t), some (.obj μ.length), some (.int r2), some (.int 1), some (.int z5), a6] ∧ z5 = sumI l0 i fun c => rowR s h t false c lo hi) ∧ μ' = (μ.set kd (seMO d3) ++ [MO.lst [PV.int l0, .int lo, .int (cutF (l0 + r2)), .int hi]])) ⟨⟨0, _, rfl, rfl⟩, rfl⟩ (fun _ _ _ _ _ => trivial) ?_ ?_)
    · rintro i x ρ' m' hix ⟨⟨z5, a6, rfl, hz5⟩, hm'⟩
      subst m'
      have hil : i < 4 := by
        have := (List.getElem?_eq_some_iff.mp hix).1
        rw [rngL_length] at this
        omega
      have hib : l0 + ((i : Nat) : Int) ≤ (cutF (l0 + r2)) := by
        have := (List.getElem?_eq_some_iff.mp hix).1
        rw [rngL_length] at this
        omega
      have hx := rngL_get hix
      subst hx
      refine ⟨_, DG.name (cx.tgt 6 rfl (by decide +kernel)), ?_⟩
      show DSs X _ [_, _, _, _, _, _, _] _ _
      refine CxF.setP (q := .int (z5 + rowR s h t false (l0 + ((i : Nat) : Int)) lo hi)) cx 5 rfl (by decide +kernel) (DE.bin (DE.pe v5 rfl) (DE.call cd F_law_row (by decide) g_law_row (DA.cons (DE.pe v1 rfl) (DA.cons (DE.cast (q := .str (heS false)) (DE.ixS DE.str (DE.pe v4 rfl) (c := 110) (by decide +kernel) (le_line (by decide +kernel))) (congrArg PV.str (by decide +kernel))) (DA.cons (DE.pe v6 rfl) (DA.cons (DE.ixL (DE.pe v2 rfl) (DE.pe v4 rfl) (asL_obj kM) rfl) (DA.cons (DE.ixL (DE.pe v2 rfl) (DE.bin DE.int (DE.pe v4 rfl) oa_add) (asL_obj kM) rfl) (DA.nil)))))) ⟨s, h, t, false, _, lo, hi, rfl, c4, ⟨by omega, by omega, by omega, by omega⟩, bs, rfl, rfl⟩) oa_add) ?_
      refine DSs.nil ⟨⟨_, _, rfl, ?_⟩, rfl⟩
      rw [hz5]
      rfl
    · rintro ρ' m' ⟨⟨z5, a6, rfl, hz5⟩, hm'⟩
      subst m'
      rw [rngL_length] at hz5
      have ebx : boxW (fun m => s + m) h t (bxE false lo l0 hi (cutF (l0 + r2))) = z5 := by
        have e1 := bxE_rows s h t false (a := l0) c4 ((cutF (l0 + r2)) - l0).toNat
        rw [show l0 + ((((cutF (l0 + r2)) - l0).toNat : Nat) : Int) = (cutF (l0 + r2)) by omega] at e1
        rw [e1, hz5, show ((cutF (l0 + r2)) + 1 - l0).toNat = ((cutF (l0 + r2)) - l0).toNat + 1 by omega]
      show DSs X _ [_, _, _, _, _, _, _] _ _
      refine DSs.ret1 (DE.cast (q := .bl true) (DE.cmp (DE.call cd F_box_sum (by decide) g_box_sum (DA.cons (DE.pe v1 rfl) (DA.cons (DE.cast (q := bxP (bxE false lo l0 hi (cutF (l0 + r2)))) (DE.callTy cd g_tuple T.z_tuple boot_tuple (DA.cons (DE.pe v2 rfl) DA.nil) (ca_tuple (asL_obj kM))) rfl) DA.nil)) ⟨s, h, t, (bxE false lo l0 hi (cutF (l0 + r2))), rfl, bxE_ok.mpr ⟨c4, cle⟩, (show BxS (l0, lo, (cutF (l0 + r2)), hi) from bxS_mk (by omega) (by omega) (by omega) (by omega)), bs, rfl, rfl⟩) (DE.pe v5 rfl) oa_eq) (congrArg PV.bl (decide_eq_true ebx))) ?_
      exact fin_dropS (hQ d3 (ok3.mono (by omega))) rfl rfl
theorem sc_law_shorn : FnScope ["seed", "spiral", "box", "flat", "last", "across", "fewer", "row"] ["seed", "spiral", "box"] (defScope s_law_shorn) := ⟨rfl, rfl, rfl, by decide +kernel, rfl, by decide +kernel, by decide +kernel⟩
def A_law_shorn : ASp := fun args μ Q _ => ∃ (kd : Nat) (d : DeckC) (n0 s : Int) (h : Fin 4) (t : Bool) (b : Bx), args = [.obj kd, spP s h t, bxP b] ∧ μ[kd]? = some (seMO d) ∧ ScOk d n0 ∧ n0 ≤ 500000000 ∧ BxOk b ∧ BxS b ∧ B 70 s ∧ ∀ d' : DeckC, ScOk d' (n0 + 10) → Q (.bl true) (μ.set kd (seMO d'))
theorem ok_law_shorn (T : Txt K w mg CW) : FnA P w K mg base 5 "_law_shorn" A_law_shorn := by
  refine T.d_law_shorn.ok sc_law_shorn (by rintro _ _ _ _ ⟨_, _, _, _, _, _, _, rfl, _⟩; rfl) ?_
  rintro X _ μ Q E cx ⟨kd, d, n0, s, h, t, b, rfl, hD, hd, hn, hb, hs, bs, hQ⟩
  have cd := cx.toCxD
  have v0 : ∀ {pos : Pos}, PE X (.Name "seed" pos) (tVar 0) := cx.var 0 rfl (by decide +kernel)
  have v1 : ∀ {pos : Pos}, PE X (.Name "spiral" pos) (tVar 1) := cx.var 1 rfl (by decide +kernel)
  have v2 : ∀ {pos : Pos}, PE X (.Name "box" pos) (tVar 2) := cx.var 2 rfl (by decide +kernel)
  have v3 : ∀ {pos : Pos}, PE X (.Name "flat" pos) (tVar 3) := cx.var 3 rfl (by decide +kernel)
  have v4 : ∀ {pos : Pos}, PE X (.Name "last" pos) (tVar 4) := cx.var 4 rfl (by decide +kernel)
  have v5 : ∀ {pos : Pos}, PE X (.Name "across" pos) (tVar 5) := cx.var 5 rfl (by decide +kernel)
  have v6 : ∀ {pos : Pos}, PE X (.Name "fewer" pos) (tVar 6) := cx.var 6 rfl (by decide +kernel)
  have v7 : ∀ {pos : Pos}, PE X (.Name "row" pos) (tVar 7) := cx.var 7 rfl (by decide +kernel)
  have g_law_draw : (defScope s_law_shorn).names.lookup ("_law_draw" : Str) = some .globalImplicit := by decide +kernel
  have g_list : (defScope s_law_shorn).names.lookup ("list" : Str) = some .globalImplicit := by decide +kernel
  have g_law_row : (defScope s_law_shorn).names.lookup ("_law_row" : Str) = some .globalImplicit := by decide +kernel
  have g_box_sum : (defScope s_law_shorn).names.lookup ("box_sum" : Str) = some .globalImplicit := by decide +kernel
  have g_tuple : (defScope s_law_shorn).names.lookup ("tuple" : Str) = some .globalImplicit := by decide +kernel
  have F_law_draw := ok_law_draw (P := P) (w := w) (base := base) T
  have F_law_row := ok_law_row (P := P) (w := w) (base := base) T
  have F_box_sum := ok_box_sum (P := P) (w := w) (base := base) T
  obtain ⟨l0, lo, r0, hi⟩ := b
  obtain ⟨o1, o2⟩ := id hb
  obtain ⟨s1, s2, s3, s4⟩ := id hs
  dsimp only at o1 o2 s1 s2 s3 s4
  show DSs X _ [_, _, _, _, _, _, _, _] _ _
  refine cx.setGW 3 rfl (by decide +kernel) ?_
  refine WE.call cd F_law_draw (by decide) g_law_draw ?_
  refine WA.of (DA.cons (DE.pe v0 rfl) (DA.cons (DE.int) DA.nil)) ?_
  refine ⟨kd, d, _, _, rfl, hD, hd, by omega, by decide, (show B 7000 (2 : Int) by decide +kernel), ?_⟩
  intro r1 d1 p1 q1 ok1
  have h1 := mset (m' := seMO d1) hD
  show DSs X _ [_, _, _, _, _, _, _, _] _ _
  refine cx.setGW 4 rfl (by decide +kernel) ?_
  refine WE.call cd F_law_draw (by decide) g_law_draw ?_
  refine WA.of (DA.cons (DE.pe v0 rfl) (DA.cons (DE.int) DA.nil)) ?_
  refine ⟨kd, d1, _, _, rfl, h1, ok1, by omega, by decide, (show B 7000 (2 : Int) by decide +kernel), ?_⟩
  intro r2 d2 p2 q2 ok2
  rw [List.set_set]
  show DSs X _ [_, _, _, _, _, _, _, _] _ _
  have hr1 : r1 = 0 ∨ r1 = 1 := by omega
  have hr2 : r2 = 0 ∨ r2 = 1 := by omega
  rcases hr1 with rfl | rfl <;> rcases hr2 with rfl | rfl
  · have c1 : -1000000000 ≤ lo ∧ lo ≤ 1000000000 ∧ l0 ≤ r0 ∧ -1000000000 ≤ l0 ∧ r0 ≤ 1000000000 := by omega
    obtain ⟨c2, c3, c4, c5, c6⟩ := c1
    by_cases hab : lo = hi
    · refine DSs.ifc (kb := true) (DT.cast (DT.cmp (DE.ixT (DE.pe v2 rfl) (DE.bin DE.int (DE.pe v3 rfl) oa_sub) rfl) (DE.ixT (DE.pe v2 rfl) (DE.bin DE.int (DE.pe v3 rfl) oa_sub) rfl) oa_eq) (decide_eq_true hab)) (fun _ => DSs.ret1 DE.bl (fin_mem (hQ d2 (ok2.mono (by omega))) rfl rfl)) (fun hc => by cases hc)
    refine DSs.ifc (kb := false) (DT.cast (DT.cmp (DE.ixT (DE.pe v2 rfl) (DE.bin DE.int (DE.pe v3 rfl) oa_sub) rfl) (DE.ixT (DE.pe v2 rfl) (DE.bin DE.int (DE.pe v3 rfl) oa_sub) rfl) oa_eq) (decide_eq_false hab)) (fun hc => by cases hc) (fun _ => DSs.nil ?_)
    show DSs X _ [_, _, _, _, _, _, _, _] _ _
    refine CxF.setP (q := .int lo) cx 5 rfl (by decide +kernel) (DE.ixL (DE.lst (DA.cons (DE.ixT (DE.pe v2 rfl) (DE.bin DE.int (DE.pe v3 rfl) oa_sub) rfl) (DA.cons (DE.ixT (DE.pe v2 rfl) (DE.bin DE.int (DE.pe v3 rfl) oa_sub) rfl) DA.nil))) (DE.pe v4 rfl) rfl rfl) ?_
    show DSs X _ [_, _, _, _, _, _, _, _] _ _
    refine CxF.setP (q := .obj μ.length) cx 6 rfl (by decide +kernel) (DE.cast (DE.listTO (xs := [PV.int l0, .int lo, .int r0, .int hi]) cd g_list T.z_list (DE.pe v2 rfl)) (congrArg PV.obj List.length_set)) ?_
    show DSs X _ [_, _, _, _, _, _, _, _] _ _
    refine DSs.cons (DS.setI (j := 1) (p := .int (lo + 1)) (DE.bin (DE.pe v5 rfl) (DE.ixL (DE.lst (DA.cons DE.int (DA.cons (DE.neg DE.int) DA.nil))) (DE.pe v4 rfl) rfl rfl) oa_add) (DE.pe v6 rfl) (DE.bin (DE.bin DE.int (DE.pe v3 rfl) oa_sub) (DE.bin DE.int (DE.pe v4 rfl) (oa_mul (mulW (show B 2 (2 : Int) by decide) (show B 1 (0 : Int) by decide) (by decide)))) oa_add) app_lastS rfl ?_)
    have em : (μ.set kd (seMO d2) ++ [MO.lst [PV.int l0, .int lo, .int r0, .int hi]]).set μ.length (.lst [PV.int l0, .int (lo + 1), .int r0, .int hi]) = (μ.set kd (seMO d2) ++ [MO.lst [PV.int l0, .int (lo + 1), .int r0, .int hi]]) := app_setlS
    rw [show ([PV.int l0, .int lo, .int r0, .int hi]).set 1 (.int (lo + 1)) = [PV.int l0, .int (lo + 1), .int r0, .int hi] from rfl, em]
    have kM : (μ.set kd (seMO d2) ++ [MO.lst [PV.int l0, .int (lo + 1), .int r0, .int hi]])[μ.length]? = some (.lst [PV.int l0, .int (lo + 1), .int r0, .int hi]) := app_lastS
    show DSs X _ [_, _, _, _, _, _, _, _] _ _
    refine CxF.setP (q := .int (rowR s h t true lo l0 r0)) cx 7 rfl (by decide +kernel) (DE.call cd F_law_row (by decide) g_law_row (DA.cons (DE.pe v1 rfl) (DA.cons (DE.cast (q := .str (heS true)) (DE.ixS DE.str (DE.pe v3 rfl) (c := 101) (by decide +kernel) (le_line (by decide +kernel))) (congrArg PV.str (by decide +kernel))) (DA.cons (DE.pe v5 rfl) (DA.cons (DE.ixT (DE.pe v2 rfl) (DE.pe v3 rfl) rfl) (DA.cons (DE.ixT (DE.pe v2 rfl) (DE.bin DE.int (DE.pe v3 rfl) oa_add) rfl) (DA.nil)))))) ⟨s, h, t, true, _, l0, r0, rfl, c4, ⟨by omega, by omega, by omega, by omega⟩, bs, rfl, rfl⟩) ?_
    have ebx : boxW (fun m => s + m) h t (l0, lo, r0, hi) = boxW (fun m => s + m) h t (bxE true l0 (lo + 1) r0 hi) + rowR s h t true lo l0 r0 := bxE_first s h t true (f := l0) (a := lo) (l := r0) (b := hi) c4 (by omega)
    show DSs X _ [_, _, _, _, _, _, _, _] _ _
    refine DSs.ret1 (DE.cast (q := .bl true) (DE.cmp (DE.call cd F_box_sum (by decide) g_box_sum (DA.cons (DE.pe v1 rfl) (DA.cons (DE.pe v2 rfl) DA.nil)) ⟨s, h, t, (l0, lo, r0, hi), rfl, hb, hs, bs, rfl, rfl⟩) (DE.bin (DE.call cd F_box_sum (by decide) g_box_sum (DA.cons (DE.pe v1 rfl) (DA.cons (DE.cast (q := bxP (bxE true l0 (lo + 1) r0 hi)) (DE.callTy cd g_tuple T.z_tuple boot_tuple (DA.cons (DE.pe v6 rfl) DA.nil) (ca_tuple (asL_obj kM))) rfl) DA.nil)) ⟨s, h, t, (bxE true l0 (lo + 1) r0 hi), rfl, bxE_ok.mpr ⟨c4, by omega⟩, (show BxS (l0, (lo + 1), r0, hi) from bxS_mk (by omega) (by omega) (by omega) (by omega)), bs, rfl, rfl⟩) (DE.pe v7 rfl) oa_add) oa_eq) (congrArg PV.bl (decide_eq_true ebx))) ?_
    exact fin_dropS (hQ d2 (ok2.mono (by omega))) rfl rfl
  · have c1 : -1000000000 ≤ hi ∧ hi ≤ 1000000000 ∧ l0 ≤ r0 ∧ -1000000000 ≤ l0 ∧ r0 ≤ 1000000000 := by omega
    obtain ⟨c2, c3, c4, c5, c6⟩ := c1
    by_cases hab : lo = hi
    · refine DSs.ifc (kb := true) (DT.cast (DT.cmp (DE.ixT (DE.pe v2 rfl) (DE.bin DE.int (DE.pe v3 rfl) oa_sub) rfl) (DE.ixT (DE.pe v2 rfl) (DE.bin DE.int (DE.pe v3 rfl) oa_sub) rfl) oa_eq) (decide_eq_true hab)) (fun _ => DSs.ret1 DE.bl (fin_mem (hQ d2 (ok2.mono (by omega))) rfl rfl)) (fun hc => by cases hc)
    refine DSs.ifc (kb := false) (DT.cast (DT.cmp (DE.ixT (DE.pe v2 rfl) (DE.bin DE.int (DE.pe v3 rfl) oa_sub) rfl) (DE.ixT (DE.pe v2 rfl) (DE.bin DE.int (DE.pe v3 rfl) oa_sub) rfl) oa_eq) (decide_eq_false hab)) (fun hc => by cases hc) (fun _ => DSs.nil ?_)
    show DSs X _ [_, _, _, _, _, _, _, _] _ _
    refine CxF.setP (q := .int hi) cx 5 rfl (by decide +kernel) (DE.ixL (DE.lst (DA.cons (DE.ixT (DE.pe v2 rfl) (DE.bin DE.int (DE.pe v3 rfl) oa_sub) rfl) (DA.cons (DE.ixT (DE.pe v2 rfl) (DE.bin DE.int (DE.pe v3 rfl) oa_sub) rfl) DA.nil))) (DE.pe v4 rfl) rfl rfl) ?_
    show DSs X _ [_, _, _, _, _, _, _, _] _ _
    refine CxF.setP (q := .obj μ.length) cx 6 rfl (by decide +kernel) (DE.cast (DE.listTO (xs := [PV.int l0, .int lo, .int r0, .int hi]) cd g_list T.z_list (DE.pe v2 rfl)) (congrArg PV.obj List.length_set)) ?_
    show DSs X _ [_, _, _, _, _, _, _, _] _ _
    refine DSs.cons (DS.setI (j := 3) (p := .int (hi + -1)) (DE.bin (DE.pe v5 rfl) (DE.ixL (DE.lst (DA.cons DE.int (DA.cons (DE.neg DE.int) DA.nil))) (DE.pe v4 rfl) rfl rfl) oa_add) (DE.pe v6 rfl) (DE.bin (DE.bin DE.int (DE.pe v3 rfl) oa_sub) (DE.bin DE.int (DE.pe v4 rfl) (oa_mul (mulW (show B 2 (2 : Int) by decide) (show B 1 (1 : Int) by decide) (by decide)))) oa_add) app_lastS rfl ?_)
    have em : (μ.set kd (seMO d2) ++ [MO.lst [PV.int l0, .int lo, .int r0, .int hi]]).set μ.length (.lst [PV.int l0, .int lo, .int r0, .int (hi + -1)]) = (μ.set kd (seMO d2) ++ [MO.lst [PV.int l0, .int lo, .int r0, .int (hi + -1)]]) := app_setlS
    rw [show ([PV.int l0, .int lo, .int r0, .int hi]).set 3 (.int (hi + -1)) = [PV.int l0, .int lo, .int r0, .int (hi + -1)] from rfl, em]
    have kM : (μ.set kd (seMO d2) ++ [MO.lst [PV.int l0, .int lo, .int r0, .int (hi + -1)]])[μ.length]? = some (.lst [PV.int l0, .int lo, .int r0, .int (hi + -1)]) := app_lastS
    show DSs X _ [_, _, _, _, _, _, _, _] _ _
    refine CxF.setP (q := .int (rowR s h t true hi l0 r0)) cx 7 rfl (by decide +kernel) (DE.call cd F_law_row (by decide) g_law_row (DA.cons (DE.pe v1 rfl) (DA.cons (DE.cast (q := .str (heS true)) (DE.ixS DE.str (DE.pe v3 rfl) (c := 101) (by decide +kernel) (le_line (by decide +kernel))) (congrArg PV.str (by decide +kernel))) (DA.cons (DE.pe v5 rfl) (DA.cons (DE.ixT (DE.pe v2 rfl) (DE.pe v3 rfl) rfl) (DA.cons (DE.ixT (DE.pe v2 rfl) (DE.bin DE.int (DE.pe v3 rfl) oa_add) rfl) (DA.nil)))))) ⟨s, h, t, true, _, l0, r0, rfl, c4, ⟨by omega, by omega, by omega, by omega⟩, bs, rfl, rfl⟩) ?_
    have ebx : boxW (fun m => s + m) h t (l0, lo, r0, hi) = boxW (fun m => s + m) h t (bxE true l0 lo r0 (hi + -1)) + rowR s h t true hi l0 r0 := bxE_last s h t true (f := l0) (a := lo) (l := r0) (b := hi) c4 (by omega)
    show DSs X _ [_, _, _, _, _, _, _, _] _ _
    refine DSs.ret1 (DE.cast (q := .bl true) (DE.cmp (DE.call cd F_box_sum (by decide) g_box_sum (DA.cons (DE.pe v1 rfl) (DA.cons (DE.pe v2 rfl) DA.nil)) ⟨s, h, t, (l0, lo, r0, hi), rfl, hb, hs, bs, rfl, rfl⟩) (DE.bin (DE.call cd F_box_sum (by decide) g_box_sum (DA.cons (DE.pe v1 rfl) (DA.cons (DE.cast (q := bxP (bxE true l0 lo r0 (hi + -1))) (DE.callTy cd g_tuple T.z_tuple boot_tuple (DA.cons (DE.pe v6 rfl) DA.nil) (ca_tuple (asL_obj kM))) rfl) DA.nil)) ⟨s, h, t, (bxE true l0 lo r0 (hi + -1)), rfl, bxE_ok.mpr ⟨c4, by omega⟩, (show BxS (l0, lo, r0, (hi + -1)) from bxS_mk (by omega) (by omega) (by omega) (by omega)), bs, rfl, rfl⟩) (DE.pe v7 rfl) oa_add) oa_eq) (congrArg PV.bl (decide_eq_true ebx))) ?_
    exact fin_dropS (hQ d2 (ok2.mono (by omega))) rfl rfl
  · have c1 : -1000000000 ≤ l0 ∧ l0 ≤ 1000000000 ∧ lo ≤ hi ∧ -1000000000 ≤ lo ∧ hi ≤ 1000000000 := by omega
    obtain ⟨c2, c3, c4, c5, c6⟩ := c1
    by_cases hab : l0 = r0
    · refine DSs.ifc (kb := true) (DT.cast (DT.cmp (DE.ixT (DE.pe v2 rfl) (DE.bin DE.int (DE.pe v3 rfl) oa_sub) rfl) (DE.ixT (DE.pe v2 rfl) (DE.bin DE.int (DE.pe v3 rfl) oa_sub) rfl) oa_eq) (decide_eq_true hab)) (fun _ => DSs.ret1 DE.bl (fin_mem (hQ d2 (ok2.mono (by omega))) rfl rfl)) (fun hc => by cases hc)
    refine DSs.ifc (kb := false) (DT.cast (DT.cmp (DE.ixT (DE.pe v2 rfl) (DE.bin DE.int (DE.pe v3 rfl) oa_sub) rfl) (DE.ixT (DE.pe v2 rfl) (DE.bin DE.int (DE.pe v3 rfl) oa_sub) rfl) oa_eq) (decide_eq_false hab)) (fun hc => by cases hc) (fun _ => DSs.nil ?_)
    show DSs X _ [_, _, _, _, _, _, _, _] _ _
    refine CxF.setP (q := .int l0) cx 5 rfl (by decide +kernel) (DE.ixL (DE.lst (DA.cons (DE.ixT (DE.pe v2 rfl) (DE.bin DE.int (DE.pe v3 rfl) oa_sub) rfl) (DA.cons (DE.ixT (DE.pe v2 rfl) (DE.bin DE.int (DE.pe v3 rfl) oa_sub) rfl) DA.nil))) (DE.pe v4 rfl) rfl rfl) ?_
    show DSs X _ [_, _, _, _, _, _, _, _] _ _
    refine CxF.setP (q := .obj μ.length) cx 6 rfl (by decide +kernel) (DE.cast (DE.listTO (xs := [PV.int l0, .int lo, .int r0, .int hi]) cd g_list T.z_list (DE.pe v2 rfl)) (congrArg PV.obj List.length_set)) ?_
    show DSs X _ [_, _, _, _, _, _, _, _] _ _
    refine DSs.cons (DS.setI (j := 0) (p := .int (l0 + 1)) (DE.bin (DE.pe v5 rfl) (DE.ixL (DE.lst (DA.cons DE.int (DA.cons (DE.neg DE.int) DA.nil))) (DE.pe v4 rfl) rfl rfl) oa_add) (DE.pe v6 rfl) (DE.bin (DE.bin DE.int (DE.pe v3 rfl) oa_sub) (DE.bin DE.int (DE.pe v4 rfl) (oa_mul (mulW (show B 2 (2 : Int) by decide) (show B 1 (0 : Int) by decide) (by decide)))) oa_add) app_lastS rfl ?_)
    have em : (μ.set kd (seMO d2) ++ [MO.lst [PV.int l0, .int lo, .int r0, .int hi]]).set μ.length (.lst [PV.int (l0 + 1), .int lo, .int r0, .int hi]) = (μ.set kd (seMO d2) ++ [MO.lst [PV.int (l0 + 1), .int lo, .int r0, .int hi]]) := app_setlS
    rw [show ([PV.int l0, .int lo, .int r0, .int hi]).set 0 (.int (l0 + 1)) = [PV.int (l0 + 1), .int lo, .int r0, .int hi] from rfl, em]
    have kM : (μ.set kd (seMO d2) ++ [MO.lst [PV.int (l0 + 1), .int lo, .int r0, .int hi]])[μ.length]? = some (.lst [PV.int (l0 + 1), .int lo, .int r0, .int hi]) := app_lastS
    show DSs X _ [_, _, _, _, _, _, _, _] _ _
    refine CxF.setP (q := .int (rowR s h t false l0 lo hi)) cx 7 rfl (by decide +kernel) (DE.call cd F_law_row (by decide) g_law_row (DA.cons (DE.pe v1 rfl) (DA.cons (DE.cast (q := .str (heS false)) (DE.ixS DE.str (DE.pe v3 rfl) (c := 110) (by decide +kernel) (le_line (by decide +kernel))) (congrArg PV.str (by decide +kernel))) (DA.cons (DE.pe v5 rfl) (DA.cons (DE.ixT (DE.pe v2 rfl) (DE.pe v3 rfl) rfl) (DA.cons (DE.ixT (DE.pe v2 rfl) (DE.bin DE.int (DE.pe v3 rfl) oa_add) rfl) (DA.nil)))))) ⟨s, h, t, false, _, lo, hi, rfl, c4, ⟨by omega, by omega, by omega, by omega⟩, bs, rfl, rfl⟩) ?_
    have ebx : boxW (fun m => s + m) h t (l0, lo, r0, hi) = boxW (fun m => s + m) h t (bxE false lo (l0 + 1) hi r0) + rowR s h t false l0 lo hi := bxE_first s h t false (f := lo) (a := l0) (l := hi) (b := r0) c4 (by omega)
    show DSs X _ [_, _, _, _, _, _, _, _] _ _
    refine DSs.ret1 (DE.cast (q := .bl true) (DE.cmp (DE.call cd F_box_sum (by decide) g_box_sum (DA.cons (DE.pe v1 rfl) (DA.cons (DE.pe v2 rfl) DA.nil)) ⟨s, h, t, (l0, lo, r0, hi), rfl, hb, hs, bs, rfl, rfl⟩) (DE.bin (DE.call cd F_box_sum (by decide) g_box_sum (DA.cons (DE.pe v1 rfl) (DA.cons (DE.cast (q := bxP (bxE false lo (l0 + 1) hi r0)) (DE.callTy cd g_tuple T.z_tuple boot_tuple (DA.cons (DE.pe v6 rfl) DA.nil) (ca_tuple (asL_obj kM))) rfl) DA.nil)) ⟨s, h, t, (bxE false lo (l0 + 1) hi r0), rfl, bxE_ok.mpr ⟨c4, by omega⟩, (show BxS ((l0 + 1), lo, r0, hi) from bxS_mk (by omega) (by omega) (by omega) (by omega)), bs, rfl, rfl⟩) (DE.pe v7 rfl) oa_add) oa_eq) (congrArg PV.bl (decide_eq_true ebx))) ?_
    exact fin_dropS (hQ d2 (ok2.mono (by omega))) rfl rfl
  · have c1 : -1000000000 ≤ r0 ∧ r0 ≤ 1000000000 ∧ lo ≤ hi ∧ -1000000000 ≤ lo ∧ hi ≤ 1000000000 := by omega
    obtain ⟨c2, c3, c4, c5, c6⟩ := c1
    by_cases hab : l0 = r0
    · refine DSs.ifc (kb := true) (DT.cast (DT.cmp (DE.ixT (DE.pe v2 rfl) (DE.bin DE.int (DE.pe v3 rfl) oa_sub) rfl) (DE.ixT (DE.pe v2 rfl) (DE.bin DE.int (DE.pe v3 rfl) oa_sub) rfl) oa_eq) (decide_eq_true hab)) (fun _ => DSs.ret1 DE.bl (fin_mem (hQ d2 (ok2.mono (by omega))) rfl rfl)) (fun hc => by cases hc)
    refine DSs.ifc (kb := false) (DT.cast (DT.cmp (DE.ixT (DE.pe v2 rfl) (DE.bin DE.int (DE.pe v3 rfl) oa_sub) rfl) (DE.ixT (DE.pe v2 rfl) (DE.bin DE.int (DE.pe v3 rfl) oa_sub) rfl) oa_eq) (decide_eq_false hab)) (fun hc => by cases hc) (fun _ => DSs.nil ?_)
    show DSs X _ [_, _, _, _, _, _, _, _] _ _
    refine CxF.setP (q := .int r0) cx 5 rfl (by decide +kernel) (DE.ixL (DE.lst (DA.cons (DE.ixT (DE.pe v2 rfl) (DE.bin DE.int (DE.pe v3 rfl) oa_sub) rfl) (DA.cons (DE.ixT (DE.pe v2 rfl) (DE.bin DE.int (DE.pe v3 rfl) oa_sub) rfl) DA.nil))) (DE.pe v4 rfl) rfl rfl) ?_
    show DSs X _ [_, _, _, _, _, _, _, _] _ _
    refine CxF.setP (q := .obj μ.length) cx 6 rfl (by decide +kernel) (DE.cast (DE.listTO (xs := [PV.int l0, .int lo, .int r0, .int hi]) cd g_list T.z_list (DE.pe v2 rfl)) (congrArg PV.obj List.length_set)) ?_
    show DSs X _ [_, _, _, _, _, _, _, _] _ _
    refine DSs.cons (DS.setI (j := 2) (p := .int (r0 + -1)) (DE.bin (DE.pe v5 rfl) (DE.ixL (DE.lst (DA.cons DE.int (DA.cons (DE.neg DE.int) DA.nil))) (DE.pe v4 rfl) rfl rfl) oa_add) (DE.pe v6 rfl) (DE.bin (DE.bin DE.int (DE.pe v3 rfl) oa_sub) (DE.bin DE.int (DE.pe v4 rfl) (oa_mul (mulW (show B 2 (2 : Int) by decide) (show B 1 (1 : Int) by decide) (by decide)))) oa_add) app_lastS rfl ?_)
    have em : (μ.set kd (seMO d2) ++ [MO.lst [PV.int l0, .int lo, .int r0, .int hi]]).set μ.length (.lst [PV.int l0, .int lo, .int (r0 + -1), .int hi]) = (μ.set kd (seMO d2) ++ [MO.lst [PV.int l0, .int lo, .int (r0 + -1), .int hi]]) := app_setlS
    rw [show ([PV.int l0, .int lo, .int r0, .int hi]).set 2 (.int (r0 + -1)) = [PV.int l0, .int lo, .int (r0 + -1), .int hi] from rfl, em]
    have kM : (μ.set kd (seMO d2) ++ [MO.lst [PV.int l0, .int lo, .int (r0 + -1), .int hi]])[μ.length]? = some (.lst [PV.int l0, .int lo, .int (r0 + -1), .int hi]) := app_lastS
    show DSs X _ [_, _, _, _, _, _, _, _] _ _
    refine CxF.setP (q := .int (rowR s h t false r0 lo hi)) cx 7 rfl (by decide +kernel) (DE.call cd F_law_row (by decide) g_law_row (DA.cons (DE.pe v1 rfl) (DA.cons (DE.cast (q := .str (heS false)) (DE.ixS DE.str (DE.pe v3 rfl) (c := 110) (by decide +kernel) (le_line (by decide +kernel))) (congrArg PV.str (by decide +kernel))) (DA.cons (DE.pe v5 rfl) (DA.cons (DE.ixT (DE.pe v2 rfl) (DE.pe v3 rfl) rfl) (DA.cons (DE.ixT (DE.pe v2 rfl) (DE.bin DE.int (DE.pe v3 rfl) oa_add) rfl) (DA.nil)))))) ⟨s, h, t, false, _, lo, hi, rfl, c4, ⟨by omega, by omega, by omega, by omega⟩, bs, rfl, rfl⟩) ?_
    have ebx : boxW (fun m => s + m) h t (l0, lo, r0, hi) = boxW (fun m => s + m) h t (bxE false lo l0 hi (r0 + -1)) + rowR s h t false r0 lo hi := bxE_last s h t false (f := lo) (a := l0) (l := hi) (b := r0) c4 (by omega)
    show DSs X _ [_, _, _, _, _, _, _, _] _ _
    refine DSs.ret1 (DE.cast (q := .bl true) (DE.cmp (DE.call cd F_box_sum (by decide) g_box_sum (DA.cons (DE.pe v1 rfl) (DA.cons (DE.pe v2 rfl) DA.nil)) ⟨s, h, t, (l0, lo, r0, hi), rfl, hb, hs, bs, rfl, rfl⟩) (DE.bin (DE.call cd F_box_sum (by decide) g_box_sum (DA.cons (DE.pe v1 rfl) (DA.cons (DE.cast (q := bxP (bxE false lo l0 hi (r0 + -1))) (DE.callTy cd g_tuple T.z_tuple boot_tuple (DA.cons (DE.pe v6 rfl) DA.nil) (ca_tuple (asL_obj kM))) rfl) DA.nil)) ⟨s, h, t, (bxE false lo l0 hi (r0 + -1)), rfl, bxE_ok.mpr ⟨c4, by omega⟩, (show BxS (l0, lo, (r0 + -1), hi) from bxS_mk (by omega) (by omega) (by omega) (by omega)), bs, rfl, rfl⟩) (DE.pe v7 rfl) oa_add) oa_eq) (congrArg PV.bl (decide_eq_true ebx))) ?_
    exact fin_dropS (hQ d2 (ok2.mono (by omega))) rfl rfl
theorem sc_law_split : FnScope ["seed", "spiral", "box", "whole", "flat", "at", "one", "other"] ["seed", "spiral", "box"] (defScope s_law_split) := ⟨rfl, rfl, rfl, by decide +kernel, rfl, by decide +kernel, by decide +kernel⟩
def A_law_split : ASp := fun args μ Q _ => ∃ (kd : Nat) (d : DeckC) (n0 s : Int) (h : Fin 4) (t : Bool) (b : Bx), args = [.obj kd, spP s h t, bxP b] ∧ μ[kd]? = some (seMO d) ∧ ScOk d n0 ∧ n0 ≤ 500000000 ∧ BxOk b ∧ BxS b ∧ B 70 s ∧ ∀ d' : DeckC, ScOk d' (n0 + 10) → Q (.bl true) (μ.set kd (seMO d'))
theorem ok_law_split (T : Txt K w mg CW) : FnA P w K mg base 5 "_law_split" A_law_split := by
  refine T.d_law_split.ok sc_law_split (by rintro _ _ _ _ ⟨_, _, _, _, _, _, _, rfl, _⟩; rfl) ?_
  rintro X _ μ Q E cx ⟨kd, d, n0, s, h, t, b, rfl, hD, hd, hn, hb, hs, bs, hQ⟩
  have cd := cx.toCxD
  have v0 : ∀ {pos : Pos}, PE X (.Name "seed" pos) (tVar 0) := cx.var 0 rfl (by decide +kernel)
  have v1 : ∀ {pos : Pos}, PE X (.Name "spiral" pos) (tVar 1) := cx.var 1 rfl (by decide +kernel)
  have v2 : ∀ {pos : Pos}, PE X (.Name "box" pos) (tVar 2) := cx.var 2 rfl (by decide +kernel)
  have v3 : ∀ {pos : Pos}, PE X (.Name "whole" pos) (tVar 3) := cx.var 3 rfl (by decide +kernel)
  have v4 : ∀ {pos : Pos}, PE X (.Name "flat" pos) (tVar 4) := cx.var 4 rfl (by decide +kernel)
  have v5 : ∀ {pos : Pos}, PE X (.Name "at" pos) (tVar 5) := cx.var 5 rfl (by decide +kernel)
  have v6 : ∀ {pos : Pos}, PE X (.Name "one" pos) (tVar 6) := cx.var 6 rfl (by decide +kernel)
  have v7 : ∀ {pos : Pos}, PE X (.Name "other" pos) (tVar 7) := cx.var 7 rfl (by decide +kernel)
  have g_box_sum : (defScope s_law_split).names.lookup ("box_sum" : Str) = some .globalImplicit := by decide +kernel
  have g_range : (defScope s_law_split).names.lookup ("range" : Str) = some .globalImplicit := by decide +kernel
  have g_law_draw : (defScope s_law_split).names.lookup ("_law_draw" : Str) = some .globalImplicit := by decide +kernel
  have g_list : (defScope s_law_split).names.lookup ("list" : Str) = some .globalImplicit := by decide +kernel
  have g_tuple : (defScope s_law_split).names.lookup ("tuple" : Str) = some .globalImplicit := by decide +kernel
  have F_box_sum := ok_box_sum (P := P) (w := w) (base := base) T
  have F_law_draw := ok_law_draw (P := P) (w := w) (base := base) T
  obtain ⟨l0, lo, r0, hi⟩ := b
  obtain ⟨o1, o2⟩ := id hb
  obtain ⟨s1, s2, s3, s4⟩ := id hs
  dsimp only at o1 o2 s1 s2 s3 s4
  show DSs X _ [_, _, _, _, _, _, _, _] _ _
  refine CxF.setP (q := .int (boxW (fun m => s + m) h t (l0, lo, r0, hi))) cx 3 rfl (by decide +kernel) (DE.call cd F_box_sum (by decide) g_box_sum (DA.cons (DE.pe v1 rfl) (DA.cons (DE.pe v2 rfl) DA.nil)) ⟨s, h, t, (l0, lo, r0, hi), rfl, hb, hs, bs, rfl, rfl⟩) ?_
  show DSs X _ [_, _, _, _, _, _, _, _] _ _
  refine DSs.cons (DS.for cx.po cx.calm (DI.range1 (cx.gl _ g_range) (by rw [cx.emg]; exact T.z_range) DE.int (by decide) (by decide)) (fun i ρ' μ' => ∃ (a4 a5 a6 a7 : Option PV) (d' : DeckC) (ex : Mem), ρ' = [some (.obj kd), some (spP s h t), some (bxP (l0, lo, r0, hi)), some (.int (boxW (fun m => s + m) h t (l0, lo, r0, hi))), a4, a5, a6, a7] ∧ μ' = μ.set kd (seMO d') ++ ex ∧ ScOk d' (n0 + 2 * ((i : Nat) : Int))) ⟨_, _, _, _, d, [], rfl, by rw [List.append_nil]; exact set_same hD, hd.mono (by omega)⟩ (fun _ _ _ _ _ => trivial) ?_ ?_)
  · rintro i y ρ' m' hix ⟨a4, a5, a6, a7, d1, ex, rfl, hm', ok1⟩
    subst m'
    have i2 : i < 2 := by simpa [rngL_length] using (List.getElem?_eq_some_iff.mp hix).1
    have hy := rngL_get hix
    rw [Int.zero_add] at hy
    subst hy
    refine ⟨_, DG.name (cx.tgt 4 rfl (by decide +kernel)), ?_⟩
    show DSs X _ [_, _, _, _, _, _, _, _] _ _
    have hi2 : i = 0 ∨ i = 1 := by omega
    rcases hi2 with rfl | rfl
    · by_cases hlt : l0 < r0
      · refine DSs.ifc (kb := true) (DT.cast (DT.cmp (DE.ixT (DE.pe v2 rfl) (DE.pe v4 rfl) rfl) (DE.ixT (DE.pe v2 rfl) (DE.bin DE.int (DE.pe v4 rfl) oa_add) rfl) oa_lt) (decide_eq_true hlt)) (fun _ => ?_) (fun hc => by cases hc)
        refine cx.setGW 5 rfl (by decide +kernel) ?_
        refine WE.bin ?_
        refine WE.of (DE.ixT (DE.pe v2 rfl) (DE.pe v4 rfl) rfl) ?_
        refine WE.call cd F_law_draw (by decide) g_law_draw ?_
        refine WA.of (DA.cons (DE.pe v0 rfl) (DA.cons (DE.cast (q := .int (r0 - l0)) (DE.bin (DE.ixT (DE.pe v2 rfl) (DE.bin DE.int (DE.pe v4 rfl) oa_add) rfl) (DE.ixT (DE.pe v2 rfl) (DE.pe v4 rfl) rfl) oa_sub) rfl) DA.nil)) ?_
        refine ⟨kd, d1, _, _, rfl, (get_app (mset hD)), ok1, by omega, (by omega), (B.le (show B 32 (r0 - l0) from B.rng (a := 2000000000) (by omega) (by omega) (by decide)) (by decide)), ?_⟩
        intro r2 d2 p2 q2 ok2
        refine ⟨_, oa_add, ?_⟩
        obtain ⟨x, hx⟩ : ∃ x, x = l0 + r2 := ⟨_, rfl⟩
        rw [← hx, set_app (mset hD), List.set_set]
        have x1 : l0 ≤ x := by omega
        have x2 : x < r0 := by omega
        obtain ⟨MM, hMM⟩ : ∃ MM : Mem, MM = μ.set kd (seMO d2) ++ ex := ⟨_, rfl⟩
        rw [← hMM]
        show DSs X _ [_, _, _, _, _, _, _, _] _ _
        refine CxF.setP (q := .obj MM.length) cx 6 rfl (by decide +kernel) (DE.listTO (xs := [PV.int l0, .int lo, .int r0, .int hi]) cd g_list T.z_list (DE.pe v2 rfl)) ?_
        show DSs X _ [_, _, _, _, _, _, _, _] _ _
        refine CxF.setP (q := .obj (MM ++ [MO.lst [PV.int l0, .int lo, .int r0, .int hi]]).length) cx 7 rfl (by decide +kernel) (DE.listTO (xs := [PV.int l0, .int lo, .int r0, .int hi]) cd g_list T.z_list (DE.pe v2 rfl)) ?_
        have k1 : (MM ++ [MO.lst [PV.int l0, .int lo, .int r0, .int hi]] ++ [MO.lst [PV.int l0, .int lo, .int r0, .int hi]])[MM.length]? = some (.lst [PV.int l0, .int lo, .int r0, .int hi]) := get_app app_last
        show DSs X _ [_, _, _, _, _, _, _, _] _ _
        refine DSs.cons (DS.setI (j := 2) (p := .int x) (DE.pe v5 rfl) (DE.pe v6 rfl) (DE.bin DE.int (DE.pe v4 rfl) oa_add) k1 rfl ?_)
        have e1 : (MM ++ [MO.lst [PV.int l0, .int lo, .int r0, .int hi]] ++ [MO.lst [PV.int l0, .int lo, .int r0, .int hi]]).set MM.length (.lst [PV.int l0, .int lo, .int x, .int hi]) = MM ++ [MO.lst [PV.int l0, .int lo, .int x, .int hi]] ++ [MO.lst [PV.int l0, .int lo, .int r0, .int hi]] := by rw [set_app app_last, app_setl]
        rw [show ([PV.int l0, .int lo, .int r0, .int hi]).set 2 (.int x) = [PV.int l0, .int lo, .int x, .int hi] from rfl, e1]
        have k2 : (MM ++ [MO.lst [PV.int l0, .int lo, .int x, .int hi]] ++ [MO.lst [PV.int l0, .int lo, .int r0, .int hi]])[(MM ++ [MO.lst [PV.int l0, .int lo, .int r0, .int hi]]).length]? = some (.lst [PV.int l0, .int lo, .int r0, .int hi]) := by
          rw [show (MM ++ [MO.lst [PV.int l0, .int lo, .int r0, .int hi]]).length = (MM ++ [MO.lst [PV.int l0, .int lo, .int x, .int hi]]).length by simp]
          exact app_last
        show DSs X _ [_, _, _, _, _, _, _, _] _ _
        refine DSs.cons (DS.setI (j := 0) (p := .int (x + 1)) (DE.bin (DE.pe v5 rfl) DE.int oa_add) (DE.pe v7 rfl) (DE.pe v4 rfl) k2 rfl ?_)
        have e2 : (MM ++ [MO.lst [PV.int l0, .int lo, .int x, .int hi]] ++ [MO.lst [PV.int l0, .int lo, .int r0, .int hi]]).set (MM ++ [MO.lst [PV.int l0, .int lo, .int r0, .int hi]]).length (.lst [PV.int (x + 1), .int lo, .int r0, .int hi]) = MM ++ [MO.lst [PV.int l0, .int lo, .int x, .int hi]] ++ [MO.lst [PV.int (x + 1), .int lo, .int r0, .int hi]] := by
          rw [show (MM ++ [MO.lst [PV.int l0, .int lo, .int r0, .int hi]]).length = (MM ++ [MO.lst [PV.int l0, .int lo, .int x, .int hi]]).length by simp, app_setl]
        rw [show ([PV.int l0, .int lo, .int r0, .int hi]).set 0 (.int (x + 1)) = [PV.int (x + 1), .int lo, .int r0, .int hi] from rfl, e2]
        have k3 : (MM ++ [MO.lst [PV.int l0, .int lo, .int x, .int hi]] ++ [MO.lst [PV.int (x + 1), .int lo, .int r0, .int hi]])[MM.length]? = some (.lst [PV.int l0, .int lo, .int x, .int hi]) := get_app app_last
        have k4 : (MM ++ [MO.lst [PV.int l0, .int lo, .int x, .int hi]] ++ [MO.lst [PV.int (x + 1), .int lo, .int r0, .int hi]])[(MM ++ [MO.lst [PV.int l0, .int lo, .int r0, .int hi]]).length]? = some (.lst [PV.int (x + 1), .int lo, .int r0, .int hi]) := by
          rw [show (MM ++ [MO.lst [PV.int l0, .int lo, .int r0, .int hi]]).length = (MM ++ [MO.lst [PV.int l0, .int lo, .int x, .int hi]]).length by simp]
          exact app_last
        have ebx : boxW (fun m => s + m) h t (l0, lo, x, hi) + boxW (fun m => s + m) h t ((x + 1), lo, r0, hi) = (boxW (fun m => s + m) h t (l0, lo, r0, hi)) := (part_W (part_x x1 x2) _).symm
        show DSs X _ [_, _, _, _, _, _, _, _] _ _
        refine DSs.ifc (kb := false) (DT.cast (DT.cmp (DE.bin (DE.call cd F_box_sum (by decide) g_box_sum (DA.cons (DE.pe v1 rfl) (DA.cons (DE.cast (q := bxP (l0, lo, x, hi)) (DE.callTy cd g_tuple T.z_tuple boot_tuple (DA.cons (DE.pe v6 rfl) DA.nil) (ca_tuple (asL_obj k3))) rfl) DA.nil)) ⟨s, h, t, (l0, lo, x, hi), rfl, bxO_mk (by omega) (by omega), bxS_mk (by omega) (by omega) (by omega) (by omega), bs, rfl, rfl⟩) (DE.call cd F_box_sum (by decide) g_box_sum (DA.cons (DE.pe v1 rfl) (DA.cons (DE.cast (q := bxP ((x + 1), lo, r0, hi)) (DE.callTy cd g_tuple T.z_tuple boot_tuple (DA.cons (DE.pe v7 rfl) DA.nil) (ca_tuple (asL_obj k4))) rfl) DA.nil)) ⟨s, h, t, ((x + 1), lo, r0, hi), rfl, bxO_mk (by omega) (by omega), bxS_mk (by omega) (by omega) (by omega) (by omega), bs, rfl, rfl⟩) oa_add) (DE.pe v3 rfl) oa_ne) (by rw [ebx, decide_eq_true rfl]; rfl)) (fun hc => by cases hc) (fun _ => DSs.nil ?_)
        refine DSs.nil (DSs.nil ⟨_, _, _, _, d2, ex ++ [MO.lst [PV.int l0, .int lo, .int x, .int hi]] ++ [MO.lst [PV.int (x + 1), .int lo, .int r0, .int hi]], rfl, by rw [hMM]; simp, ok2.mono (by omega)⟩)
      · refine DSs.ifc (kb := false) (DT.cast (DT.cmp (DE.ixT (DE.pe v2 rfl) (DE.pe v4 rfl) rfl) (DE.ixT (DE.pe v2 rfl) (DE.bin DE.int (DE.pe v4 rfl) oa_add) rfl) oa_lt) (decide_eq_false hlt)) (fun hc => by cases hc) (fun _ => DSs.nil ?_)
        exact DSs.nil ⟨_, _, _, _, d1, ex, rfl, rfl, ok1.mono (by omega)⟩
    · by_cases hlt : lo < hi
      · refine DSs.ifc (kb := true) (DT.cast (DT.cmp (DE.ixT (DE.pe v2 rfl) (DE.pe v4 rfl) rfl) (DE.ixT (DE.pe v2 rfl) (DE.bin DE.int (DE.pe v4 rfl) oa_add) rfl) oa_lt) (decide_eq_true hlt)) (fun _ => ?_) (fun hc => by cases hc)
        refine cx.setGW 5 rfl (by decide +kernel) ?_
        refine WE.bin ?_
        refine WE.of (DE.ixT (DE.pe v2 rfl) (DE.pe v4 rfl) rfl) ?_
        refine WE.call cd F_law_draw (by decide) g_law_draw ?_
        refine WA.of (DA.cons (DE.pe v0 rfl) (DA.cons (DE.cast (q := .int (hi - lo)) (DE.bin (DE.ixT (DE.pe v2 rfl) (DE.bin DE.int (DE.pe v4 rfl) oa_add) rfl) (DE.ixT (DE.pe v2 rfl) (DE.pe v4 rfl) rfl) oa_sub) rfl) DA.nil)) ?_
        refine ⟨kd, d1, _, _, rfl, (get_app (mset hD)), ok1, by omega, (by omega), (B.le (show B 32 (hi - lo) from B.rng (a := 2000000000) (by omega) (by omega) (by decide)) (by decide)), ?_⟩
        intro r2 d2 p2 q2 ok2
        refine ⟨_, oa_add, ?_⟩
        obtain ⟨x, hx⟩ : ∃ x, x = lo + r2 := ⟨_, rfl⟩
        rw [← hx, set_app (mset hD), List.set_set]
        have x1 : lo ≤ x := by omega
        have x2 : x < hi := by omega
        obtain ⟨MM, hMM⟩ : ∃ MM : Mem, MM = μ.set kd (seMO d2) ++ ex := ⟨_, rfl⟩
        rw [← hMM]
        show DSs X _ [_, _, _, _, _, _, _, _] _ _
        refine CxF.setP (q := .obj MM.length) cx 6 rfl (by decide +kernel) (DE.listTO (xs := [PV.int l0, .int lo, .int r0, .int hi]) cd g_list T.z_list (DE.pe v2 rfl)) ?_
        show DSs X _ [_, _, _, _, _, _, _, _] _ _
        refine CxF.setP (q := .obj (MM ++ [MO.lst [PV.int l0, .int lo, .int r0, .int hi]]).length) cx 7 rfl (by decide +kernel) (DE.listTO (xs := [PV.int l0, .int lo, .int r0, .int hi]) cd g_list T.z_list (DE.pe v2 rfl)) ?_
        have k1 : (MM ++ [MO.lst [PV.int l0, .int lo, .int r0, .int hi]] ++ [MO.lst [PV.int l0, .int lo, .int r0, .int hi]])[MM.length]? = some (.lst [PV.int l0, .int lo, .int r0, .int hi]) := get_app app_last
        show DSs X _ [_, _, _, _, _, _, _, _] _ _
        refine DSs.cons (DS.setI (j := 3) (p := .int x) (DE.pe v5 rfl) (DE.pe v6 rfl) (DE.bin DE.int (DE.pe v4 rfl) oa_add) k1 rfl ?_)
        have e1 : (MM ++ [MO.lst [PV.int l0, .int lo, .int r0, .int hi]] ++ [MO.lst [PV.int l0, .int lo, .int r0, .int hi]]).set MM.length (.lst [PV.int l0, .int lo, .int r0, .int x]) = MM ++ [MO.lst [PV.int l0, .int lo, .int r0, .int x]] ++ [MO.lst [PV.int l0, .int lo, .int r0, .int hi]] := by rw [set_app app_last, app_setl]
        rw [show ([PV.int l0, .int lo, .int r0, .int hi]).set 3 (.int x) = [PV.int l0, .int lo, .int r0, .int x] from rfl, e1]
        have k2 : (MM ++ [MO.lst [PV.int l0, .int lo, .int r0, .int x]] ++ [MO.lst [PV.int l0, .int lo, .int r0, .int hi]])[(MM ++ [MO.lst [PV.int l0, .int lo, .int r0, .int hi]]).length]? = some (.lst [PV.int l0, .int lo, .int r0, .int hi]) := by
          rw [show (MM ++ [MO.lst [PV.int l0, .int lo, .int r0, .int hi]]).length = (MM ++ [MO.lst [PV.int l0, .int lo, .int r0, .int x]]).length by simp]
          exact app_last
        show DSs X _ [_, _, _, _, _, _, _, _] _ _
        refine DSs.cons (DS.setI (j := 1) (p := .int (x + 1)) (DE.bin (DE.pe v5 rfl) DE.int oa_add) (DE.pe v7 rfl) (DE.pe v4 rfl) k2 rfl ?_)
        have e2 : (MM ++ [MO.lst [PV.int l0, .int lo, .int r0, .int x]] ++ [MO.lst [PV.int l0, .int lo, .int r0, .int hi]]).set (MM ++ [MO.lst [PV.int l0, .int lo, .int r0, .int hi]]).length (.lst [PV.int l0, .int (x + 1), .int r0, .int hi]) = MM ++ [MO.lst [PV.int l0, .int lo, .int r0, .int x]] ++ [MO.lst [PV.int l0, .int (x + 1), .int r0, .int hi]] := by
          rw [show (MM ++ [MO.lst [PV.int l0, .int lo, .int r0, .int hi]]).length = (MM ++ [MO.lst [PV.int l0, .int lo, .int r0, .int x]]).length by simp, app_setl]
        rw [show ([PV.int l0, .int lo, .int r0, .int hi]).set 1 (.int (x + 1)) = [PV.int l0, .int (x + 1), .int r0, .int hi] from rfl, e2]
        have k3 : (MM ++ [MO.lst [PV.int l0, .int lo, .int r0, .int x]] ++ [MO.lst [PV.int l0, .int (x + 1), .int r0, .int hi]])[MM.length]? = some (.lst [PV.int l0, .int lo, .int r0, .int x]) := get_app app_last
        have k4 : (MM ++ [MO.lst [PV.int l0, .int lo, .int r0, .int x]] ++ [MO.lst [PV.int l0, .int (x + 1), .int r0, .int hi]])[(MM ++ [MO.lst [PV.int l0, .int lo, .int r0, .int hi]]).length]? = some (.lst [PV.int l0, .int (x + 1), .int r0, .int hi]) := by
          rw [show (MM ++ [MO.lst [PV.int l0, .int lo, .int r0, .int hi]]).length = (MM ++ [MO.lst [PV.int l0, .int lo, .int r0, .int x]]).length by simp]
          exact app_last
        have ebx : boxW (fun m => s + m) h t (l0, lo, r0, x) + boxW (fun m => s + m) h t (l0, (x + 1), r0, hi) = (boxW (fun m => s + m) h t (l0, lo, r0, hi)) := (part_W (part_y x1 x2) _).symm
        show DSs X _ [_, _, _, _, _, _, _, _] _ _
        refine DSs.ifc (kb := false) (DT.cast (DT.cmp (DE.bin (DE.call cd F_box_sum (by decide) g_box_sum (DA.cons (DE.pe v1 rfl) (DA.cons (DE.cast (q := bxP (l0, lo, r0, x)) (DE.callTy cd g_tuple T.z_tuple boot_tuple (DA.cons (DE.pe v6 rfl) DA.nil) (ca_tuple (asL_obj k3))) rfl) DA.nil)) ⟨s, h, t, (l0, lo, r0, x), rfl, bxO_mk (by omega) (by omega), bxS_mk (by omega) (by omega) (by omega) (by omega), bs, rfl, rfl⟩) (DE.call cd F_box_sum (by decide) g_box_sum (DA.cons (DE.pe v1 rfl) (DA.cons (DE.cast (q := bxP (l0, (x + 1), r0, hi)) (DE.callTy cd g_tuple T.z_tuple boot_tuple (DA.cons (DE.pe v7 rfl) DA.nil) (ca_tuple (asL_obj k4))) rfl) DA.nil)) ⟨s, h, t, (l0, (x + 1), r0, hi), rfl, bxO_mk (by omega) (by omega), bxS_mk (by omega) (by omega) (by omega) (by omega), bs, rfl, rfl⟩) oa_add) (DE.pe v3 rfl) oa_ne) (by rw [ebx, decide_eq_true rfl]; rfl)) (fun hc => by cases hc) (fun _ => DSs.nil ?_)
        refine DSs.nil (DSs.nil ⟨_, _, _, _, d2, ex ++ [MO.lst [PV.int l0, .int lo, .int r0, .int x]] ++ [MO.lst [PV.int l0, .int (x + 1), .int r0, .int hi]], rfl, by rw [hMM]; simp, ok2.mono (by omega)⟩)
      · refine DSs.ifc (kb := false) (DT.cast (DT.cmp (DE.ixT (DE.pe v2 rfl) (DE.pe v4 rfl) rfl) (DE.ixT (DE.pe v2 rfl) (DE.bin DE.int (DE.pe v4 rfl) oa_add) rfl) oa_lt) (decide_eq_false hlt)) (fun hc => by cases hc) (fun _ => DSs.nil ?_)
        exact DSs.nil ⟨_, _, _, _, d1, ex, rfl, rfl, ok1.mono (by omega)⟩
  · rintro ρ' m' ⟨a4, a5, a6, a7, d1, ex, rfl, hm', ok1⟩
    subst m'
    rw [rngL_length] at ok1
    show DSs X _ [_, _, _, _, _, _, _, _] _ _
    refine DSs.ret1 DE.bl ?_
    exact fin_dropS (hQ d1 (ok1.mono (by omega))) rfl rfl
theorem sc_law_ends : FnScope ["spiral", "box", "left", "low", "right", "high", "near", "far", "found", "ring", "way", "at", "place", "numbers"] ["spiral", "box"] (defScope s_law_ends) := ⟨rfl, rfl, rfl, by decide +kernel, rfl, by decide +kernel, by decide +kernel⟩
def A_law_ends : ASp := fun args μ Q _ => ∃ (s : Int) (h : Fin 4) (t : Bool) (b : Bx) (mi mx : Int), args = [spP s h t, bxP b] ∧ BxOk b ∧ BxS b ∧ MinOf (nuL h t b (widB b)) mi ∧ MaxOf (nuL h t b (widB b)) mx ∧ Q (ptP (s + mi, s + mx)) μ
theorem ok_law_ends (T : Txt K w mg CW) : FnA P w K mg base 3 "_law_ends" A_law_ends := by
  refine T.d_law_ends.ok sc_law_ends (by rintro _ _ _ _ ⟨_, _, _, _, _, _, rfl, _⟩; rfl) ?_
  rintro X _ μ Q E cx ⟨s, h, t, b, mi, mx, rfl, hb, hs, hmi, hmx, hQ⟩
  have cd := cx.toCxD
  have v0 : ∀ {pos : Pos}, PE X (.Name "spiral" pos) (tVar 0) := cx.var 0 rfl (by decide +kernel)
  have v1 : ∀ {pos : Pos}, PE X (.Name "box" pos) (tVar 1) := cx.var 1 rfl (by decide +kernel)
  have v2 : ∀ {pos : Pos}, PE X (.Name "left" pos) (tVar 2) := cx.var 2 rfl (by decide +kernel)
  have v3 : ∀ {pos : Pos}, PE X (.Name "low" pos) (tVar 3) := cx.var 3 rfl (by decide +kernel)
  have v4 : ∀ {pos : Pos}, PE X (.Name "right" pos) (tVar 4) := cx.var 4 rfl (by decide +kernel)
  have v5 : ∀ {pos : Pos}, PE X (.Name "high" pos) (tVar 5) := cx.var 5 rfl (by decide +kernel)
  have v6 : ∀ {pos : Pos}, PE X (.Name "near" pos) (tVar 6) := cx.var 6 rfl (by decide +kernel)
  have v7 : ∀ {pos : Pos}, PE X (.Name "far" pos) (tVar 7) := cx.var 7 rfl (by decide +kernel)
  have v8 : ∀ {pos : Pos}, PE X (.Name "found" pos) (tVar 8) := cx.var 8 rfl (by decide +kernel)
  have v9 : ∀ {pos : Pos}, PE X (.Name "ring" pos) (tVar 9) := cx.var 9 rfl (by decide +kernel)
  have v10 : ∀ {pos : Pos}, PE X (.Name "way" pos) (tVar 10) := cx.var 10 rfl (by decide +kernel)
  have v11 : ∀ {pos : Pos}, PE X (.Name "at" pos) (tVar 11) := cx.var 11 rfl (by decide +kernel)
  have v13 : ∀ {pos : Pos}, PE X (.Name "numbers" pos) (tVar 13) := cx.var 13 rfl (by decide +kernel)
  have g_max : (defScope s_law_ends).names.lookup ("max" : Str) = some .globalImplicit := by decide +kernel
  have g_min : (defScope s_law_ends).names.lookup ("min" : Str) = some .globalImplicit := by decide +kernel
  have F_law_more_at := ok_law_more_at (P := P) (w := w) (base := base) T
  obtain ⟨⟨n1, n2⟩, ⟨n3, n4⟩, ⟨n5, n6⟩, n7, n8⟩ := bx_near hb hs
  have len1 : ∀ i j : Nat, i < 2 → j < 2 → ∀ R : Int, (([nearB b, farB b].take i).flatMap (endR b) ++ ([R, 0 - R].take j).flatMap (endW b R)).length ≤ 48 := fun i j i2 j2 R => by
    have hi2 : i = 0 ∨ i = 1 := by omega
    have hj2 : j = 0 ∨ j = 1 := by omega
    have lw : ∀ w, (endW b R w).length = 12 := fun w => by unfold endW atX; simp
    have lr := endR_len b (nearB b)
    rcases hi2 with rfl | rfl <;> rcases hj2 with rfl | rfl <;> simp [lw, lr]
  show DSs X _ [_, _, _, _, _, _, _, _, _, _, _, _, _, _] _ _
  refine DSs.cons (DS.asg (DE.pe v1 rfl) (DG.tup cx.calm (DGs.cons (DG.name (cx.tgt 2 rfl (by decide +kernel))) (DGs.cons (DG.name (cx.tgt 3 rfl (by decide +kernel))) (DGs.cons (DG.name (cx.tgt 4 rfl (by decide +kernel))) (DGs.cons (DG.name (cx.tgt 5 rfl (by decide +kernel))) DGs.nil))))) ?_)
  show DSs X _ [_, _, _, _, _, _, _, _, _, _, _, _, _, _] _ _
  refine CxF.setP (q := .int (nearB b)) cx 6 rfl (by decide +kernel) (DE.callB cd g_max T.z_max boot_max (DA.cons (DE.int) (DA.cons (DE.pe v2 rfl) (DA.cons (DE.bin DE.int (DE.pe v4 rfl) oa_sub) (DA.cons (DE.pe v3 rfl) (DA.cons (DE.bin DE.int (DE.pe v5 rfl) oa_sub) (DA.nil)))))) (ca_max5 cx.calm)) ?_
  show DSs X _ [_, _, _, _, _, _, _, _, _, _, _, _, _, _] _ _
  refine CxF.setP (q := .int (farB b)) cx 7 rfl (by decide +kernel) (DE.callB cd g_max T.z_max boot_max (DA.cons (DE.bin DE.int (DE.pe v2 rfl) oa_sub) (DA.cons (DE.pe v4 rfl) (DA.cons (DE.bin DE.int (DE.pe v3 rfl) oa_sub) (DA.cons (DE.pe v5 rfl) (DA.nil))))) (ca_max4 cx.calm)) ?_
  show DSs X _ [_, _, _, _, _, _, _, _, _, _, _, _, _, _] _ _
  refine CxF.setP (q := .obj μ.length) cx 8 rfl (by decide +kernel) (DE.lstO DA.nil) ?_
  show DSs X _ [_, _, _, _, _, _, _, _, _, _, _, _, _, _] _ _
  refine DSs.cons (DS.for cx.po cx.calm (DI.tuple (xs := [nearB b, farB b].map PV.int) (DE.cast (q := .tup ([nearB b, farB b].map PV.int)) (DE.tup (DA.cons (DE.pe v6 rfl) (DA.cons (DE.pe v7 rfl) DA.nil))) rfl)) (fun i ρ' μ' => (∃ a9 a10 a11 : Option PV, ρ' = [some (spP s h t), some (bxP b), some (.int b.1), some (.int b.2.1), some (.int b.2.2.1), some (.int b.2.2.2), some (.int (nearB b)), some (.int (farB b)), some (.obj μ.length), a9, a10, a11, none, none]) ∧ μ' = μ ++ [.lst ((([nearB b, farB b].take i).flatMap (endR b)).map ptP)]) ⟨⟨_, _, _, rfl⟩, rfl⟩ (fun _ _ _ _ _ => trivial) ?_ ?_)
  · rintro i x ρ' m' hi ⟨⟨a9, a10, a11, rfl⟩, hm'⟩
    subst m'
    rw [List.getElem?_map] at hi
    obtain ⟨R, hR, rfl⟩ := Option.map_eq_some_iff.mp hi
    have i2 : i < 2 := (List.getElem?_eq_some_iff.mp hR).1
    refine ⟨_, DG.name (cx.tgt 9 rfl (by decide +kernel)), ?_⟩
    show DSs X _ [_, _, _, _, _, _, _, _, _, _, _, _, _, _] _ _
    refine DSs.cons (DS.for cx.po cx.calm (DI.tuple (xs := [R, 0 - R].map PV.int) (DE.cast (q := .tup ([R, 0 - R].map PV.int)) (DE.tup (DA.cons (DE.pe v9 rfl) (DA.cons (DE.bin DE.int (DE.pe v9 rfl) oa_sub) DA.nil))) rfl)) (fun j ρ' μ' => (∃ a10 a11 : Option PV, ρ' = [some (spP s h t), some (bxP b), some (.int b.1), some (.int b.2.1), some (.int b.2.2.1), some (.int b.2.2.2), some (.int (nearB b)), some (.int (farB b)), some (.obj μ.length), some (.int R), a10, a11, none, none]) ∧ μ' = μ ++ [.lst ((([nearB b, farB b].take i).flatMap (endR b) ++ ([R, 0 - R].take j).flatMap (endW b R)).map ptP)]) ⟨⟨_, _, rfl⟩, by rw [List.take_zero, List.flatMap_nil, List.append_nil]⟩ (fun _ _ _ _ _ => trivial) ?_ ?_)
    · rintro j x ρ' m' hj ⟨⟨a10, a11, rfl⟩, hm'⟩
      subst m'
      rw [List.getElem?_map] at hj
      obtain ⟨w', hw, rfl⟩ := Option.map_eq_some_iff.mp hj
      have j2 : j < 2 := (List.getElem?_eq_some_iff.mp hw).1
      have hl1 := len1 i j i2 j2 R
      obtain ⟨L1, hL1⟩ : ∃ L1, L1 = ([nearB b, farB b].take i).flatMap (endR b) ++ ([R, 0 - R].take j).flatMap (endW b R) := ⟨_, rfl⟩
      rw [← hL1] at hl1
      rw [← hL1]
      refine ⟨_, DG.name (cx.tgt 10 rfl (by decide +kernel)), ?_⟩
      show DSs X _ [_, _, _, _, _, _, _, _, _, _, _, _, _, _] _ _
      refine DSs.cons (DS.for cx.po cx.calm (DI.tuple (xs := (atX b.1 b.2.2.1 R).map PV.int) (DE.cast (q := .tup ((atX b.1 b.2.2.1 R).map PV.int)) (DE.tup (DA.cons (DE.callB cd g_max T.z_max boot_max (DA.cons (DE.pe v2 rfl) (DA.cons (DE.bin DE.int (DE.pe v9 rfl) oa_sub) (DA.nil))) (ca_max2 cx.calm)) (DA.cons (DE.callB cd g_min T.z_min boot_min (DA.cons (DE.pe v4 rfl) (DA.cons (DE.pe v9 rfl) DA.nil)) (ca_min2 cx.calm)) (DA.cons (DE.bin DE.int (DE.pe v9 rfl) oa_sub) (DA.cons (DE.bin DE.int (DE.pe v9 rfl) oa_sub) (DA.cons (DE.bin (DE.pe v9 rfl) DE.int oa_sub) (DA.cons (DE.pe v9 rfl) (DA.nil)))))))) rfl)) (fun m ρ' μ' => (∃ a11 : Option PV, ρ' = [some (spP s h t), some (bxP b), some (.int b.1), some (.int b.2.1), some (.int b.2.2.1), some (.int b.2.2.2), some (.int (nearB b)), some (.int (farB b)), some (.obj μ.length), some (.int R), some (.int w'), a11, none, none]) ∧ μ' = μ ++ [.lst ((L1 ++ ((atX b.1 b.2.2.1 R).take m).map (fun a => (a, w'))).map ptP)]) ⟨⟨_, rfl⟩, by rw [List.take_zero, List.map_nil, List.append_nil]⟩ (fun _ _ _ _ _ => trivial) ?_ ?_)
      · rintro m x ρ' m' hm ⟨⟨a11, rfl⟩, hm'⟩
        subst m'
        rw [List.getElem?_map] at hm
        obtain ⟨u, hu, rfl⟩ := Option.map_eq_some_iff.mp hm
        have m6 : m < 6 := (List.getElem?_eq_some_iff.mp hu).1
        refine ⟨_, DG.name (cx.tgt 11 rfl (by decide +kernel)), ?_⟩
        show DSs X _ [_, _, _, _, _, _, _, _, _, _, _, _, _, _] _ _
        have hln : ((L1 ++ ((atX b.1 b.2.2.1 R).take m).map (fun a => (a, w'))).map ptP).length < sizeLine := by
          rw [List.length_map, sizeLine_eq]
          rw [List.length_append, List.length_map, List.length_take]
          have h6 : (atX b.1 b.2.2.1 R).length = 6 := rfl
          omega
        refine DSs.cons (DS.expr (DE.append (p := ptP (u, w')) (DE.pe v8 rfl) (DE.tup (DA.cons (DE.pe v11 rfl) (DA.cons (DE.pe v10 rfl) DA.nil))) (asL_obj app_last) app_last hln) ?_)
        rw [app_setl, ← map_snoc, List.append_assoc (L1), ← map_up (F := fun a => (a, w')) hu]
        exact DSs.nil ⟨⟨_, rfl⟩, rfl⟩
      rintro ρ' m' ⟨⟨a11, rfl⟩, hm'⟩
      rw [List.length_map, List.take_length] at hm'
      subst m'
      show DSs X _ [_, _, _, _, _, _, _, _, _, _, _, _, _, _] _ _
      refine DSs.cons (DS.for cx.po cx.calm (DI.tuple (xs := (atX b.2.1 b.2.2.2 R).map PV.int) (DE.cast (q := .tup ((atX b.2.1 b.2.2.2 R).map PV.int)) (DE.tup (DA.cons (DE.callB cd g_max T.z_max boot_max (DA.cons (DE.pe v3 rfl) (DA.cons (DE.bin DE.int (DE.pe v9 rfl) oa_sub) (DA.nil))) (ca_max2 cx.calm)) (DA.cons (DE.callB cd g_min T.z_min boot_min (DA.cons (DE.pe v5 rfl) (DA.cons (DE.pe v9 rfl) DA.nil)) (ca_min2 cx.calm)) (DA.cons (DE.bin DE.int (DE.pe v9 rfl) oa_sub) (DA.cons (DE.bin DE.int (DE.pe v9 rfl) oa_sub) (DA.cons (DE.bin (DE.pe v9 rfl) DE.int oa_sub) (DA.cons (DE.pe v9 rfl) (DA.nil)))))))) rfl)) (fun m ρ' μ' => (∃ a11 : Option PV, ρ' = [some (spP s h t), some (bxP b), some (.int b.1), some (.int b.2.1), some (.int b.2.2.1), some (.int b.2.2.2), some (.int (nearB b)), some (.int (farB b)), some (.obj μ.length), some (.int R), some (.int w'), a11, none, none]) ∧ μ' = μ ++ [.lst ((L1 ++ (atX b.1 b.2.2.1 R).map (fun a => (a, w')) ++ ((atX b.2.1 b.2.2.2 R).take m).map (fun a => (w', a))).map ptP)]) ⟨⟨_, rfl⟩, by rw [List.take_zero, List.map_nil, List.append_nil]⟩ (fun _ _ _ _ _ => trivial) ?_ ?_)
      · rintro m x ρ' m' hm ⟨⟨a11, rfl⟩, hm'⟩
        subst m'
        rw [List.getElem?_map] at hm
        obtain ⟨u, hu, rfl⟩ := Option.map_eq_some_iff.mp hm
        have m6 : m < 6 := (List.getElem?_eq_some_iff.mp hu).1
        refine ⟨_, DG.name (cx.tgt 11 rfl (by decide +kernel)), ?_⟩
        show DSs X _ [_, _, _, _, _, _, _, _, _, _, _, _, _, _] _ _
        have hln : ((L1 ++ (atX b.1 b.2.2.1 R).map (fun a => (a, w')) ++ ((atX b.2.1 b.2.2.2 R).take m).map (fun a => (w', a))).map ptP).length < sizeLine := by
          rw [List.length_map, sizeLine_eq]
          rw [List.length_append, List.length_map, List.length_take]
          have h6 : (atX b.2.1 b.2.2.2 R).length = 6 := rfl
          have h7 : ((atX b.1 b.2.2.1 R).map (fun a => (a, w'))).length = 6 := rfl
          rw [List.length_append]
          omega
        refine DSs.cons (DS.expr (DE.append (p := ptP (w', u)) (DE.pe v8 rfl) (DE.tup (DA.cons (DE.pe v10 rfl) (DA.cons (DE.pe v11 rfl) DA.nil))) (asL_obj app_last) app_last hln) ?_)
        rw [app_setl, ← map_snoc, List.append_assoc (L1 ++ (atX b.1 b.2.2.1 R).map (fun a => (a, w'))), ← map_up (F := fun a => (w', a)) hu]
        exact DSs.nil ⟨⟨_, rfl⟩, rfl⟩
      rintro ρ' m' ⟨⟨a11, rfl⟩, hm'⟩
      rw [List.length_map, List.take_length] at hm'
      subst m'
      refine DSs.nil ⟨⟨_, _, rfl⟩, ?_⟩
      rw [flat_up hw, ← List.append_assoc, ← hL1, List.append_assoc L1]
      rfl
    · rintro ρ' m' ⟨⟨a10, a11, rfl⟩, hm'⟩
      rw [List.length_map, List.take_length, ← endR_two, ← flat_up hR] at hm'
      subst m'
      exact DSs.nil ⟨⟨_, _, _, rfl⟩, rfl⟩
  rintro ρ' m' ⟨⟨a9, a10, a11, rfl⟩, hm'⟩
  rw [List.length_map, List.take_length, ← endsP_two] at hm'
  subst m'
  have kE : (μ ++ [MO.lst ((endsP b).map ptP)])[μ.length]? = some (.lst ((endsP b).map ptP)) := app_last
  have lE := endsP_len b
  show DSs X _ [_, _, _, _, _, _, _, _, _, _, _, _, _, _] _ _
  refine CxF.setLcD 8 cx rfl (by decide +kernel) rfl (by decide +kernel) (DI.list (p := .obj μ.length) (xs := (endsP b).map ptP) (DE.pe v8 rfl) (asL_obj kE)) (by decide +kernel) (own := [("place", 12)]) (Tgt.name cx.nd 12 rfl (by decide +kernel)) (by decide) (pF b) (asL_obj kE) (by rw [List.length_map, lE, sizeLine_eq]; omega) ?_ ?_
  · intro q hq
    obtain ⟨p, hp, rfl⟩ := List.mem_map.mp hq
    refine ⟨_, rfl, ?_⟩
    cases hc : inBb b p with
    | true => exact .inr ⟨ptP p, if_pos hc, fun X' cx' => WTs.one (WT.of (DT.cast (DW.t (DW.and (DT.chain (DE.pe (cx'.var (x := "left") 2 rfl (by decide +kernel)) rfl) (DE.ixT (DE.pe (cx'.var (x := "place") 12 rfl (by decide +kernel)) rfl) DE.int rfl) oa_le (DE.pe (cx'.var (x := "right") 4 rfl (by decide +kernel)) rfl) oa_le) (fun _ => DW.and1 (DT.chain (DE.pe (cx'.var (x := "low") 3 rfl (by decide +kernel)) rfl) (DE.ixT (DE.pe (cx'.var (x := "place") 12 rfl (by decide +kernel)) rfl) DE.int rfl) oa_le (DE.pe (cx'.var (x := "high") 5 rfl (by decide +kernel)) rfl) oa_le)))) hc) ⟨rfl, rfl⟩), fun X' cx' => DE.pe (cx'.var (x := "place") 12 rfl (by decide +kernel)) rfl⟩
    | false => exact .inl ⟨if_neg (by rw [hc]; decide), fun X' cx' => WTs.one (WT.of (DT.cast (DW.t (DW.and (DT.chain (DE.pe (cx'.var (x := "left") 2 rfl (by decide +kernel)) rfl) (DE.ixT (DE.pe (cx'.var (x := "place") 12 rfl (by decide +kernel)) rfl) DE.int rfl) oa_le (DE.pe (cx'.var (x := "right") 4 rfl (by decide +kernel)) rfl) oa_le) (fun _ => DW.and1 (DT.chain (DE.pe (cx'.var (x := "low") 3 rfl (by decide +kernel)) rfl) (DE.ixT (DE.pe (cx'.var (x := "place") 12 rfl (by decide +kernel)) rfl) DE.int rfl) oa_le (DE.pe (cx'.var (x := "high") 5 rfl (by decide +kernel)) rfl) oa_le)))) hc) ⟨rfl, rfl⟩)⟩
  rw [pF_all]
  have lF : ((endsP b).filter (inBb b)).length ≤ 48 := by rw [← lE]; exact List.length_filter_le _ _
  show DSs X _ [_, _, _, _, _, _, _, _, _, _, _, _, _, _] _ _
  refine CxF.setLcD 13 cx rfl (by decide +kernel) rfl (by decide +kernel) (DI.list (p := .lst (((endsP b).filter (inBb b)).map ptP)) (xs := ((endsP b).filter (inBb b)).map ptP) (DE.pe v8 rfl) rfl) (by decide +kernel) (own := [("place", 12)]) (Tgt.name cx.nd 12 rfl (by decide +kernel)) (by decide) (nF s h t) rfl (by rw [List.length_map, sizeLine_eq]; omega) ?_ ?_
  · intro q hq
    obtain ⟨p, hp, rfl⟩ := List.mem_map.mp hq
    exact ⟨_, rfl, .inr ⟨.int (s + nuW h t p), rfl, fun X' cx' => WTs.nil ⟨rfl, rfl⟩, fun X' cx' => DE.bin (DE.ixT (DE.pe (cx'.var (x := "spiral") 0 rfl (by decide +kernel)) rfl) DE.int rfl) (DE.call cx' F_law_more_at (by decide) (by decide +kernel) (DA.cons (DE.pe (cx'.var (x := "spiral") 0 rfl (by decide +kernel)) rfl) (DA.cons (DE.pe (cx'.var (x := "place") 12 rfl (by decide +kernel)) rfl) DA.nil)) ⟨s, h, t, p, _, rfl, .inl rfl, in_PtS hs hb (List.mem_filter.mp hp).2, rfl, rfl⟩) oa_add⟩⟩
  rw [nF_all, show ((endsP b).filter (inBb b)).map (fun p => s + nuW h t p) = endsI s h t b from rfl]
  obtain ⟨mi1, mi2⟩ := ends_min (s := s) hb hmi
  obtain ⟨mx1, mx2⟩ := ends_max (s := s) hb hmx
  show DSs X _ [_, _, _, _, _, _, _, _, _, _, _, _, _, _] _ _
  refine DSs.ret1 (DE.tup (DA.cons (DE.callB cd g_min T.z_min boot_min (DA.cons (DE.pe v13 rfl) DA.nil) (ca_min (ns := endsI s h t b) (i := s + mi) cx.calm rfl mi1 mi2)) (DA.cons (DE.callB cd g_max T.z_max boot_max (DA.cons (DE.pe v13 rfl) DA.nil) (ca_max (ns := endsI s h t b) (i := s + mx) cx.calm rfl mx1 mx2)) DA.nil))) ?_
  exact ⟨_, μ, .drop _ _ _ Chg.refl rfl, hQ⟩
theorem sc_law : FnScope ["script", "cell", "seed", "spiral", "turn", "box"] ["script"] (defScope s_law) := ⟨rfl, rfl, rfl, by decide +kernel, rfl, by decide +kernel, by decide +kernel⟩
theorem run_law (T : Txt K w mg CW) : ∀ (X : Cx) (args : List PV) (μ : Mem) (Q : PV → Mem → Prop) (E : EX → Mem → Prop), CxF X P w K mg base ["script", "cell", "seed", "spiral", "turn", "box"] (defScope s_law) 5 → spLaw args μ Q E → DSs X (defBody s_law) (entry ["script", "cell", "seed", "spiral", "turn", "box"] args) μ (fnEnds μ Q) := by
  rintro X _ μ Q E cx ⟨ns, rfl, rfl, hl, hbits, hQ⟩
  have cd := cx.toCxD
  have v0 : ∀ {pos : Pos}, PE X (.Name "script" pos) (tVar 0) := cx.var 0 rfl (by decide +kernel)
  have v1 : ∀ {pos : Pos}, PE X (.Name "cell" pos) (tVar 1) := cx.var 1 rfl (by decide +kernel)
  have v2 : ∀ {pos : Pos}, PE X (.Name "seed" pos) (tVar 2) := cx.var 2 rfl (by decide +kernel)
  have v3 : ∀ {pos : Pos}, PE X (.Name "spiral" pos) (tVar 3) := cx.var 3 rfl (by decide +kernel)
  have v4 : ∀ {pos : Pos}, PE X (.Name "turn" pos) (tVar 4) := cx.var 4 rfl (by decide +kernel)
  have v5 : ∀ {pos : Pos}, PE X (.Name "box" pos) (tVar 5) := cx.var 5 rfl (by decide +kernel)
  have g_law_folded : (defScope s_law).names.lookup ("_law_folded" : Str) = some .globalImplicit := by decide +kernel
  have g_law_seed : (defScope s_law).names.lookup ("_law_seed" : Str) = some .globalImplicit := by decide +kernel
  have g_law_spiral : (defScope s_law).names.lookup ("_law_spiral" : Str) = some .globalImplicit := by decide +kernel
  have g_range : (defScope s_law).names.lookup ("range" : Str) = some .globalImplicit := by decide +kernel
  have g_law_box : (defScope s_law).names.lookup ("_law_box" : Str) = some .globalImplicit := by decide +kernel
  have g_law_thin : (defScope s_law).names.lookup ("_law_thin" : Str) = some .globalImplicit := by decide +kernel
  have g_law_shorn : (defScope s_law).names.lookup ("_law_shorn" : Str) = some .globalImplicit := by decide +kernel
  have g_law_split : (defScope s_law).names.lookup ("_law_split" : Str) = some .globalImplicit := by decide +kernel
  have g_box_ends : (defScope s_law).names.lookup ("box_ends" : Str) = some .globalImplicit := by decide +kernel
  have g_law_ends : (defScope s_law).names.lookup ("_law_ends" : Str) = some .globalImplicit := by decide +kernel
  have F_law_folded := ok_law_folded (P := P) (w := w) (base := base) T
  have F_law_seed := ok_law_seed (P := P) (w := w) (base := base) T
  have F_law_spiral := ok_law_spiral (P := P) (w := w) (base := base) T
  have F_law_box := ok_law_box (P := P) (w := w) (base := base) T
  have F_law_thin := ok_law_thin (P := P) (w := w) (base := base) T
  have F_law_shorn := ok_law_shorn (P := P) (w := w) (base := base) T
  have F_law_split := ok_law_split (P := P) (w := w) (base := base) T
  have F_box_ends := ok_box_ends (P := P) (w := w) (base := base) T
  have F_law_ends := ok_law_ends (P := P) (w := w) (base := base) T
  show DSs X _ [_, _, _, _, _, _] _ _
  refine DSs.cons (DS.forW cx.po cx.calm (DIW.list ?_))
  refine WE.bin ?_
  refine WE.of (DE.slice (DE.pe v0 rfl) DO.none (DO.some DE.int) (sa_lst rfl)) ?_
  refine WE.lst ?_
  refine WA.cons ?_
  refine WE.call cd F_law_folded (by decide) g_law_folded ?_
  refine WA.of (DA.cons (DE.pe v0 rfl) DA.nil) ?_
  refine ⟨ns, rfl, hl, ?_⟩
  intro f f0 f1
  refine WA.nil ?_
  refine ⟨le_line (Nat.le_of_ble_eq_true rfl), ?_⟩
  refine ⟨_, oa_cat rfl rfl (cells_len hl), ?_⟩
  refine ⟨_, rfl, ?_⟩
  refine ⟨fun _ ρ' _ => ∃ a1 a2 a3 a4 a5 : Option PV, ρ' = [some (.scr (ns.map PV.int)), a1, a2, a3, a4, a5], ⟨none, none, none, none, none, rfl⟩, fun _ _ _ _ _ => rfl, ?_, ?_⟩
  · rintro i p ρ' μ0 hi ⟨a1, a2, a3, a4, a5, rfl⟩
    obtain ⟨c, rfl, hc⟩ := cell_of hbits f0 f1 hi
    refine ⟨_, DG.name (cx.tgt 1 rfl (by decide +kernel)), ?_⟩
    show DSs X _ [_, _, _, _, _, _] _ _
    refine cx.setGW 2 rfl (by decide +kernel) ?_
    refine WE.call cd F_law_seed (by decide) g_law_seed ?_
    refine WA.of (DA.cons (DE.pe v1 rfl) DA.nil) ?_
    refine ⟨c, rfl, hc, ?_⟩
    intro d0 ok0
    have k0 : (μ0 ++ [seMO d0])[μ0.length]? = some (seMO d0) := app_last
    show DSs X _ [_, _, _, _, _, _] _ _
    refine cx.setGW 3 rfl (by decide +kernel) ?_
    refine WE.call cd F_law_spiral (by decide) g_law_spiral ?_
    refine WA.of (DA.cons (DE.pe v2 rfl) DA.nil) ?_
    refine ⟨μ0.length, d0, _, rfl, k0, ok0, by omega, ?_⟩
    intro s h t d1 ls us ok1
    rw [app_setl]
    have bs : B 70 s := B.rng (a := 1000000000000000000) (by omega) (by omega) (by decide +kernel)
    show DSs X _ [_, _, _, _, _, _] _ _
    refine DSs.cons (DS.for cx.po cx.calm (DI.range1 (cx.gl _ g_range) (by rw [cx.emg]; exact T.z_range) DE.int (by decide) (by decide)) (fun j ρ' μ' => ∃ (a4 a5 : Option PV) (d' : DeckC), ρ' = [some (.scr (ns.map PV.int)), some (.int c), some (.obj μ0.length), some (spP s h t), a4, a5] ∧ μ' = μ0 ++ [seMO d'] ∧ ScOk d' (100 + 200 * ((j : Nat) : Int))) ⟨_, _, d1, rfl, rfl, ok1.mono (by omega)⟩ (fun _ _ _ _ _ => trivial) ?_ ?_)
    · rintro j q ρ' μ' hj ⟨a4, a5, d2, rfl, rfl, ok2⟩
      have hj3 : j < 3 := by simpa [rngL_length] using (List.getElem?_eq_some_iff.mp hj).1
      have k2 : (μ0 ++ [seMO d2])[μ0.length]? = some (seMO d2) := app_last
      refine ⟨_, DG.name (cx.tgt 4 rfl (by decide +kernel)), ?_⟩
      show DSs X _ [_, _, _, _, _, _] _ _
      refine cx.setGW 5 rfl (by decide +kernel) ?_
      refine WE.call cd F_law_box (by decide) g_law_box ?_
      refine WA.of (DA.cons (DE.pe v2 rfl) DA.nil) ?_
      refine ⟨μ0.length, d2, _, rfl, k2, ok2, by omega, ?_⟩
      intro b d3 hb hs ok3
      rw [app_setl]
      have k3 : (μ0 ++ [seMO d3])[μ0.length]? = some (seMO d3) := app_last
      obtain ⟨mi, hmi⟩ := box_least (h := h) (t := t) hb
      obtain ⟨mx, hmx⟩ := box_most (h := h) (t := t) hb
      show DSs X _ [_, _, _, _, _, _] _ _
      refine DSs.ifcW (WW.t (WW.or (WT.not (WT.val ?_))))
      refine WE.call cd F_law_thin (by decide) g_law_thin ?_
      refine WA.of (DA.cons (DE.pe v2 rfl) (DA.cons (DE.pe v3 rfl) DA.nil)) ?_
      refine ⟨μ0.length, d3, _, s, h, t, rfl, k3, ok3, by omega, bs, ?_⟩
      intro d4 ok4
      rw [app_setl]
      have k4 : (μ0 ++ [seMO d4])[μ0.length]? = some (seMO d4) := app_last
      refine ⟨_, rfl, ?_⟩
      show WW X _ _ _ _
      refine WW.or1 (WT.not (WT.val ?_))
      refine WE.call cd F_law_shorn (by decide) g_law_shorn ?_
      refine WA.of (DA.cons (DE.pe v2 rfl) (DA.cons (DE.pe v3 rfl) (DA.cons (DE.pe v5 rfl) DA.nil))) ?_
      refine ⟨μ0.length, d4, _, s, h, t, b, rfl, k4, ok4, by omega, hb, hs, bs, ?_⟩
      intro d5 ok5
      rw [app_setl]
      have k5 : (μ0 ++ [seMO d5])[μ0.length]? = some (seMO d5) := app_last
      refine ⟨_, rfl, ?_⟩
      show DSs X _ _ _ _
      refine DSs.nil ?_
      show DSs X _ [_, _, _, _, _, _] _ _
      refine DSs.ifcW (WT.not (WT.val ?_))
      refine WE.call cd F_law_split (by decide) g_law_split ?_
      refine WA.of (DA.cons (DE.pe v2 rfl) (DA.cons (DE.pe v3 rfl) (DA.cons (DE.pe v5 rfl) DA.nil))) ?_
      refine ⟨μ0.length, d5, _, s, h, t, b, rfl, k5, ok5, by omega, hb, hs, bs, ?_⟩
      intro d6 ok6
      rw [app_setl]
      refine ⟨_, rfl, ?_⟩
      show DSs X _ _ _ _
      refine DSs.nil ?_
      show DSs X _ [_, _, _, _, _, _] _ _
      refine DSs.ifc (kb := false) (DT.cast (DT.cmp (DE.call cd F_box_ends (by decide) g_box_ends (DA.cons (DE.pe v3 rfl) (DA.cons (DE.pe v5 rfl) DA.nil)) ⟨s, h, t, b, mi, mx, rfl, hb, hs, hmi, hmx, rfl, rfl⟩) (DE.call cd F_law_ends (by decide) g_law_ends (DA.cons (DE.pe v3 rfl) (DA.cons (DE.pe v5 rfl) DA.nil)) ⟨s, h, t, b, mi, mx, rfl, hb, hs, hmi, hmx, rfl, rfl⟩) (oa_nePt cd.room.units _)) (by simp)) (fun hc => by cases hc) (fun _ => DSs.nil ?_)
      exact DSs.nil ⟨_, _, d6, rfl, rfl, ok6.mono (by omega)⟩
    · rintro ρ' μ' ⟨a4, a5, d2, rfl, rfl, ok2⟩
      exact DSs.nil ⟨_, _, _, _, _, rfl⟩
  · rintro ρ' μ0 ⟨a1, a2, a3, a4, a5, rfl⟩
    show DSs X _ [_, _, _, _, _, _] _ _
    refine DSs.ret1 DE.bl ?_
    exact ⟨.bl true, [], .drop _ [] μ0 Chg.refl rfl, hQ⟩
end
theorem all_mk {l : PySem.W.OpenLaw} {w : World} {K : PySem.W.Frag} {h : Heap} {mg : Str → Option Value} {fa : Addr} (X : K.In h) (G : h.Ns mainGlobals mg) (hfa : mg "law" = some (.ref fa))
    {od0 an0 : Option Addr} {sl0 : Array (Option Value)} {oc0 kV0 dc0 pm0 cd0 ct0 : Value} {f0 : Addr}
    {od1 an1 : Option Addr} {sl1 : Array (Option Value)} {oc1 kV1 dc1 pm1 cd1 ct1 : Value} {f1 : Addr}
    {od2 an2 : Option Addr} {sl2 : Array (Option Value)} {oc2 kV2 dc2 pm2 cd2 ct2 : Value} {f2 : Addr}
    {od3 an3 : Option Addr} {sl3 : Array (Option Value)} {oc3 kV3 dc3 pm3 cd3 ct3 : Value} {f3 : Addr}
    {od4 an4 : Option Addr} {sl4 : Array (Option Value)} {oc4 kV4 dc4 pm4 cd4 ct4 : Value} {f4 : Addr}
    {od5 an5 : Option Addr} {sl5 : Array (Option Value)} {oc5 kV5 dc5 pm5 cd5 ct5 : Value} {f5 : Addr}
    {od6 an6 : Option Addr} {sl6 : Array (Option Value)} {oc6 kV6 dc6 pm6 cd6 ct6 : Value} {f6 : Addr}
    {od7 an7 : Option Addr} {sl7 : Array (Option Value)} {oc7 kV7 dc7 pm7 cd7 ct7 : Value} {f7 : Addr}
    {od8 an8 : Option Addr} {sl8 : Array (Option Value)} {oc8 kV8 dc8 pm8 cd8 ct8 : Value} {f8 : Addr}
    {od9 an9 : Option Addr} {sl9 : Array (Option Value)} {oc9 kV9 dc9 pm9 cd9 ct9 : Value} {f9 : Addr}
    {od10 an10 : Option Addr} {sl10 : Array (Option Value)} {oc10 kV10 dc10 pm10 cd10 ct10 : Value} {f10 : Addr}
    {od11 an11 : Option Addr} {sl11 : Array (Option Value)} {oc11 kV11 dc11 pm11 cd11 ct11 : Value} {f11 : Addr}
    {od12 an12 : Option Addr} {sl12 : Array (Option Value)} {oc12 kV12 dc12 pm12 cd12 ct12 : Value} {f12 : Addr}
    {od13 an13 : Option Addr} {sl13 : Array (Option Value)} {oc13 kV13 dc13 pm13 cd13 ct13 : Value} {f13 : Addr}
    {od14 an14 : Option Addr} {sl14 : Array (Option Value)} {oc14 kV14 dc14 pm14 cd14 ct14 : Value} {f14 : Addr}
    {od15 an15 : Option Addr} {sl15 : Array (Option Value)} {oc15 kV15 dc15 pm15 cd15 ct15 : Value} {f15 : Addr}
    {od16 an16 : Option Addr} {sl16 : Array (Option Value)} {oc16 kV16 dc16 pm16 cd16 ct16 : Value} {f16 : Addr}
    {od17 an17 : Option Addr} {sl17 : Array (Option Value)} {oc17 kV17 dc17 pm17 cd17 ct17 : Value} {f17 : Addr}
    {od18 an18 : Option Addr} {sl18 : Array (Option Value)} {oc18 kV18 dc18 pm18 cd18 ct18 : Value} {f18 : Addr}
    {od19 an19 : Option Addr} {sl19 : Array (Option Value)} {oc19 kV19 dc19 pm19 cd19 ct19 : Value} {f19 : Addr}
    {od20 an20 : Option Addr} {sl20 : Array (Option Value)} {oc20 kV20 dc20 pm20 cd20 ct20 : Value} {f20 : Addr}
    {od21 an21 : Option Addr} {sl21 : Array (Option Value)} {oc21 kV21 dc21 pm21 cd21 ct21 : Value} {f21 : Addr}
    {od22 an22 : Option Addr} {sl22 : Array (Option Value)} {oc22 kV22 dc22 pm22 cd22 ct22 : Value} {f22 : Addr}
    {od23 an23 : Option Addr} {sl23 : Array (Option Value)} {oc23 kV23 dc23 pm23 cd23 ct23 : Value} {f23 : Addr}
    {od24 an24 : Option Addr} {sl24 : Array (Option Value)} {oc24 kV24 dc24 pm24 cd24 ct24 : Value} {f24 : Addr}
    {od25 an25 : Option Addr} {sl25 : Array (Option Value)} {oc25 kV25 dc25 pm25 cd25 ct25 : Value} {f25 : Addr}
    {od26 an26 : Option Addr} {sl26 : Array (Option Value)} {oc26 kV26 dc26 pm26 cd26 ct26 : Value} {f26 : Addr}
    {od27 an27 : Option Addr} {sl27 : Array (Option Value)} {oc27 kV27 dc27 pm27 cd27 ct27 : Value} {f27 : Addr}
    {od28 an28 : Option Addr} {sl28 : Array (Option Value)} {oc28 kV28 dc28 pm28 cd28 ct28 : Value} {f28 : Addr}
    {od29 an29 : Option Addr} {sl29 : Array (Option Value)} {oc29 kV29 dc29 pm29 cd29 ct29 : Value} {f29 : Addr}
    {od30 an30 : Option Addr} {sl30 : Array (Option Value)} {oc30 kV30 dc30 pm30 cd30 ct30 : Value} {f30 : Addr}
    {od31 an31 : Option Addr} {sl31 : Array (Option Value)} {oc31 kV31 dc31 pm31 cd31 ct31 : Value} {f31 : Addr}
    {t_HEADINGS : Tok}
    (a0 : PySem.W.nsIn K mainGlobals "headings_of" = some (some (.ref f0)))
    (l0 : K.lookup f0 = some ⟨oc0, od0, .func (PySem.W.fnOf "headings_of" "headings_of" (defArgs s_headings_of) (defBody s_headings_of) (defScope s_headings_of) .none kV0 dc0 pm0 an0 cd0 ct0), sl0⟩)
    (c0 : PySem.W.codeIn K cd0 "headings_of" = true)
    (k0 : PySem.W.keepIn K (.ref f0) = true)
    (a1 : PySem.W.nsIn K mainGlobals "reach" = some (some (.ref f1)))
    (l1 : K.lookup f1 = some ⟨oc1, od1, .func (PySem.W.fnOf "reach" "reach" (defArgs s_reach) (defBody s_reach) (defScope s_reach) .none kV1 dc1 pm1 an1 cd1 ct1), sl1⟩)
    (c1 : PySem.W.codeIn K cd1 "reach" = true)
    (k1 : PySem.W.keepIn K (.ref f1) = true)
    (a2 : PySem.W.nsIn K mainGlobals "more_at" = some (some (.ref f2)))
    (l2 : K.lookup f2 = some ⟨oc2, od2, .func (PySem.W.fnOf "more_at" "more_at" (defArgs s_more_at) (defBody s_more_at) (defScope s_more_at) .none kV2 dc2 pm2 an2 cd2 ct2), sl2⟩)
    (c2 : PySem.W.codeIn K cd2 "more_at" = true)
    (k2 : PySem.W.keepIn K (.ref f2) = true)
    (a3 : PySem.W.nsIn K mainGlobals "need_box" = some (some (.ref f3)))
    (l3 : K.lookup f3 = some ⟨oc3, od3, .func (PySem.W.fnOf "need_box" "need_box" (defArgs s_need_box) (defBody s_need_box) (defScope s_need_box) .none kV3 dc3 pm3 an3 cd3 ct3), sl3⟩)
    (c3 : PySem.W.codeIn K cd3 "need_box" = true)
    (k3 : PySem.W.keepIn K (.ref f3) = true)
    (a4 : PySem.W.nsIn K mainGlobals "has_middle" = some (some (.ref f4)))
    (l4 : K.lookup f4 = some ⟨oc4, od4, .func (PySem.W.fnOf "has_middle" "has_middle" (defArgs s_has_middle) (defBody s_has_middle) (defScope s_has_middle) .none kV4 dc4 pm4 an4 cd4 ct4), sl4⟩)
    (c4 : PySem.W.codeIn K cd4 "has_middle" = true)
    (k4 : PySem.W.keepIn K (.ref f4) = true)
    (a5 : PySem.W.nsIn K mainGlobals "sides_in" = some (some (.ref f5)))
    (l5 : K.lookup f5 = some ⟨oc5, od5, .func (PySem.W.fnOf "sides_in" "sides_in" (defArgs s_sides_in) (defBody s_sides_in) (defScope s_sides_in) .none kV5 dc5 pm5 an5 cd5 ct5), sl5⟩)
    (c5 : PySem.W.codeIn K cd5 "sides_in" = true)
    (k5 : PySem.W.keepIn K (.ref f5) = true)
    (a6 : PySem.W.nsIn K mainGlobals "aside" = some (some (.ref f6)))
    (l6 : K.lookup f6 = some ⟨oc6, od6, .func (PySem.W.fnOf "aside" "aside" (defArgs s_aside) (defBody s_aside) (defScope s_aside) .none kV6 dc6 pm6 an6 cd6 ct6), sl6⟩)
    (c6 : PySem.W.codeIn K cd6 "aside" = true)
    (k6 : PySem.W.keepIn K (.ref f6) = true)
    (a7 : PySem.W.nsIn K mainGlobals "summed" = some (some (.ref f7)))
    (l7 : K.lookup f7 = some ⟨oc7, od7, .func (PySem.W.fnOf "summed" "summed" (defArgs s_summed) (defBody s_summed) (defScope s_summed) .none kV7 dc7 pm7 an7 cd7 ct7), sl7⟩)
    (c7 : PySem.W.codeIn K cd7 "summed" = true)
    (k7 : PySem.W.keepIn K (.ref f7) = true)
    (a8 : PySem.W.nsIn K mainGlobals "pieces_of" = some (some (.ref f8)))
    (l8 : K.lookup f8 = some ⟨oc8, od8, .func (PySem.W.fnOf "pieces_of" "pieces_of" (defArgs s_pieces_of) (defBody s_pieces_of) (defScope s_pieces_of) .none kV8 dc8 pm8 an8 cd8 ct8), sl8⟩)
    (c8 : PySem.W.codeIn K cd8 "pieces_of" = true)
    (k8 : PySem.W.keepIn K (.ref f8) = true)
    (a9 : PySem.W.nsIn K mainGlobals "box_sum" = some (some (.ref f9)))
    (l9 : K.lookup f9 = some ⟨oc9, od9, .func (PySem.W.fnOf "box_sum" "box_sum" (defArgs s_box_sum) (defBody s_box_sum) (defScope s_box_sum) .none kV9 dc9 pm9 an9 cd9 ct9), sl9⟩)
    (c9 : PySem.W.codeIn K cd9 "box_sum" = true)
    (k9 : PySem.W.keepIn K (.ref f9) = true)
    (a10 : PySem.W.nsIn K mainGlobals "box_ends" = some (some (.ref f10)))
    (l10 : K.lookup f10 = some ⟨oc10, od10, .func (PySem.W.fnOf "box_ends" "box_ends" (defArgs s_box_ends) (defBody s_box_ends) (defScope s_box_ends) .none kV10 dc10 pm10 an10 cd10 ct10), sl10⟩)
    (c10 : PySem.W.codeIn K cd10 "box_ends" = true)
    (k10 : PySem.W.keepIn K (.ref f10) = true)
    (a11 : PySem.W.nsIn K mainGlobals "_law_folded" = some (some (.ref f11)))
    (l11 : K.lookup f11 = some ⟨oc11, od11, .func (PySem.W.fnOf "_law_folded" "_law_folded" (defArgs s_law_folded) (defBody s_law_folded) (defScope s_law_folded) .none kV11 dc11 pm11 an11 cd11 ct11), sl11⟩)
    (c11 : PySem.W.codeIn K cd11 "_law_folded" = true)
    (k11 : PySem.W.keepIn K (.ref f11) = true)
    (a12 : PySem.W.nsIn K mainGlobals "_law_seed" = some (some (.ref f12)))
    (l12 : K.lookup f12 = some ⟨oc12, od12, .func (PySem.W.fnOf "_law_seed" "_law_seed" (defArgs s_law_seed) (defBody s_law_seed) (defScope s_law_seed) .none kV12 dc12 pm12 an12 cd12 ct12), sl12⟩)
    (c12 : PySem.W.codeIn K cd12 "_law_seed" = true)
    (k12 : PySem.W.keepIn K (.ref f12) = true)
    (a13 : PySem.W.nsIn K mainGlobals "_law_draw" = some (some (.ref f13)))
    (l13 : K.lookup f13 = some ⟨oc13, od13, .func (PySem.W.fnOf "_law_draw" "_law_draw" (defArgs s_law_draw) (defBody s_law_draw) (defScope s_law_draw) .none kV13 dc13 pm13 an13 cd13 ct13), sl13⟩)
    (c13 : PySem.W.codeIn K cd13 "_law_draw" = true)
    (k13 : PySem.W.keepIn K (.ref f13) = true)
    (a14 : PySem.W.nsIn K mainGlobals "_law_spiral" = some (some (.ref f14)))
    (l14 : K.lookup f14 = some ⟨oc14, od14, .func (PySem.W.fnOf "_law_spiral" "_law_spiral" (defArgs s_law_spiral) (defBody s_law_spiral) (defScope s_law_spiral) .none kV14 dc14 pm14 an14 cd14 ct14), sl14⟩)
    (c14 : PySem.W.codeIn K cd14 "_law_spiral" = true)
    (k14 : PySem.W.keepIn K (.ref f14) = true)
    (a15 : PySem.W.nsIn K mainGlobals "_law_headings" = some (some (.ref f15)))
    (l15 : K.lookup f15 = some ⟨oc15, od15, .func (PySem.W.fnOf "_law_headings" "_law_headings" (defArgs s_law_headings) (defBody s_law_headings) (defScope s_law_headings) .none kV15 dc15 pm15 an15 cd15 ct15), sl15⟩)
    (c15 : PySem.W.codeIn K cd15 "_law_headings" = true)
    (k15 : PySem.W.keepIn K (.ref f15) = true)
    (a16 : PySem.W.nsIn K mainGlobals "_law_by" = some (some (.ref f16)))
    (l16 : K.lookup f16 = some ⟨oc16, od16, .func (PySem.W.fnOf "_law_by" "_law_by" (defArgs s_law_by) (defBody s_law_by) (defScope s_law_by) .none kV16 dc16 pm16 an16 cd16 ct16), sl16⟩)
    (c16 : PySem.W.codeIn K cd16 "_law_by" = true)
    (k16 : PySem.W.keepIn K (.ref f16) = true)
    (a17 : PySem.W.nsIn K mainGlobals "_law_more_at" = some (some (.ref f17)))
    (l17 : K.lookup f17 = some ⟨oc17, od17, .func (PySem.W.fnOf "_law_more_at" "_law_more_at" (defArgs s_law_more_at) (defBody s_law_more_at) (defScope s_law_more_at) .none kV17 dc17 pm17 an17 cd17 ct17), sl17⟩)
    (c17 : PySem.W.codeIn K cd17 "_law_more_at" = true)
    (k17 : PySem.W.keepIn K (.ref f17) = true)
    (a18 : PySem.W.nsIn K mainGlobals "_law_far" = some (some (.ref f18)))
    (l18 : K.lookup f18 = some ⟨oc18, od18, .func (PySem.W.fnOf "_law_far" "_law_far" (defArgs s_law_far) (defBody s_law_far) (defScope s_law_far) .none kV18 dc18 pm18 an18 cd18 ct18), sl18⟩)
    (c18 : PySem.W.codeIn K cd18 "_law_far" = true)
    (k18 : PySem.W.keepIn K (.ref f18) = true)
    (a19 : PySem.W.nsIn K mainGlobals "_law_corner" = some (some (.ref f19)))
    (l19 : K.lookup f19 = some ⟨oc19, od19, .func (PySem.W.fnOf "_law_corner" "_law_corner" (defArgs s_law_corner) (defBody s_law_corner) (defScope s_law_corner) .none kV19 dc19 pm19 an19 cd19 ct19), sl19⟩)
    (c19 : PySem.W.codeIn K cd19 "_law_corner" = true)
    (k19 : PySem.W.keepIn K (.ref f19) = true)
    (a20 : PySem.W.nsIn K mainGlobals "_law_cut" = some (some (.ref f20)))
    (l20 : K.lookup f20 = some ⟨oc20, od20, .func (PySem.W.fnOf "_law_cut" "_law_cut" (defArgs s_law_cut) (defBody s_law_cut) (defScope s_law_cut) .none kV20 dc20 pm20 an20 cd20 ct20), sl20⟩)
    (c20 : PySem.W.codeIn K cd20 "_law_cut" = true)
    (k20 : PySem.W.keepIn K (.ref f20) = true)
    (a21 : PySem.W.nsIn K mainGlobals "_law_box" = some (some (.ref f21)))
    (l21 : K.lookup f21 = some ⟨oc21, od21, .func (PySem.W.fnOf "_law_box" "_law_box" (defArgs s_law_box) (defBody s_law_box) (defScope s_law_box) .none kV21 dc21 pm21 an21 cd21 ct21), sl21⟩)
    (c21 : PySem.W.codeIn K cd21 "_law_box" = true)
    (k21 : PySem.W.keepIn K (.ref f21) = true)
    (a22 : PySem.W.nsIn K mainGlobals "_law_place" = some (some (.ref f22)))
    (l22 : K.lookup f22 = some ⟨oc22, od22, .func (PySem.W.fnOf "_law_place" "_law_place" (defArgs s_law_place) (defBody s_law_place) (defScope s_law_place) .none kV22 dc22 pm22 an22 cd22 ct22), sl22⟩)
    (c22 : PySem.W.codeIn K cd22 "_law_place" = true)
    (k22 : PySem.W.keepIn K (.ref f22) = true)
    (a23 : PySem.W.nsIn K mainGlobals "_law_side_at" = some (some (.ref f23)))
    (l23 : K.lookup f23 = some ⟨oc23, od23, .func (PySem.W.fnOf "_law_side_at" "_law_side_at" (defArgs s_law_side_at) (defBody s_law_side_at) (defScope s_law_side_at) .none kV23 dc23 pm23 an23 cd23 ct23), sl23⟩)
    (c23 : PySem.W.codeIn K cd23 "_law_side_at" = true)
    (k23 : PySem.W.keepIn K (.ref f23) = true)
    (a24 : PySem.W.nsIn K mainGlobals "_law_stretch" = some (some (.ref f24)))
    (l24 : K.lookup f24 = some ⟨oc24, od24, .func (PySem.W.fnOf "_law_stretch" "_law_stretch" (defArgs s_law_stretch) (defBody s_law_stretch) (defScope s_law_stretch) .none kV24 dc24 pm24 an24 cd24 ct24), sl24⟩)
    (c24 : PySem.W.codeIn K cd24 "_law_stretch" = true)
    (k24 : PySem.W.keepIn K (.ref f24) = true)
    (a25 : PySem.W.nsIn K mainGlobals "_law_side" = some (some (.ref f25)))
    (l25 : K.lookup f25 = some ⟨oc25, od25, .func (PySem.W.fnOf "_law_side" "_law_side" (defArgs s_law_side) (defBody s_law_side) (defScope s_law_side) .none kV25 dc25 pm25 an25 cd25 ct25), sl25⟩)
    (c25 : PySem.W.codeIn K cd25 "_law_side" = true)
    (k25 : PySem.W.keepIn K (.ref f25) = true)
    (a26 : PySem.W.nsIn K mainGlobals "_law_row" = some (some (.ref f26)))
    (l26 : K.lookup f26 = some ⟨oc26, od26, .func (PySem.W.fnOf "_law_row" "_law_row" (defArgs s_law_row) (defBody s_law_row) (defScope s_law_row) .none kV26 dc26 pm26 an26 cd26 ct26), sl26⟩)
    (c26 : PySem.W.codeIn K cd26 "_law_row" = true)
    (k26 : PySem.W.keepIn K (.ref f26) = true)
    (a27 : PySem.W.nsIn K mainGlobals "_law_thin" = some (some (.ref f27)))
    (l27 : K.lookup f27 = some ⟨oc27, od27, .func (PySem.W.fnOf "_law_thin" "_law_thin" (defArgs s_law_thin) (defBody s_law_thin) (defScope s_law_thin) .none kV27 dc27 pm27 an27 cd27 ct27), sl27⟩)
    (c27 : PySem.W.codeIn K cd27 "_law_thin" = true)
    (k27 : PySem.W.keepIn K (.ref f27) = true)
    (a28 : PySem.W.nsIn K mainGlobals "_law_shorn" = some (some (.ref f28)))
    (l28 : K.lookup f28 = some ⟨oc28, od28, .func (PySem.W.fnOf "_law_shorn" "_law_shorn" (defArgs s_law_shorn) (defBody s_law_shorn) (defScope s_law_shorn) .none kV28 dc28 pm28 an28 cd28 ct28), sl28⟩)
    (c28 : PySem.W.codeIn K cd28 "_law_shorn" = true)
    (k28 : PySem.W.keepIn K (.ref f28) = true)
    (a29 : PySem.W.nsIn K mainGlobals "_law_split" = some (some (.ref f29)))
    (l29 : K.lookup f29 = some ⟨oc29, od29, .func (PySem.W.fnOf "_law_split" "_law_split" (defArgs s_law_split) (defBody s_law_split) (defScope s_law_split) .none kV29 dc29 pm29 an29 cd29 ct29), sl29⟩)
    (c29 : PySem.W.codeIn K cd29 "_law_split" = true)
    (k29 : PySem.W.keepIn K (.ref f29) = true)
    (a30 : PySem.W.nsIn K mainGlobals "_law_ends" = some (some (.ref f30)))
    (l30 : K.lookup f30 = some ⟨oc30, od30, .func (PySem.W.fnOf "_law_ends" "_law_ends" (defArgs s_law_ends) (defBody s_law_ends) (defScope s_law_ends) .none kV30 dc30 pm30 an30 cd30 ct30), sl30⟩)
    (c30 : PySem.W.codeIn K cd30 "_law_ends" = true)
    (k30 : PySem.W.keepIn K (.ref f30) = true)
    (a31 : PySem.W.nsIn K mainGlobals "law" = some (some (.ref f31)))
    (l31 : K.lookup f31 = some ⟨oc31, od31, .func (PySem.W.fnOf "law" "law" (defArgs s_law) (defBody s_law) (defScope s_law) .none kV31 dc31 pm31 an31 cd31 ct31), sl31⟩)
    (c31 : PySem.W.codeIn K cd31 "law" = true)
    (k31 : PySem.W.keepIn K (.ref f31) = true)
    (y_HEADINGS : PySem.W.nsIn K mainGlobals "HEADINGS" = some (some (.str "enws" t_HEADINGS)))
    (z_range : PySem.W.nsIn K mainGlobals "range" = some none)
    (z_max : PySem.W.nsIn K mainGlobals "max" = some none)
    (z_min : PySem.W.nsIn K mainGlobals "min" = some none)
    (z_len : PySem.W.nsIn K mainGlobals "len" = some none)
    (z_int : PySem.W.nsIn K mainGlobals "int" = some none)
    (z_list : PySem.W.nsIn K mainGlobals "list" = some none)
    (z_zip : PySem.W.nsIn K mainGlobals "zip" = some none)
    (z_sorted : PySem.W.nsIn K mainGlobals "sorted" = some none)
    (z_abs : PySem.W.nsIn K mainGlobals "abs" = some none)
    (z_set : PySem.W.nsIn K mainGlobals "set" = some none)
    (z_tuple : PySem.W.nsIn K mainGlobals "tuple" = some none)
    {aM : Addr} {nM : Nat} {p_0 p_1 p_2 p_3 : Tok}
    (m0 : PySem.W.nsIn K mainGlobals "MORE" = some (some (.ref aM)))
    (m1 : K.lookup aM = some ⟨.type "tuple", none, .seq #[.int (-3) p_0, .int (-1) p_1, .int 1 p_2, .int 3 p_3] nM, #[]⟩)
    {kW fI fA : Addr} {odI anI odA anA : Option Addr} {slI slA : Array (Option Value)} {ocI kVI dcI pmI cdI ctI ocA kVA dcA pmA cdA ctA : Value}
    (nW : PySem.W.nsIn K mainGlobals "Worth" = some (some (.ref kW)))
    (wI1 : PySem.W.findIn K (.ref kW) "__init__" = some (some (.ref fI)))
    (wI2 : PySem.W.isFn K (.ref fI) = true)
    (wI3 : K.lookup fI = some ⟨ocI, odI, .func (PySem.W.fnOf "__init__" "Worth.__init__" (defArgs s_Worth_init) (defBody s_Worth_init) (defScope s_Worth_init) .none kVI dcI pmI anI cdI ctI), slI⟩)
    (wI4 : PySem.W.codeIn K cdI "Worth.__init__" = true)
    (wI5 : PySem.W.keepIn K (.ref fI) = true)
    (wA1 : PySem.W.findIn K (.ref kW) "at" = some (some (.ref fA)))
    (wA2 : PySem.W.isFn K (.ref fA) = true)
    (wA3 : K.lookup fA = some ⟨ocA, odA, .func (PySem.W.fnOf "at" "Worth.at" (defArgs s_Worth_at) (defBody s_Worth_at) (defScope s_Worth_at) .none kVA dcA pmA anA cdA ctA), slA⟩)
    (wA4 : PySem.W.codeIn K cdA "Worth.at" = true)
    (wA5 : PySem.W.keepIn K (.ref fA) = true)
    (pg : PySem.W.plainGet K kW Str.empty = true)
    (hd : PySem.W.hasDictIn K kW = true)
    (po : PySem.W.plainOver K kW = true)
    (sa : PySem.W.findIn K (.ref kW) "__setattr__" = some (some (.builtin "object.__setattr__")))
    (mk : PySem.W.makesIn K kW = true)
    (kc : PySem.W.keepIn K (.ref kW) = true)
    (n_start : PySem.W.findIn K (.ref kW) "start" = some none)
    (n_side : PySem.W.findIn K (.ref kW) "side" = some none)
    (n_least : PySem.W.findIn K (.ref kW) "least" = some none)
    (n_most : PySem.W.findIn K (.ref kW) "most" = some none)
    (n_turned : PySem.W.findIn K (.ref kW) "turned" = some none)
    (n_bound : PySem.W.findIn K (.ref kW) "bound" = some none)
    : ∃ fd : FuncData, (∀ (s : Shared) (v : Value), BindsTo s fd ⟨[v], []⟩ [("script", v)]) ∧ ∀ base : Heap, K.In base → base.Ns mainGlobals mg → FnOk l.prog w K mg base (L2.CX l.prog w) 6 fa fd ["script"] (conc K spLaw) := by
  have e := hfa.symm.trans (PySem.W.mg_of X G a31)
  cases e
  have F0 := fun_mk (st := s_headings_of) l0 c0 k0
  have b0 := F0.binds (ps := ["spiral"]) fun _ _ _ _ _ _ us hl => match us, hl with | [_], _ => rfl
  have F1 := fun_mk (st := s_reach) l1 c1 k1
  have b1 := F1.binds (ps := ["box", "heading"]) fun _ _ _ _ _ _ us hl => match us, hl with | [_, _], _ => rfl
  have F2 := fun_mk (st := s_more_at) l2 c2 k2
  have b2 := F2.binds (ps := ["side", "distance"]) fun _ _ _ _ _ _ us hl => match us, hl with | [_, _], _ => rfl
  have F3 := fun_mk (st := s_need_box) l3 c3 k3
  have b3 := F3.binds (ps := ["box"]) fun _ _ _ _ _ _ us hl => match us, hl with | [_], _ => rfl
  have F4 := fun_mk (st := s_has_middle) l4 c4 k4
  have b4 := F4.binds (ps := ["box"]) fun _ _ _ _ _ _ us hl => match us, hl with | [_], _ => rfl
  have F5 := fun_mk (st := s_sides_in) l5 c5 k5
  have b5 := F5.binds (ps := ["spiral", "box"]) fun _ _ _ _ _ _ us hl => match us, hl with | [_, _], _ => rfl
  have F6 := fun_mk (st := s_aside) l6 c6 k6
  have b6 := F6.binds (ps := ["distance", "least", "most"]) fun _ _ _ _ _ _ us hl => match us, hl with | [_, _, _], _ => rfl
  have F7 := fun_mk (st := s_summed) l7 c7 k7
  have b7 := F7.binds (ps := ["first", "many", "worth"]) fun _ _ _ _ _ _ us hl => match us, hl with | [_, _, _], _ => rfl
  have F8 := fun_mk (st := s_pieces_of) l8 c8 k8
  have b8 := F8.binds (ps := ["near", "far", "least", "most"]) fun _ _ _ _ _ _ us hl => match us, hl with | [_, _, _, _], _ => rfl
  have F9 := fun_mk (st := s_box_sum) l9 c9 k9
  have b9 := F9.binds (ps := ["spiral", "box"]) fun _ _ _ _ _ _ us hl => match us, hl with | [_, _], _ => rfl
  have F10 := fun_mk (st := s_box_ends) l10 c10 k10
  have b10 := F10.binds (ps := ["spiral", "box"]) fun _ _ _ _ _ _ us hl => match us, hl with | [_, _], _ => rfl
  have F11 := fun_mk (st := s_law_folded) l11 c11 k11
  have b11 := F11.binds (ps := ["script"]) fun _ _ _ _ _ _ us hl => match us, hl with | [_], _ => rfl
  have F12 := fun_mk (st := s_law_seed) l12 c12 k12
  have b12 := F12.binds (ps := ["cell"]) fun _ _ _ _ _ _ us hl => match us, hl with | [_], _ => rfl
  have F13 := fun_mk (st := s_law_draw) l13 c13 k13
  have b13 := F13.binds (ps := ["seed", "most"]) fun _ _ _ _ _ _ us hl => match us, hl with | [_, _], _ => rfl
  have F14 := fun_mk (st := s_law_spiral) l14 c14 k14
  have b14 := F14.binds (ps := ["seed"]) fun _ _ _ _ _ _ us hl => match us, hl with | [_], _ => rfl
  have F15 := fun_mk (st := s_law_headings) l15 c15 k15
  have b15 := F15.binds (ps := ["spiral"]) fun _ _ _ _ _ _ us hl => match us, hl with | [_], _ => rfl
  have F16 := fun_mk (st := s_law_by) l16 c16 k16
  have b16 := F16.binds (ps := ["place", "heading"]) fun _ _ _ _ _ _ us hl => match us, hl with | [_, _], _ => rfl
  have F17 := fun_mk (st := s_law_more_at) l17 c17 k17
  have b17 := F17.binds (ps := ["spiral", "place"]) fun _ _ _ _ _ _ us hl => match us, hl with | [_, _], _ => rfl
  have F18 := fun_mk (st := s_law_far) l18 c18 k18
  have b18 := F18.binds (ps := ["seed"]) fun _ _ _ _ _ _ us hl => match us, hl with | [_], _ => rfl
  have F19 := fun_mk (st := s_law_corner) l19 c19 k19
  have b19 := F19.binds (ps := ["seed"]) fun _ _ _ _ _ _ us hl => match us, hl with | [_], _ => rfl
  have F20 := fun_mk (st := s_law_cut) l20 c20 k20
  have b20 := F20.binds (ps := ["number"]) fun _ _ _ _ _ _ us hl => match us, hl with | [_], _ => rfl
  have F21 := fun_mk (st := s_law_box) l21 c21 k21
  have b21 := F21.binds (ps := ["seed"]) fun _ _ _ _ _ _ us hl => match us, hl with | [_], _ => rfl
  have F22 := fun_mk (st := s_law_place) l22 c22 k22
  have b22 := F22.binds (ps := ["heading", "at", "across"]) fun _ _ _ _ _ _ us hl => match us, hl with | [_, _, _], _ => rfl
  have F23 := fun_mk (st := s_law_side_at) l23 c23 k23
  have b23 := F23.binds (ps := ["spiral", "side", "heading", "across", "at"]) fun _ _ _ _ _ _ us hl => match us, hl with | [_, _, _, _, _], _ => rfl
  have F24 := fun_mk (st := s_law_stretch) l24 c24 k24
  have b24 := F24.binds (ps := ["spiral", "heading", "across", "far", "first", "last"]) fun _ _ _ _ _ _ us hl => match us, hl with | [_, _, _, _, _, _], _ => rfl
  have F25 := fun_mk (st := s_law_side) l25 c25 k25
  have b25 := F25.binds (ps := ["spiral", "place"]) fun _ _ _ _ _ _ us hl => match us, hl with | [_, _], _ => rfl
  have F26 := fun_mk (st := s_law_row) l26 c26 k26
  have b26 := F26.binds (ps := ["spiral", "heading", "across", "first", "last"]) fun _ _ _ _ _ _ us hl => match us, hl with | [_, _, _, _, _], _ => rfl
  have F27 := fun_mk (st := s_law_thin) l27 c27 k27
  have b27 := F27.binds (ps := ["seed", "spiral"]) fun _ _ _ _ _ _ us hl => match us, hl with | [_, _], _ => rfl
  have F28 := fun_mk (st := s_law_shorn) l28 c28 k28
  have b28 := F28.binds (ps := ["seed", "spiral", "box"]) fun _ _ _ _ _ _ us hl => match us, hl with | [_, _, _], _ => rfl
  have F29 := fun_mk (st := s_law_split) l29 c29 k29
  have b29 := F29.binds (ps := ["seed", "spiral", "box"]) fun _ _ _ _ _ _ us hl => match us, hl with | [_, _, _], _ => rfl
  have F30 := fun_mk (st := s_law_ends) l30 c30 k30
  have b30 := F30.binds (ps := ["spiral", "box"]) fun _ _ _ _ _ _ us hl => match us, hl with | [_, _], _ => rfl
  have F31 := fun_mk (st := s_law) l31 c31 k31
  have kM : KTup K mg "MORE" [.int (-3), .int (-1), .int 1, .int 3] := ⟨aM, PySem.W.mg_of X G m0, fun ad H => rp_wtpI4 m1 ad H⟩
  have FI := fun_mk (st := s_Worth_init) wI3 wI4 wI5
  have FA := fun_mk (st := s_Worth_at) wA3 wA4 wA5
  have bI := FI.binds (ps := ["self", "start", "side", "begin", "least", "most"]) fun _ _ _ _ _ _ us hl => match us, hl with | [_, _, _, _, _, _], _ => rfl
  have bA := FA.binds (ps := ["self", "distance"]) fun _ _ _ _ _ _ us hl => match us, hl with | [_, _], _ => rfl
  have T : Txt K w mg kW := {
    cW := ⟨pg, hd, po, sa⟩
    nW_start := n_start
    nW_side := n_side
    nW_least := n_least
    nW_most := n_most
    nW_turned := n_turned
    nW_bound := n_bound
    i_Worth := ⟨fI, _, FI, ⟨mk, wI1, wI2, kc⟩, PySem.W.mg_of X G nW, bI⟩
    m_Worth_at := ⟨fA, _, FA, ⟨wA1, wA2, wA5⟩, bA⟩
    k_MORE := kM
    d_headings_of := ⟨_, _, F0, PySem.W.mg_of X G a0, b0⟩
    d_reach := ⟨_, _, F1, PySem.W.mg_of X G a1, b1⟩
    d_more_at := ⟨_, _, F2, PySem.W.mg_of X G a2, b2⟩
    d_need_box := ⟨_, _, F3, PySem.W.mg_of X G a3, b3⟩
    d_has_middle := ⟨_, _, F4, PySem.W.mg_of X G a4, b4⟩
    d_sides_in := ⟨_, _, F5, PySem.W.mg_of X G a5, b5⟩
    d_aside := ⟨_, _, F6, PySem.W.mg_of X G a6, b6⟩
    d_summed := ⟨_, _, F7, PySem.W.mg_of X G a7, b7⟩
    d_pieces_of := ⟨_, _, F8, PySem.W.mg_of X G a8, b8⟩
    d_box_sum := ⟨_, _, F9, PySem.W.mg_of X G a9, b9⟩
    d_box_ends := ⟨_, _, F10, PySem.W.mg_of X G a10, b10⟩
    d_law_folded := ⟨_, _, F11, PySem.W.mg_of X G a11, b11⟩
    d_law_seed := ⟨_, _, F12, PySem.W.mg_of X G a12, b12⟩
    d_law_draw := ⟨_, _, F13, PySem.W.mg_of X G a13, b13⟩
    d_law_spiral := ⟨_, _, F14, PySem.W.mg_of X G a14, b14⟩
    d_law_headings := ⟨_, _, F15, PySem.W.mg_of X G a15, b15⟩
    d_law_by := ⟨_, _, F16, PySem.W.mg_of X G a16, b16⟩
    d_law_more_at := ⟨_, _, F17, PySem.W.mg_of X G a17, b17⟩
    d_law_far := ⟨_, _, F18, PySem.W.mg_of X G a18, b18⟩
    d_law_corner := ⟨_, _, F19, PySem.W.mg_of X G a19, b19⟩
    d_law_cut := ⟨_, _, F20, PySem.W.mg_of X G a20, b20⟩
    d_law_box := ⟨_, _, F21, PySem.W.mg_of X G a21, b21⟩
    d_law_place := ⟨_, _, F22, PySem.W.mg_of X G a22, b22⟩
    d_law_side_at := ⟨_, _, F23, PySem.W.mg_of X G a23, b23⟩
    d_law_stretch := ⟨_, _, F24, PySem.W.mg_of X G a24, b24⟩
    d_law_side := ⟨_, _, F25, PySem.W.mg_of X G a25, b25⟩
    d_law_row := ⟨_, _, F26, PySem.W.mg_of X G a26, b26⟩
    d_law_thin := ⟨_, _, F27, PySem.W.mg_of X G a27, b27⟩
    d_law_shorn := ⟨_, _, F28, PySem.W.mg_of X G a28, b28⟩
    d_law_split := ⟨_, _, F29, PySem.W.mg_of X G a29, b29⟩
    d_law_ends := ⟨_, _, F30, PySem.W.mg_of X G a30, b30⟩
    c_HEADINGS := ⟨_, PySem.W.mg_of X G y_HEADINGS⟩
    z_range := PySem.W.mg_none_of X G z_range
    z_max := PySem.W.mg_none_of X G z_max
    z_min := PySem.W.mg_none_of X G z_min
    z_len := PySem.W.mg_none_of X G z_len
    z_int := PySem.W.mg_none_of X G z_int
    z_list := PySem.W.mg_none_of X G z_list
    z_zip := PySem.W.mg_none_of X G z_zip
    z_sorted := PySem.W.mg_none_of X G z_sorted
    z_abs := PySem.W.mg_none_of X G z_abs
    z_set := PySem.W.mg_none_of X G z_set
    z_tuple := PySem.W.mg_none_of X G z_tuple }
  exact ⟨_, fun s v => .of_eq rfl, fun base _ _ => FnOk.ofA F31 sc_law (by rintro _ _ _ _ ⟨_, rfl, _⟩; rfl) (run_law T)⟩
end L3
open PySem PySem.W PyProof.Rows in
set_option maxRecDepth 100000 in
set_option maxHeartbeats 0 in
theorem PySem.Challenge.cw_laidround_k13_sums_of_far_boxes_holds : PySem.Challenge.rw_laidround_k13_sums_of_far_boxes.Holds := by
  w_on; o_law; k_head; (case hw => w_witness2)
  k_fill
  refine L3.walk (l := PySem.Challenge.rw_laidround_k13_sums_of_far_boxes) (k := 6) rfl rfl ⟨rfl, by decide, by decide⟩ (fun w h Y => PySem.W.kIn_of Y) ?F
  case F =>
    intro w mg fa h KX G hmg
    refine' L3.all_mk KX G hmg ?a0 ?l0 ?c0 ?k0 ?a1 ?l1 ?c1 ?k1 ?a2 ?l2 ?c2 ?k2 ?a3 ?l3 ?c3 ?k3 ?a4 ?l4 ?c4 ?k4 ?a5 ?l5 ?c5 ?k5 ?a6 ?l6 ?c6 ?k6 ?a7 ?l7 ?c7 ?k7 ?a8 ?l8 ?c8 ?k8 ?a9 ?l9 ?c9 ?k9 ?a10 ?l10 ?c10 ?k10 ?a11 ?l11 ?c11 ?k11 ?a12 ?l12 ?c12 ?k12 ?a13 ?l13 ?c13 ?k13 ?a14 ?l14 ?c14 ?k14 ?a15 ?l15 ?c15 ?k15 ?a16 ?l16 ?c16 ?k16 ?a17 ?l17 ?c17 ?k17 ?a18 ?l18 ?c18 ?k18 ?a19 ?l19 ?c19 ?k19 ?a20 ?l20 ?c20 ?k20 ?a21 ?l21 ?c21 ?k21 ?a22 ?l22 ?c22 ?k22 ?a23 ?l23 ?c23 ?k23 ?a24 ?l24 ?c24 ?k24 ?a25 ?l25 ?c25 ?k25 ?a26 ?l26 ?c26 ?k26 ?a27 ?l27 ?c27 ?k27 ?a28 ?l28 ?c28 ?k28 ?a29 ?l29 ?c29 ?k29 ?a30 ?l30 ?c30 ?k30 ?a31 ?l31 ?c31 ?k31 ?y_HEADINGS ?z_range ?z_max ?z_min ?z_len ?z_int ?z_list ?z_zip ?z_sorted ?z_abs ?z_set ?z_tuple ?m0 ?m1 ?nW ?wI1 ?wI2 ?wI3 ?wI4 ?wI5 ?wA1 ?wA2 ?wA3 ?wA4 ?wA5 ?pg ?hd ?po ?sa ?mk ?kc ?n_start ?n_side ?n_least ?n_most ?n_turned ?n_bound
    (case a0 => k_is)
    (case l0 => k_is)
    (case c0 => k_is)
    (case k0 => k_is)
    (case a1 => k_is)
    (case l1 => k_is)
    (case c1 => k_is)
    (case k1 => k_is)
    (case a2 => k_is)
    (case l2 => k_is)
    (case c2 => k_is)
    (case k2 => k_is)
    (case a3 => k_is)
    (case l3 => k_is)
    (case c3 => k_is)
    (case k3 => k_is)
    (case a4 => k_is)
    (case l4 => k_is)
    (case c4 => k_is)
    (case k4 => k_is)
    (case a5 => k_is)
    (case l5 => k_is)
    (case c5 => k_is)
    (case k5 => k_is)
    (case a6 => k_is)
    (case l6 => k_is)
    (case c6 => k_is)
    (case k6 => k_is)
    (case a7 => k_is)
    (case l7 => k_is)
    (case c7 => k_is)
    (case k7 => k_is)
    (case a8 => k_is)
    (case l8 => k_is)
    (case c8 => k_is)
    (case k8 => k_is)
    (case a9 => k_is)
    (case l9 => k_is)
    (case c9 => k_is)
    (case k9 => k_is)
    (case a10 => k_is)
    (case l10 => k_is)
    (case c10 => k_is)
    (case k10 => k_is)
    (case a11 => k_is)
    (case l11 => k_is)
    (case c11 => k_is)
    (case k11 => k_is)
    (case a12 => k_is)
    (case l12 => k_is)
    (case c12 => k_is)
    (case k12 => k_is)
    (case a13 => k_is)
    (case l13 => k_is)
    (case c13 => k_is)
    (case k13 => k_is)
    (case a14 => k_is)
    (case l14 => k_is)
    (case c14 => k_is)
    (case k14 => k_is)
    (case a15 => k_is)
    (case l15 => k_is)
    (case c15 => k_is)
    (case k15 => k_is)
    (case a16 => k_is)
    (case l16 => k_is)
    (case c16 => k_is)
    (case k16 => k_is)
    (case a17 => k_is)
    (case l17 => k_is)
    (case c17 => k_is)
    (case k17 => k_is)
    (case a18 => k_is)
    (case l18 => k_is)
    (case c18 => k_is)
    (case k18 => k_is)
    (case a19 => k_is)
    (case l19 => k_is)
    (case c19 => k_is)
    (case k19 => k_is)
    (case a20 => k_is)
    (case l20 => k_is)
    (case c20 => k_is)
    (case k20 => k_is)
    (case a21 => k_is)
    (case l21 => k_is)
    (case c21 => k_is)
    (case k21 => k_is)
    (case a22 => k_is)
    (case l22 => k_is)
    (case c22 => k_is)
    (case k22 => k_is)
    (case a23 => k_is)
    (case l23 => k_is)
    (case c23 => k_is)
    (case k23 => k_is)
    (case a24 => k_is)
    (case l24 => k_is)
    (case c24 => k_is)
    (case k24 => k_is)
    (case a25 => k_is)
    (case l25 => k_is)
    (case c25 => k_is)
    (case k25 => k_is)
    (case a26 => k_is)
    (case l26 => k_is)
    (case c26 => k_is)
    (case k26 => k_is)
    (case a27 => k_is)
    (case l27 => k_is)
    (case c27 => k_is)
    (case k27 => k_is)
    (case a28 => k_is)
    (case l28 => k_is)
    (case c28 => k_is)
    (case k28 => k_is)
    (case a29 => k_is)
    (case l29 => k_is)
    (case c29 => k_is)
    (case k29 => k_is)
    (case a30 => k_is)
    (case l30 => k_is)
    (case c30 => k_is)
    (case k30 => k_is)
    (case a31 => k_is)
    (case l31 => k_is)
    (case c31 => k_is)
    (case k31 => k_is)
    (case y_HEADINGS => k_is)
    (case z_range => k_is)
    (case z_max => k_is)
    (case z_min => k_is)
    (case z_len => k_is)
    (case z_int => k_is)
    (case z_list => k_is)
    (case z_zip => k_is)
    (case z_sorted => k_is)
    (case z_abs => k_is)
    (case z_set => k_is)
    (case z_tuple => k_is)
    (case m0 => k_is)
    (case m1 => k_is)
    (case nW => k_is)
    (case wI1 => k_is)
    (case wI2 => k_is)
    (case wI3 => k_is)
    (case wI4 => k_is)
    (case wI5 => k_is)
    (case wA1 => k_is)
    (case wA2 => k_is)
    (case wA3 => k_is)
    (case wA4 => k_is)
    (case wA5 => k_is)
    (case pg => k_is)
    (case hd => k_is)
    (case po => k_is)
    (case sa => k_is)
    (case mk => k_is)
    (case kc => k_is)
    (case n_start => k_is)
    (case n_side => k_is)
    (case n_least => k_is)
    (case n_most => k_is)
    (case n_turned => k_is)
    (case n_bound => k_is)
#print axioms PySem.Challenge.cw_laidround_k13_sums_of_far_boxes_holds
